import PyProof.Rows.All
import Wide.All
import OpenK.AllK
import Wide.FinOn
import Lean
import PySem.Challenge.RW_sm0024_01
noncomputable section
set_option autoImplicit false
set_option linter.all false
set_option genCtorIdx false
set_option bootstrap.genMatcherCode false
set_option genSizeOf false
set_option genInjectivity false
set_option tactic.hygienic false
set_option maxRecDepth 100000
set_option backward.match.sparseCases false
namespace Mine
open Option renaming some→ac,none→au,bind→lj,map_eq_some_iff→xI,bind_some→ri,map→qG,isNone_iff_eq_none→G1,isSome_iff_exists→Lo,map_some→Lp,toList_some→Re,join_some→Rf,rec→Rg,join→ZG
open Bool renaming true→ak,false→aF,noConfusion→cG,and_eq_true_iff→jY,false_ne_true→mI,or_eq_true_iff→qS,eq_false_iff→wm,and_false→uB,eq_iff_iff→Al,or_false→Am,eq_false_or_eq_true→Lr,not_eq_true'→G4,and_eq_true→G5,or_eq_false_iff→Ls,of_not_eq_false→Rh,not_eq_true→Ri,or_eq_true→Rj,and_true→Rk,rec→Lu,false_and→ZH,and_assoc→ZI,or_assoc→ZJ,or_true→ZK
open Nat renaming le_trans→a5,le_of_ble_eq_true→dT,le_add_right→ff,le_refl→c9,lt_of_lt_of_le→iN,lt_succ_self→je,add_le_add_left→kN,zero_le→fC,succ_le_succ→jG,le_succ→fQ,lt_of_le_of_lt→ni,add_le_add_right→qh,le_of_succ_le→ou,le_of_lt→jH,add_right_comm→qT,le_of_eq→lm,zero_add→nu,ne_of_lt→nv,le_of_lt_succ→uf,lt_of_succ_lt→vg,le_of_not_lt→vh,sub_add_cancel→tg,le_of_succ_le_succ→wo,mul_le_mul_left→uC,le_succ_of_le→ti,sub_self→nZ,not_lt→lw,lt_succ_of_lt→uD,add_assoc→qH,noConfusion→tj,add_le_add→tq,succ_pos→qI,succ_add_eq_add_succ→DL,add_right_cancel→An,le_antisymm→wp,not_lt_zero→yh,add_comm→uE,lt_succ_of_le→Ao,blt→lx,lt_add_of_pos_right→G6,lt_of_le_of_ne→DM,min_eq_left→DN,succ→tr,le_add_left→G7,mul_succ→DO,add_sub_cancel→Lv,zero_lt_of_lt→Lw,lt_irrefl→G8,succ_lt_succ→Lx,lt_of_succ_lt_succ→Rm,sub_le→DP,le_sub_one_of_lt→Rn,not_succ_le_self→Ro,mul_le_mul→Ly,lt_or_eq_of_le→Rp,lt_of_not_le→Rq,sub_add_comm→Rr,one_pos→Lz,sub_lt→LA,lt_one_iff→Rs,ne_of_gt→Rt,lt_trans→Ru,sub_lt_iff_lt_add'→ZL,le_of_sub_eq_zero→ZM,le_sub_of_add_le→ZN,lt_sub_of_add_lt→ZO,add_lt_of_lt_sub→ZP,eq_or_lt_of_le→ZQ,blt_eq→Rv,le_of_pred_lt→ZR,sub_sub_self→ZS,succ_ne_zero→ZT,le_of_not_le→ZU,min_eq_right→ZV,strongRecOn→ZW,lt_or_ge→ZX,succ_add→ZY,min_self→ZZ
open _root_ renaming List→ao,Nat→af,rfl→ag,Option→aM,Bool→av,congrArg→a7,of_decide_eq_true→eX,if_pos→bD,absurd→bW,decide_eq_true→jx,trivial→di,if_neg→cL,Int→aN,beq_self_eq_true→ug,False→dj,beq_iff_eq→mi,cond→cE,decide_eq_decide→wq,of_decide_eq_false→yi,decide_eq_false→wu,beq_eq_false_iff_ne→Ap,Sum→cF,Array→kC,String→pC,decide_eq_true_iff→LB,Unit→jE,funext→rj,True→kD,Decidable→DQ,instLENat→DR,instLTNat→G9,DecidableEq→LC,beq_false_of_ne→Rw,not_or→DS,or_false→LD,bne_iff_ne→Rx
open Option.some renaming inj→cp
open List renaming length_map→b9,getElem?_eq_getElem→ed,length_append→dg,getElem?_eq_some_iff→fM,take_length→eG,mem_cons_self→fF,mem_of_getElem?→gM,mem_cons→eH,mem_cons_of_mem→jf,not_mem_nil→hU,getElem?_append_right→nO,mem_singleton→jg,size_toArray→jy,getElem?_map→j9,forall_mem_cons→oZ,range→gw,prefix_refl→lK,mem_map→iO,getElem?_append_left→sJ,mem_append_right→qU,append_nil→ny,all_eq_true→ow,replicate→mJ,mem_append_left→rM,length_cons→o3,isEmpty_iff→o4,getElem?_set_ne→sK,append_assoc→qi,mem_filter→o5,contains_iff_mem→vi,mem_append→pD,length_mapIdx→sL,length_set→qj,length_filter_le→wv,length_range→sM,length_reverse→vj,mem_range→qk,length_singleton→zm,getElem?_mapIdx→uF,map_append→qJ,reverse_cons→tu,getElem?_of_mem→ww,length_take_le'→wx,map_map→oM,take_add_one→uG,getElem?_toArray→yj,length_filterMap_le→Aq,countP_cons→uH,contains_eq_mem→Ar,foldl_append→yk,any_eq_true→yl,prefix_append→As,getD_eq_getElem?_getD→Ha,find?_cons→ym,ext_getElem?→Au,map_congr_left→DT,getElem_mem→Av,length→uI,set_cons_succ→DU,take_of_length_le→Hb,range_succ→Aw,nodup_cons→Ax,set_append_right→Hc,nodup_append→DV,length_drop→DX,length_take→DY,filterMap_cons→He,mem_map_of_mem→Hf,length_pos_iff→Hg,length_take_le→Hh,getElem?_take_of_lt→LF,eraseIdx_append_of_length_le→Ry,getElem?_set_self→LG,take_left→DZ,countP_singleton→LH,getElem?_eq_none→LJ,lookup_cons→Hi,replicate_succ→LK,mem_filterMap→LL,countP_append→LM,filterMap_cons_some→Rz,map_cons→Hj,map_nil→Hk,nil_append→LN,filter_nil→LO,foldl_cons→LP,forIn_cons→LQ,filterMap_append→RA,length_replicate→RB,mem_of_mem_take→RD,forIn_nil→LR,map_eq_nil_iff→RE,getElem?_range→RF,mergeSort_perm→RG,replicate_zero→RI,any_cons→LU,getElem?_drop→RJ,getElem_range→RK,getElem?_set→RM,flatMap_cons→RN,flatten_cons→RO,take_append_of_le_length→Z0,not_lt→LV,find?_some→RP,countP_map→RQ,getElem?_concat_length→Z1,take_zero→RR,nodup_nil→RT,foldl→LW,drop_eq_getElem_cons→Z2,mem_of_find?_eq_some→Z3,getElem?_eq_none_iff→Z4,getElem?_zip_eq_some→Z5,map_take→RU,le_trans→RV,length_eq_zero_iff→Z6,pairwise_mergeSort→Z7,getElem?_set_self'→Z8,filter_eq_nil_iff→Z9,drop_of_length_le→aaa,length_eq_one_iff→aab,set_getElem_self→aac,countP_le_length→aad,eq_nil_or_concat→aae,concat_eq_append→aaf,mem_of_mem_drop→aag,map→LX,getElem?_zipIdx→aah,append_toArray→aai,find?_eq_none→aaj,length_zipIdx→aak,map_singleton→aal,push_toArray→aam,flatMap_nil→aan,filter_cons→aao,cons_ne_nil→aap,map_fst_zip→aaq,map_const'→aar,length_zip→aas,of_mem_zip→aat,tail_drop→aau,filterMap→aav,drop_zero→aaw,le_total→aax,take_nil→aay
open PySem renaming Value→aH,wpAny_bind→bV,Shared→bz,Str→aI,Expr→aT,wpAny_pure→fV,Addr→be,wpAny_holding→jI,Around→dD,Comprehension→lL,wpAny_standAt→mN,Stmt→cy,markedEach→pE,assignInOrder→uJ,Pos→bG,Heap→dW,mainGlobals→tx,foldedSetIterable→Ay,sizeLine→oN,evalEach→oO,DictEntry→qK,letOwnedTupleGo→Az,eval→fo,sysModules→uK,builtinsNs→uL,starEach→qL,FuncData→qM,Env→cB,pyIter→mj,swappedStores→AA,codeAny→pF,call→gH,model→ke,recursionLimit→D3,assign→n6,exec→gB,Scope→kE,assignEach→yn,CmpOp→ly,compEnvC→uM,wpAny_execs_nil→Hl,wpAny_Assign_stores→LY,holding→tz,compareChain→D4,Obj→dF,wpAny_truthy_bool→LZ,standAt→uN,getMethod_builtin→L0,wpAny_assignInOrder_none→RX,NameKind→yo,notIterableAtAll→L1,Program→wy,call_meets→D5,spliced→wz,backTo→tA,pyNext→tB,compareOp→D6,getItem→yp,testChain→D7,wpAny_Tuple_spliced→RY,wpAny→rm,wpAny_release→L3,wpAny_mono→Hm,wpAny_assign_Tuple→RZ,wpAny_pyIter_list→R5,nsFind→yq,Sem→gO,truthy→yr,swapsWith→Hn,Result→yt,Params→yu,subscripted→L4,wpAny_of_eq→L5,strKind_is→L6,constantsAlone→R6,ExceptHandler→R7,foldedForSure→R8,swapsWithSole→R9,mem_of_lookup→Sa,World→yv,cLine→yw,list_append→aaz,seqItems?→L7,OsState→Ho,wpAny_allTrue_And_cons→aaA,bootBuiltins→Sb,wpAny_allTrue_Or_cons→aaB,codeAny_call_function→aaC,reprText→L8,Operator→L9,intItems→Ma,wpAny_loadName_local→aaD,callWith→Mb,interactive→Sd,unpackItems→Se,bindName→Mc,bindArgs→Md,wpAny_loadName_cell→aaE,wpAny_loadName_free→aaF,wpAny_isTrue_BoolOp→aaG,Tok→mO,IsPart→Hp,wpAny_rule→Sf,stored→aaH,isTrue→Hq,wpAny_List_spliced→aaI,slot_dict_getitem→aaJ,slot_list_getitem→aaK,numAt→D8,Keyword→Me,wpAny_newObj_type→aaL,wpAny_pyIter_enum→aaM,wpAny_getItem_of→aaN,evalPairs→Sg,pairTrees→Si,wpAny_execs_cons→aaO,firstIter→Sj,Arguments→Sk,cellsFrom→Sl
open LawfulBEq renaming eq_of_beq→cz
open PySem.Heap renaming get?_push_of_some→ql,get?_push_size→rN,lt_size→mq,SameBut→yx,dictOf_iff→D9,size_push→Mf
open Decidable renaming decide→dc
open Int renaming ofNat_lt→nz,natCast_nonneg→wA,ofNat_le→tC,toNat_natCast→Ea,le_trans→yy,fmod→tD,lt_of_lt_of_le→Mg,not_lt→Eb,sub_eq_add_neg→Sm,fdiv→Hr,not_le→Mh,eq_ofNat_of_zero_le→aaP,le_of_lt→Sn,toNat_of_nonneg→aaQ,natCast_add→aaR,ofNat_sub→aaS,le_natAbs→aaT,add_assoc→aaU,ofNat_inj→aaV,lt_irrefl→aaW,sub_zero→aaX,toNat_lt→aaY
open Nat.succ renaming inj→pG
open PySem.Str renaming ofString→mP
open PySem.NameKind renaming free→tE,cell→Ec
open Pure renaming pure→dM
open False renaming elim→rt
open PySem.W renaming instObj→mw,findIn→kF,keepIn→oP,Frag→ib,emptyDict→yz,handedIn→Hs,hasDictIn→Mi,plainOver→Mj,WData→yA,typeIn→Ed
open ForInStep renaming yield→Ee
open Sum.inr renaming inj→yB
open PySem.F renaming slot_dict_get→Mk,slot_list_append→So,slot_list_pop→Sp,args_list_append_2→aaZ,entry_list_append→aa0,plainAttrs_dict→aa1,plainAttrs_list→aa2,entry_list_pop→aa3,entry_dict_get→aa4,slot_int_rmul→aa5,type_dict_get→aa6
open PySem.Value renaming isStrOf→Ef
open Classical renaming byContradiction→Sq,choose→aa7,em→aa8
open Array renaming getElem?_toList→Sr,toList→Ss,mem_toList_iff→aa9,find?_toList→aba
open List.cons renaming inj→Ml
open Int.ofNat renaming inj→Mm
open PySem.Builtin.Tuple renaming tupleIsExact→abb,tupleItemsOf→afK
open PySem.Builtin.List renaming listFitsIndex→abc
open PySem.Builtin.Range renaming rangeSize→abd
open List.Perm renaming eq_of_pairwise→abe
open PyProof.Rows renaming slot_tuple_getitem→Su,spliced_none→Mn,tail_any→Ht
open PySem.Heap.IsSliceOf renaming new→abf
open PySem.Heap.SameBut renaming update→abg
open PySem.IsL renaming update→abh
open Ne renaming symm→Hu
open PySem.Value.str renaming inj→abi
open Sum renaming inr→Mo
open PySem.PyData renaming keyHash→abj
open PySem.Txt renaming slice→Sv
open PySem.Calls renaming Name_function_global→abk,loadGlobal_builtin→abl
open LE renaming le→Eg
open Prod.mk renaming inj→abm
open BEq renaming comm→Sw
open PySem.MeetsSeq renaming list_pop_last→afL,list_pop_at→afM
open LT renaming lt→Hv
open List.Pairwise renaming imp_of_mem→afN,cons→afO,nil→afP
section
open PySem
section
universe u
@[elab_as_elim] def aq {α:Sort u} {a b:α} {P:α→Prop} (h:a=b) (k:P b):P a:=h▸k
@[elab_as_elim] def iu {α:Sort u} {a b:α} {P:α→Prop} (h:b=a) (k:P b):P a:=h▸k
def bn{α:Type}{x:α}{P:Prop}(h:au=ac x):P:=nomatch h
def rO{n:af}{P:af→Prop}(h0:P 0)(h:∀k,k<n→P (k+1)):∀k,k<n+1→P k:=fun k=>by
 induction k with
 |zero=>exact fun q9=>h0
 |succ k=>exact fun z=>h k (Rm z)
def acu{P:af→Prop}:∀k,k<0→P k:=fun k z=>bW z (yh k)
def ac8{l gl x y B K:af}(h1:l+x≤B)(h2:gl≤K)(h3:y+K≤x):l+gl+y≤B:=
 a5 (lm (qH l gl y)) (a5 (kN (a5 (qh h2 y) (a5 (lm (uE K y)) h3)) l) h1)
def Xv{h u:af}(k:1+u≤h):(h:aN)-1=((h-(1+u)+u:af):aN):=by
 rw [Nat.sub_add_eq,tg (ZN (uE 1 u▸k))]
 exact (aaS (a5 (ff 1 u) k)).symm
def Xw{h u:af}(k:0+u≤h):(h:aN)-0=((h-(0+u)+u:af):aN):=by
 rw [nu,tg (nu u▸k),aaX]
def ac9{a x y k k2 m:af}(h:a+1+k≤m)(e:k=k2+(3+y))(n:x≤2+y):a+x+k2≤m-1:=by
 subst e
 refine Rn (iN (ni (qh (kN n a) k2) ?_) h)
 rw [qT a 1,qH a,uE (2+y) k2,qH a]
 exact Ao (kN (kN (qh (by decide) y) k2) a)
def afQ{n m l:af}(h:n+1≤m+l)(k:l≤n):n+1≤m-1+(l+1):=by
 rw [uE l 1,← qH,tg (Nat.pos_of_ne_zero fun z=>by rw [z,nu] at h;exact Ro _ (a5 h k))]
 exact h
def afR{n:aN}{m:af}(h:n.natAbs≤m):-(m:aN)≤n:=Int.neg_le_of_neg_le (yy (Int.natAbs_neg n▸aaT) (tC.mpr h))
def abn{n:aN}{m:af}(h:n.natAbs≤m):n≤m:=yy aaT (tC.mpr h)
def N6{n:aN}{m:af}(h:n.natAbs≤m):n.toNat≤m:=Int.toNat_le.mpr (abn h)
def Ut{i:aN}{n:af}(h:0≤i)(k:i<n):i.toNat<n:=(aaY h).mpr k
def afS{i:aN}(h:i<0):-i=(i.natAbs:aN):=(Int.ofNat_natAbs_of_nonpos (Sn h)).symm
def afT{n k:af}(h:n≤500)(h':k≤500):((n:aN)-k).natAbs≤1000000:=a5 (Int.natAbs_sub_le _ _) (a5 (tq h h') (by decide))
def N7{u u' d c:af}(h:u'≤u+4)(k:u+20*(d+1)+20<c):u'+3+20*d+20<c:=
 ni (by rw [DO,uE (20*d) 20,← qH];exact qh (qh (a5 (qh h 3) (kN (by decide:4+3≤20) u)) _) _) k
def N8{u u' d c:af}(h:u'=u+1)(k:u+4*(d+1)<c):u'+1+4*d<c:=
 ni (by rw [h,DO,uE (4*d) 4,← qH];exact qh (kN (by decide:1+1≤4) u) _) k
def Uu{u u' d c:af}(h:u'=u+1)(k:u+4*(d+1)<c):u'<c:=ni (a5 (fQ u') (ff _ _)) (N8 h k)
def ada{u d c:af}(k:u+4*(d+1)<c):u+1+4*d<c:=
 ni (by rw [DO,uE (4*d) 4,← qH];exact qh (kN (by decide:1≤4) u) _) k
def adb{u d c:af}(k:u+20*(d+1)+20<c):u+3+20*d+20<c:=N7 (ff u 4) k
def ah2{u d c:af}(k:u+20*d+20<c):u+12<c:=ni (by rw [qT];exact a5 (kN (by decide) u) (ff _ _)) k
def adc{m i j:af}(Tf:i<j)(hj:j≤m):(m-j)+i<m:=iN (Nat.add_lt_add_left Tf _) (lm (tg hj))
def Xx{a b x y:af}(h1:a≤b)(h2:x≤y)(e:a+x=b+y):a=b∧x=y:=
 have z:x=y:=wp h2 (Nat.le_of_add_le_add_left (a:=b) (a5 (lm e.symm) (qh h1 x)))
 ⟨An (e.trans (a7 (b+ ·) z.symm)),z⟩
def afU{a t u q:af}(e:q+t=a+u):(a:aN)-(t:aN)+(u:aN)=(q:aN):=by
 have e':(q:aN)+t=a+u:=a7 Int.ofNat e
 rw [Sm,Int.add_right_comm,← e',aaU,Int.add_right_neg,Int.add_zero]
def ah3{m:af}(h:3≤m+1):m-1<m:=LA (vg (wo h)) Lz
def ah4{m:af}(h:3≤m+1):3≤m-1+2:=qh (ZN (wo h)) 2
def ah5{m:af}(h:3≤m+2):m-1<m:=LA (wo (wo h)) Lz
def ah6(m:af):3≤m-1+3:=G7 _ _
def afV{a l m:af}(h:dc ((a:aN)+l≤(m:aN)-2)=ak):a+l+2≤m:=tC.mp (Int.add_le_of_le_sub_right (eX h))
def Hw{α:Type}{n:af}{P:ao α→Prop}{l:ao α}(h:l.length=n+1)(k:∀a t,t.length=n→P (a::t)):P l:=by
 induction l with
 |nil=>cases h
 |cons a t=>exact k a t (pG h)
def afW{α:Type}{P:ao α→Prop}{l:ao α}(h:l.length=0)(k:P []):P l:=by
 induction l with
 |nil=>exact k
 |cons a t=>cases h
def abo{α:Type}{P:ao α→Prop}{l:ao α}(h:l.length=3)(k:∀x y z,P [x,y,z]):P l:=Hw h fun x t h=>Hw (P:=fun t=>P (x::t)) h fun y t h=>Hw (P:=fun t=>P (x::y::t)) h fun z t h=>afW (P:=fun t=>P (x::y::z::t)) h (k x y z)
def afX{α:Type}{P:ao α→Prop}{l:ao α}(h:l.length=5)(k:∀x y z w u,P [x,y,z,w,u]):P l:=Hw h fun x t h=>Hw (P:=fun t=>P (x::t)) h fun y t h=>abo (P:=fun t=>P (x::y::t)) h (k x y)
def ade{α:Type}{l:ao α}(h:l.length=3):∃x y z,l=[x,y,z] :=abo (P:=fun l=>∃x y z,l=[x,y,z]) h fun x y z=>⟨x,y,z,ag⟩
def adf{α:Type}{l:ao α}(h:l.length=5):∃x y z w u,l=[x,y,z,w,u] :=afX (P:=fun l=>∃x y z w u,l=[x,y,z,w,u]) h fun x y z w u=>⟨x,y,z,w,u,ag⟩
def aw{G:Prop}(h:∀{P:Prop},(G→P)→P):G:=h id
inductive am where
 |aA|aG (b:av)|ae (i:aN)|ah (s:aI)
 |bE (xs:ao am)|al (xs:ao am)|ic (c:af) (fs:ao am)
 |fn (k:af)|mQ (c:af)|bi (k:af)|rx (d:af)
 deriving Inhabited
noncomputable def am.ctorIdx(x:am):af:=am.casesOn (motive_1:=fun q9=>af) x 0 (fun q9=>1) (fun q9=>2) (fun q9=>3) (fun q9=>4) (fun q9=>5) (fun q9 q9=>6) (fun q9=>7) (fun q9=>8) (fun q9=>9) fun q9=>10
inductive aC where
 |f (v:am)|a6 (i:af)|fN (i:af)
 deriving Inhabited
inductive cD where
 |al (xs:ao am)|dK (es:ao (cF aN aI×am))|lM (c:af) (fs:ao aC)
 deriving Inhabited
noncomputable abbrev an:=ao (aM cD)
noncomputable abbrev bJ:=ao (aM aC)
inductive EX where|ci|fA|mR|yC|uO|wB(u:jE)
inductive Kq where|bN|ne|lz|gP|xJ|pH|fw|gm|AL|rz(u:jE)
mutual
inductive a8 where
 |aA|aG (b:av)|ae (i:aN)|ah (s:aI)
 |az (x:af)|aJ (g:af)
 |d6 (fz:av) (op:EX) (a b:a8)
 |g8 (a:a8)|tF (a:a8)
 |dX (xs:c4)|iP (xs:c4)
 |aL (a:a8) (cs:wC)
 |fB (c a b:a8)
 |aD (fz:av) (f:a8) (args:c4)
 |eI (o:a8) (name:aI) (args:c4)
 |aB (o:a8) (name:aI)
 |bx (o i:a8)
 |fT (fz:av) (o:a8) (lo hi:a8)
 |bE (xs:c4)
 |al (fz:av) (xs:c4)
 |xK (x rest:a8)
 |dK (kvs:c4)
 |dL (fz:av) (elt:a8) (gens:mT)
 |tG (e:a8)
 |xb
inductive c4 where
 |ab|O (e:a8) (r:c4)
inductive wC where
 |ab|O (op:Kq) (e:a8) (r:wC)
inductive mT where
 |ab|O (xs:ao af) (vZ:av) (it:yD) (ifs:c4) (r:mT)
inductive yD where
 |bk (e:a8)|gD (e:a8)|Dk (e:a8)|Eh (a b:a8)
end
mutual
inductive Hx where
 |cj (e:a8)
 |aW (x:af) (e:a8)
 |dS (xs:ao af) (es:c4)
 |j6 (xs:ao af) (e:a8)
 |kq (o i e:a8)
 |sn (o i p j a b:a8)
 |a9 (e:a8)
 |bg (c:a8) (a b:bK)
 |tY (n:af) (c:a8) (b:bK)
 |fY (xs:ao af) (vZ:av) (it:yD) (b:bK)
 |iz
 |AB (b:bK)
 |xb
inductive bK where
 |ab|O (s:Hx) (r:bK)
end
inductive abp where
 |bf (b:bK)
 |xL (c:af) (fs:ao (aI×a8))
structure cH where
 bq:aI
 aQ:af
 aY:ao aI
 bR:ao am
 bF:av
 bA:abp
structure nP where
 bq:aI
 cu:ao aI
 gW:af
 dZ:av
 mU:ao (aI×af)
noncomputable abbrev kv(s:aI)(v:am):aI×am:=(s,v)
structure vk where
 tZ:ao cH
 e6:ao nP
 tH:ao (aI×am)
 n7:ao (ao (aI×am))
noncomputable def abq:=5
noncomputable def Tg:=9
noncomputable def abr:=10
noncomputable def N9:=11
section
variable(σ:an)
noncomputable def cD.yE:cD→aM (ao am)
 |.al xs=>ac xs
 |_=>au
noncomputable def cD.abs:cD→aM (ao (cF aN aI×am))
 |.dK es=>ac es
 |_=>au
noncomputable def cD.abt:cD→aM (af×ao aC)
 |.lM c fs=>ac (c,fs)
 |_=>au
noncomputable def Bk(i:af):aM cD:=(σ[i]?).bind id
def jn(i:af):aM (ao am):=(Bk σ i).bind cD.yE
def pt(i:af):aM (ao (cF aN aI×am)):=(Bk σ i).bind cD.abs
def Bl(i:af):aM (af×ao aC):=(Bk σ i).bind cD.abt
noncomputable def am.yE:am→aM (ao am)
 |.al xs=>ac xs
 |_=>au
noncomputable def am.mK:am→aM aN
 |.ae i=>ac i
 |_=>au
noncomputable def am.xM:am→aM aI
 |.ah s=>ac s
 |_=>au
noncomputable def am.W3:am→aM (af×ao am)
 |.ic c fs=>ac (c,fs)
 |_=>au
noncomputable def am.Bm:am→aM af
 |.rx d=>ac d
 |_=>au
noncomputable def am.gT:am→av
 |.aA=>ak
 |_=>aF
noncomputable def aC.f?:aC→aM am
 |.f x=>ac x
 |_=>au
noncomputable def aC.wD:aC→aM af
 |.a6 i=>ac i
 |_=>au
noncomputable def aC.abu:aC→aM af
 |.fN i=>ac i
 |_=>au
def aC.mK(m:aC):aM aN:=m.f?.bind am.mK
def aC.xM(m:aC):aM aI:=m.f?.bind am.xM
def aC.gT(m:aC):av:=m.f?.any am.gT
def mV(m:aC):aM (ao am):=m.wD.elim (m.f?.bind am.yE) (jn σ)
@[irreducible] noncomputable def W4 (xs:ao am):aM (aC×an):=if xs.length≤100000 then ac (.a6 σ.length,σ++[ac (.al xs)]) else au
def jJ(fz:av)(xs:ao am):aM (aC×an):=match fz with
 |true=>if xs.length≤100000 then ac (.f (.al xs),σ) else au
 |false=>W4 σ xs
end
noncomputable def wE(f:am→am→aM av):ao am→ao am→aM av
 |x::xs,y::ys=>(f x y).bind fun a=>(wE f xs ys).map fun b=>a&&b
 |_,_=>ac ak
inductive I4 where|aA|aG(b:av)|ae(i:aN)|ah(s:aI)
noncomputable def AM:am→aM I4
 |.aA=>ac .aA
 |.aG b=>ac (.aG b)
 |.ae i=>ac (.ae i)
 |.ah s=>ac (.ah s)
 |_=>au
def gI(x:am):av:=(AM x).isSome
noncomputable def wF:am→aM (av×ao am)
 |.bE xs=>ac (ak,xs)
 |.al xs=>ac (aF,xs)
 |_=>au
noncomputable def Xm:I4→I4→av
 |.aA,.aA=>ak
 |.aG a,.aG b=>a==b
 |.ae a,.ae b=>a==b
 |.aG a,.ae b=>(if a then 1 else 0)==b
 |.ae a,.aG b=>a==(if b then 1 else 0)
 |.ah a,.ah b=>a==b
 |_,_=>aF
def qs:af→am→am→aM av
 | 0,_,_=>au
 |n+1,x,y=>match AM x with
  |some a=>(AM y).map (Xm a)
  |none=>(wF x).bind fun p=>(wF y).bind fun q=>if p.1=q.1 then (if p.2.length=q.2.length then wE (qs n) p.2 q.2 else cE p.1 au (ac aF)) else au
noncomputable def nJ:af:=12
@[irreducible] noncomputable def oy (x y:am):aM av:=qs nJ x y
def eqV(x y:am):aM av:=match x with
 |.ae a=>(match y with
  |.ae b=>ac (a==b)
  |_=>oy x y)
 |.ah a=>(match y with
  |.ah b=>ac (a==b)
  |_=>oy x y)
 |.aG a=>(match y with
  |.aG b=>ac (a==b)
  |_=>oy x y)
 |_=>oy x y
def adg(x y:am):eqV x y=qs nJ x y:=by
 have h:oy x y=qs nJ x y:=by unfold oy;rfl
 refine iu h ?_
 unfold eqV
 cases x with
 |ae a=>cases y with
  |ae b=>exact h.symm
  |_=>rfl
 |ah a=>cases y with
  |ah b=>exact h.symm
  |_=>rfl
 |aG a=>cases y with
  |aG b=>exact h.symm
  |_=>rfl
 |_=>rfl
def Ei(x:am):ao am→aM av
 |[] =>ac aF
 |y::ys=>if gI y&&gI x then (qs 1 y x).bind fun a=>(Ei x ys).map fun b=>a||b else au
@[irreducible] noncomputable def jh (x:am) (l:ao am):aM av:=Ei x l
def yF(σ:an)(m:aC):aM am:=m.wD.elim m.f? fun i=>(jn σ i).map .al
noncomputable def Th:am→aM av
 |.aA=>ac aF
 |.aG b=>ac b
 |.ae i=>ac (i !=0)
 |_=>au
def t5(σ:an)(v:aC):aM av:=v.f?.bind Th
noncomputable def iH(i:aN)(n:af):aM af:=
 if 0≤i then (if i<n∧i<2 ^ 62 then ac i.toNat else au) else if 0≤i+n∧-(2 ^ 62)<i then ac (i+n).toNat else au
noncomputable def lA:am→aM (cF aN aI)
 |.ae i=>ac (.inl i)
 |.ah s=>ac (.inr s)
 |_=>au
noncomputable def fD(k:cF aN aI)(es:ao (cF aN aI×am)):aM am:=(es.find? fun kv=>kv.1=k).map (·.2)
noncomputable def hY(es:ao (cF aN aI×am))(k:cF aN aI)(v:am):ao (cF aN aI×am):=
 if es.any (fun kv=>kv.1=k) then es.map (fun kv=>if kv.1=k then (kv.1,v) else kv) else es++[(k,v)]
section
variable(T:vk)
def acv(σ:an)(a b:aC):aM av:=a.f?.bind fun x=>(b.f?.bind am.Bm).elim (((yF σ b).bind wF).bind fun p=>jh x p.2) fun d=>(T.n7[d]?).bind fun es=>x.xM.map fun s=>(es.lookup s).isSome
def fg(σ:an)(op:Kq)(a b:aC):aM av:=
 match op with
 |.bN=>(yF σ a).bind fun x=>(yF σ b).bind fun y=>eqV x y
 |.ne=>(yF σ a).bind fun x=>(yF σ b).bind fun y=>(eqV x y).map (!·)
 |.lz=>a.mK.bind fun x=>b.mK.bind fun y=>ac (dc (x<y))
 |.gP=>a.mK.bind fun x=>b.mK.bind fun y=>ac (dc (x≤y))
 |.xJ=>a.mK.bind fun x=>b.mK.bind fun y=>ac (dc (y<x))
 |.pH=>a.mK.bind fun x=>b.mK.bind fun y=>ac (dc (y≤x))
 |.fw=>acv T σ a b
 |.gm=>(acv T σ a b).map (!·)
 |.AL=>cE b.gT (ac a.gT) au
 |.rz _=>cE b.gT (ac (!a.gT)) au
noncomputable def Mp(σ:an)(op:EX)(x y:aN):aM (aC×an):=match op with
 |.ci=>ac (.f (.ae (x+y)),σ)
 |.fA=>ac (.f (.ae (x-y)),σ)
 |.mR=>if x.natAbs<2 ^ 64∧y.natAbs<2 ^ 64 then ac (.f (.ae (x*y)),σ) else au
 |.yC=>if y=0∨¬y.natAbs<1073741824 then au else ac (.f (.ae (Hr x y)),σ)
 |.uO=>if y=0 then au else ac (.f (.ae (tD x y)),σ)
 |.wB _=>if x.natAbs<2 ^ 64∧0≤y∧y≤100 then ac (.f (.ae (x ^ y.toNat)),σ) else au
noncomputable def EX.afY:EX→av
 |.mR=>ak
 |_=>aF
noncomputable def EX.afZ:EX→av
 |.ci=>ak
 |_=>aF
def ah7(σ:an)(fz:av)(a b:aC):aM (aC×an):=(mV σ a).bind fun xs=>(mV σ b).bind fun ys=>jJ σ fz (xs++ys)
def adh(σ:an)(fz:av)(a:aC)(n:aN):aM (aC×an):=(mV σ a).bind fun xs=>if n.natAbs≤1000∧xs.length≤1000 then jJ σ fz (mJ n.toNat xs).flatten else au
def af0(σ:an)(fz:av)(op:EX)(a:aC)(n:aN):aM (aC×an):=a.mK.elim (cE op.afY (adh σ fz a n) au) fun x=>Mp σ op x n
def sN(σ:an)(fz:av)(op:EX)(a b:aC):aM (aC×an):=b.mK.elim (cE op.afZ (ah7 σ fz a b) au) (af0 σ fz op a)
def afa(m:aC):aM aC:=m.mK.map fun x=>.f (.ae (-x))
noncomputable def AN{β:Type}(c:af)(fs:ao β)(name:aI):aM β:=(T.e6[c]?).bind fun k=>(k.cu.idxOf? name).bind fun j=>fs[j]?
def Ej(σ:an)(o:aC)(name:aI):aM aC:=o.abu.elim ((o.f?.bind am.W3).bind fun p=>(AN T p.1 p.2 name).map .f) fun i=>(Bl σ i).bind fun p=>AN T p.1 p.2 name
def zn(σ:an)(o:aC)(k:cF aN aI):aM am:=(o.wD.bind (pt σ)).bind (fD k)
noncomputable def ah8(k:aI)(d:af):aM am:=(T.n7[d]?).bind fun es=>es.lookup k
def ah9(σ:an)(o:aC)(k:aI):aM am:=(o.f?.bind am.Bm).elim (zn σ o (.inr k)) (ah8 T k)
def aia(k:aN)(x:am):aM am:=(wF x).bind fun p=>(iH k p.2.length).bind (p.2[·]?)
def aib(σ:an)(o:aC)(k:aN):aM am:=(yF σ o).elim (zn σ o (.inl k)) (aia k)
def lN(σ:an)(o i:aC):aM am:=i.mK.elim (i.xM.bind (ah9 T σ o)) (aib σ o)
def aic(σ:an)(i:aC)(j:af)(x:am)(es:ao (cF aN aI×am)):aM an:=if es.length≤1000 then (i.f?.bind lA).map fun k=>σ.set j (ac (.dK (hY es k x))) else au
def aid(σ:an)(i:aC)(j:af)(x:am)(xs:ao am):aM an:=i.mK.bind fun k=>if 0≤k then (iH k xs.length).map fun p=>σ.set j (ac (.al (xs.set p x))) else au
def aie(σ:an)(i:aC)(j:af)(x:am):aM an:=(jn σ j).elim ((pt σ j).bind (aic σ i j x)) (aid σ i j x)
def o6(σ:an)(o i v:aC):aM an:=o.wD.bind fun j=>v.f?.bind (aie σ i j)
noncomputable def CJ{α:Type}(xs:ao α)(lo hi:aM af):ao α:=(xs.take (hi.getD xs.length)).drop (lo.getD 0)
def v0(m:aC):aM (aM af):=m.mK.elim (cE m.gT (ac au) au) fun i=>if 0≤i∧i.natAbs<2 ^ 62 then ac (ac i.toNat) else au
noncomputable def af1(σ:an)(l h:aM af)(s:aI):aM (aC×an):=cE l.isSome au (h.bind fun b=>if s.length≤100000 then ac (.f (.ah (Sv s au (ac (b:aN)))),σ) else au)
noncomputable def af2(σ:an)(l h:aM af)(xs:ao am):aM (aC×an):=cE h.isSome au (l.bind fun a=>if a≤xs.length∧xs.length≤100000 then ac (.f (.bE (xs.drop a)),σ) else au)
def adi(σ:an)(fz:av)(l h:aM af)(xs:ao am):aM (aC×an):=if xs.length≤100000 then jJ σ fz (CJ xs l h) else au
def af3(σ:an)(fz:av)(l h:aM af)(p:av×ao am):aM (aC×an):=cE p.1 (af2 σ l h p.2) (adi σ fz l h p.2)
def slF(σ:an)(fz:av)(l h:aM af)(x:am):aM (aC×an):=(wF x).elim (x.xM.bind (af1 σ l h)) (af3 σ fz l h)
def lO(σ:an)(fz:av)(o lo hi:aC):aM (aC×an):=(v0 lo).bind fun l=>(v0 hi).bind fun h=>(yF σ o).bind (slF σ fz l h)
noncomputable def iA:am→aM aI
 |.aA=>ac "None"
 |.aG ak=>ac "True"
 |.aG aF=>ac "False"
 |.ae i=>if i.natAbs<10 ^ 10 then ac (mP (toString i)) else au
 |.ah s=>if (L8 s).length≤100000 then ac (L8 s) else au
 |_=>au
inductive TyK where|aA|aG|ae|ah|bE|Oa(u:jE)
noncomputable def tyK:am→TyK
 |.aA=>.aA
 |.aG _=>.aG
 |.ae _=>.ae
 |.ah _=>.ah
 |.bE _=>.bE
 |_=>.Oa ()
noncomputable def am.afb:am→aM af
 |.mQ c=>ac c
 |_=>au
noncomputable def am.bi?:am→aM af
 |.bi k=>ac k
 |_=>au
def abv(k:af)(t:TyK):aM av:=
 if k=abq then (match t with|.ae|.aG=>ac ak|_=>au)
 else if k=Tg then (match t with|.aG=>ac ak|.ae|.ah=>ac aF|_=>au)
 else if k=abr then (match t with|.ah=>ac ak|_=>au)
 else if k=N9 then (match t with|.bE=>ac ak|.aA=>ac aF|_=>au)
 else au
def afc(v:am)(t:am):aM av:=t.afb.elim (t.bi?.bind fun k=>abv k (tyK v)) fun c=>v.W3.bind fun p=>if c=p.1 then ac ak else au
noncomputable def Hy:ao am→aM (ao aN)
 |[] =>ac []
 |.ae i::r=>(Hy r).map (i:: ·)
 |_=>au
noncomputable def Sx:ao am→aM (ao aI)
 |[] =>ac []
 |.ah i::r=>(Sx r).map (i:: ·)
 |_=>au
noncomputable def ji(a b:aI):av:=dc (a.cps.toList≤b.cps.toList)
def aif(x:am):aM af:=(wF x).elim (x.xM.map Str.length) fun p=>ac p.2.length
noncomputable def Pb:ao aC→aM aC
 |[a] =>ac a
 |_=>au
noncomputable def acw:ao aC→aM (aC×aC)
 |[a,b] =>ac (a,b)
 |_=>au
noncomputable def af4(f:aN→aN→aN):ao aN→aM aN
 |i::r=>ac (r.foldl f i)
 |[] =>au
noncomputable def am.abw:am→aM av
 |.aG b=>ac b
 |_=>au
def acx(σ:an)(fz:av)(a:aC):aM (aC×an):=(yF σ a).bind fun x=>(aif x).bind fun n=>if n≤100000 then ac (.f (.ae n),σ) else au
def Sy(σ:an)(fz:av)(a:aC):aM (aC×an):=(yF σ a).bind fun x=>(wF x).bind fun p=>jJ σ fz p.2
def AC(f:aN→aN→aN)(σ:an)(fz:av)(a:aC):aM (aC×an):=(mV σ a).bind fun xs=>(Hy xs).bind fun is=>(af4 f is).map fun i=>(.f (.ae i),σ)
def acy(σ:an)(fz:av)(a:aC):aM (aC×an):=a.mK.map fun i=>(.f (.ae i.natAbs),σ)
def acz(σ:an)(fz:av)(a:aC):aM (aC×an):=(a.f?.bind am.abw).map fun b=>(.f (.ae (if b then 1 else 0)),σ)
def Sz(σ:an)(fz:av)(a:aC):aM (aC×an):=(a.f?.bind iA).map fun s=>(.f (.ah s),σ)
def SA(σ:an)(fz:av)(a:aC):aM (aC×an):=(mV σ a).bind fun xs=>(Sx xs).bind fun ss=>if ss.length<64 then jJ σ fz ((ss.mergeSort ji).map .ah) else au
def aig(σ:an)(p:aC×aC):aM (aC×an):=p.1.f?.bind fun v=>p.2.f?.bind fun t=>(afc v t).map fun b=>(.f (.aG b),σ)
def abx:ao (an→av→aC→aM (aC×an)):=[acx,Sy,AC max,AC min,acy,acz,Sz,SA]
def eP(σ:an)(fz:av)(k:af)(args:ao aC):aM (aC×an):=
 cE (Nat.beq k 8) ((acw args).bind (aig σ)) ((Pb args).bind fun a=>(abx[k]?).bind fun f=>f σ fz a)
inductive rP where
 |eA|g6|jV|Ig|fn (g:af)
noncomputable def rP.ctorIdx(x:rP):af:=rP.casesOn (motive:=fun q9=>af) x 0 1 2 3 fun q9=>4
noncomputable def EY(c:af)(name:aI):aM rP:=(T.e6[c]?).bind fun k=>(k.mU.lookup name).map .fn
def adj(σ:an)(i:af)(name:aI):aM rP:=(jn σ i).elim ((pt σ i).bind fun q9=>if name="get" then ac .jV else au) fun q9=>if name="append" then ac .eA else if name="pop" then ac .g6 else au
def adk(x:am)(name:aI):aM rP:=x.Bm.elim (x.W3.bind fun p=>EY T p.1 name) fun d=>if name="get" then (T.n7[d]?).map fun q9=>.Ig else au
def lB(σ:an)(o:aC)(name:aI):aM rP:=match o with
 |.a6 i=>adj σ i name
 |.fN i=>(Bl σ i).bind fun p=>EY T p.1 name
 |.f x=>adk T x name
noncomputable def SB(σ:an)(i:af)(xs:ao am)(p:af):aM (aC×an):=if xs.length≤100000 then (xs[p]?).map fun x=>(.f x,σ.set i (ac (.al (xs.eraseIdx p)))) else au
def aih(σ:an)(args:ao aC)(i:af)(xs:ao am):aM (aC×an):=((Pb args).bind aC.f?).bind fun x=>if xs.length≤100000 then ac (.f .aA,σ.set i (ac (.al (xs++[x])))) else au
def aii(σ:an)(i:af)(xs:ao am)(a:aC):aM (aC×an):=a.mK.bind fun k=>(iH k xs.length).bind fun p=>SB σ i xs p
def aij(σ:an)(args:ao aC)(i:af)(xs:ao am):aM (aC×an):=(Pb args).elim (cE args.isEmpty (SB σ i xs (xs.length-1)) au) (aii σ i xs)
def aik(σ:an)(args:ao aC)(es:ao (cF aN aI×am)):aM (aC×an):=((Pb args).bind aC.xM).map fun k=>(.f ((fD (.inr k) es).getD .aA),σ)
def af5(σ:an)(d:af)(p:aC×aC):aM (aC×an):=p.1.xM.bind fun k=>p.2.f?.bind fun v=>(T.n7[d]?).map fun es=>(.f ((es.lookup k).getD v),σ)
def kG(σ:an)(κ:rP)(o:aC)(args:ao aC):aM (aC×an):=match κ with
 |.eA=>o.wD.bind fun i=>(jn σ i).bind (aih σ args i)
 |.g6=>o.wD.bind fun i=>(jn σ i).bind (aij σ args i)
 |.jV=>o.wD.bind fun i=>(pt σ i).bind (aik σ args)
 |.Ig=>(o.f?.bind am.Bm).bind fun d=>(acw args).bind (af5 T σ d)
 |.fn _=>au
def acA(σ:an)(m:aC):aM (aC×an):=m.wD.elim (m.f?.map fun x=>(.f x,σ)) fun i=>(jn σ i).map fun xs=>(.f (.al xs),σ.set i au)
noncomputable def cU(n:aN):ao am:=(gw n.toNat).map fun (i:af)=>.ae i
noncomputable def eO(xs:ao am):ao am:=(xs.zipIdx).map fun (p:am×af)=>.bE [.ae p.2,p.1]
noncomputable def jB(xs ys:ao am):ao am:=(xs.zip ys).map fun (p:am×am)=>.bE [p.1,p.2]
noncomputable def Hz:am→av
 |.bE _=>ak
 |_=>aF
def IB(tp:av):aC→aM (ao am)
 |.f (.al xs)=>if tp then (if xs.all Hz then ac xs else au) else ac xs
 |.f (.bE xs)=>if tp then au else ac xs
 |_=>au
noncomputable def nQ(s:aI):ao am:=s.cps.toList.map fun c=>.ah ⟨#[c]⟩
noncomputable def iZ:mT→ao af
 |.ab=>[]
 |.O xs _ _ _ r=>xs++iZ r
noncomputable def aby(ρ:bJ)(xs:ao af):av:=xs.all fun x=>(ρ[x]?).join.isNone
inductive yG where
 |aS|iz|a9 (v:aC)
end
end
noncomputable def JM:cH where
 bq:="__init__"
 aQ:=5
 aY:=["self","op","a","b","c","line"]
 bR:=[]
 bF:=aF
 bA:=.xL 0 [("op",(.az 1)),
 ("a",(.az 2)),
 ("b",(.az 3)),
 ("c",(.az 4)),
 ("line",(.az 5))]
noncomputable def xc:cH where
 bq:="with_target"
 aQ:=2
 aY:=["self","target"]
 bR:=[]
 bF:=aF
 bA:=.bf (.O (.a9 (.aD ak (.aJ 0) (.O (.aB (.az 0) "op") (.O (.az 1) (.O (.aB (.az 0) "b") (.O (.aB (.az 0) "c") (.O (.aB (.az 0) "line") .ab)))))))
 .ab)
noncomputable def EA:cH where
 bq:="__init__"
 aQ:=5
 aY:=["self","sort","first","last","target","depth"]
 bR:=[]
 bF:=aF
 bA:=.xL 1 [("sort",(.az 1)),
 ("first",(.az 2)),
 ("last",(.az 3)),
 ("target",(.az 4)),
 ("depth",(.az 5))]
noncomputable def Bn:cH where
 bq:="covers"
 aQ:=2
 aY:=["self","place"]
 bR:=[]
 bF:=aF
 bA:=.bf (.O (.a9 (.aL (.aB (.az 0) "first") (.O .gP (.az 1) (.O .lz (.aB (.az 0) "last") .ab))))
 .ab)
noncomputable def HA:cH where
 bq:="__init__"
 aQ:=8
 aY:=["self","kind","name","params","slots","rows","catches","children","starts"]
 bR:=[]
 bF:=aF
 bA:=.xL 2 [("kind",(.az 1)),
 ("name",(.az 2)),
 ("params",(.az 3)),
 ("slots",(.az 4)),
 ("rows",(.az 5)),
 ("catches",(.az 6)),
 ("children",(.az 7)),
 ("starts",(.az 8)),
 ("number",.aA)]
noncomputable def zc:cH where
 bq:="with_rows"
 aQ:=5
 aY:=["self","rows","catches","starts","children"]
 bR:=[]
 bF:=aF
 bA:=.bf (.O (.a9 (.aD ak (.aJ 1) (.O (.aB (.az 0) "kind") (.O (.aB (.az 0) "name") (.O (.aB (.az 0) "params") (.O (.aB (.az 0) "slots") (.O (.az 1) (.O (.az 2) (.O (.az 4) (.O (.az 3) .ab))))))))))
 .ab)
noncomputable def HB:cH where
 bq:="effect_of"
 aQ:=1
 aY:=["row","told"]
 bR:=[]
 bF:=aF
 bA:=.bf (.O (.aW 1 (.bx (.aJ 2) (.aB (.az 0) "op")))
 (.O (.a9 (.fB (.aD ak (.aJ 3) (.O (.az 1) (.O (.aJ 4) .ab))) (.az 1) (.aD ak (.az 1) (.O (.az 0) .ab))))
 .ab))
noncomputable def JN:cH where
 bq:="is_whole"
 aQ:=1
 aY:=["value"]
 bR:=[]
 bF:=aF
 bA:=.bf (.O (.a9 (.dX (.O (.aD ak (.aJ 3) (.O (.az 0) (.O (.aJ 5) .ab))) (.O (.g8 (.aD ak (.aJ 3) (.O (.az 0) (.O (.aJ 6) .ab)))) .ab))))
 .ab)
noncomputable def EB:cH where
 bq:="is_operand"
 aQ:=3
 aY:=["row","letter","value"]
 bR:=[]
 bF:=aF
 bA:=.bf (.O (.bg (.aL (.az 1) (.O .fw (.bE (.O (.ah "n") (.O (.ah "t") .ab))) .ab)) (.O (.a9 (.aD ak (.aJ 3) (.O (.az 2) (.O (.aJ 7) .ab))))
 .ab) .ab)
 (.O (.bg (.aL (.az 1) (.O .fw (.bE (.O (.ah "c") (.O (.ah "p") .ab))) .ab)) (.O (.a9 (.dX (.O (.aD ak (.aJ 8) (.O (.az 2) .ab)) (.O (.aL (.az 2) (.O .pH (.ae 0) .ab)) .ab))))
 .ab) .ab)
 (.O (.bg (.aL (.az 1) (.O .bN (.ah "a") .ab)) (.O (.a9 (.dX (.O (.aD ak (.aJ 8) (.O (.az 2) .ab)) (.O (.aL (.az 2) (.O .pH (.tF (.ae 1)) .ab)) .ab))))
 .ab) .ab)
 (.O (.bg (.aL (.az 1) (.O .bN (.ah "i") .ab)) (.O (.a9 (.aD ak (.aJ 8) (.O (.az 2) .ab)))
 .ab) .ab)
 (.O (.bg (.aL (.az 1) (.O .bN (.ah "f") .ab)) (.O (.a9 (.aD ak (.aJ 3) (.O (.az 2) (.O (.aJ 6) .ab))))
 .ab) .ab)
 (.O (.bg (.aL (.az 1) (.O .bN (.ah "r") .ab)) (.O (.a9 (.iP (.O (.aL (.az 2) (.O .AL .aA .ab)) (.O (.aL (.az 2) (.O .bN (.ae 1) .ab)) .ab))))
 .ab) .ab)
 (.O (.bg (.aL (.az 1) (.O .bN (.ah "k") .ab)) (.O (.a9 (.aD ak (.aJ 3) (.O (.az 2) (.O (.bE (.O (.aJ 9) (.O (.aJ 4) .ab))) .ab))))
 .ab) .ab)
 (.O (.bg (.aL (.az 1) (.O .bN (.ah "b") .ab)) (.O (.a9 (.aD ak (.aJ 10) (.O (.az 2) .ab)))
 .ab) .ab)
 (.O (.a9 (.fB (.aL (.az 1) (.O .bN (.ah "s") .ab)) (.aD ak (.aJ 11) (.O (.az 0) (.O (.az 2) .ab))) (.aG ak)))
 .ab)))))))))
noncomputable def JO:cH where
 bq:="child_of"
 aQ:=1
 aY:=["row","block"]
 bR:=[]
 bF:=aF
 bA:=.bf (.O (.bg (.aL (.aB (.az 0) "op") (.O .bN (.ah "lambda") .ab)) (.O (.a9 (.bE (.O (.aB (.az 0) "a") (.O (.ah "block") .ab))))
 .ab) .ab)
 (.O (.bg (.aL (.aB (.az 0) "op") (.O .fw (.bE (.O (.ah "def") (.O (.ah "sdef") .ab))) .ab)) (.O (.a9 (.bE (.O (.aB (.az 0) "b") (.O (.ah "method") .ab))))
 .ab) .ab)
 (.O (.bg (.aL (.aB (.az 0) "op") (.O .fw (.bE (.O (.ah "class") (.O (.ah "module") .ab))) .ab)) (.O (.a9 (.bE (.O (.aB (.az 0) "b") (.O (.ah "class") .ab))))
 .ab) .ab)
 (.O (.bg (.aL (.aB (.az 0) "op") (.O .bN (.ah "sclass") .ab)) (.O (.a9 (.bE (.O (.aB (.az 0) "a") (.O (.ah "class") .ab))))
 .ab) .ab)
 (.O (.aW 1 .aA)
 (.O (.bg (.aL (.aB (.az 0) "op") (.O .bN (.ah "send") .ab)) (.O (.aW 1 (.bx (.aB (.az 0) "c") (.ae 1)))
 .ab) (.O (.bg (.aL (.aB (.az 0) "op") (.O .bN (.ah "super") .ab)) (.O (.aW 1 (.aB (.az 0) "b"))
 .ab) (.O (.bg (.aL (.aB (.az 0) "op") (.O .bN (.ah "zsuper") .ab)) (.O (.aW 1 (.aB (.az 0) "a"))
 .ab) .ab)
 .ab))
 .ab))
 (.O (.a9 (.fB (.aD ak (.aJ 3) (.O (.az 1) (.O (.aJ 4) .ab))) (.bE (.O (.bx (.az 1) (.ae 1)) (.O (.ah "block") .ab))) .aA))
 .ab)))))))
noncomputable def zY:cH where
 bq:="__init__"
 aQ:=2
 aY:=["self","code","outer"]
 bR:=[]
 bF:=aF
 bA:=.xL 3 [("code",(.az 1)),
 ("seen",(.fB (.aL (.aB (.az 1) "kind") (.O .bN (.ah "block") .ab)) (.xK (.az 1) (.az 2)) (.al ak (.O (.az 1) .ab)))),
 ("depths",(.d6 aF .mR (.al ak (.O .aA .ab)) (.aD ak (.aJ 12) (.O (.aB (.az 1) "rows") .ab)))),
 ("waiting",(.al aF .ab))]
noncomputable def zd:cH where
 bq:="reach"
 aQ:=4
 aY:=["self","place","depth","origin","known"]
 bR:=[]
 bF:=aF
 bA:=.bf (.O (.bg (.iP (.O (.g8 (.aD ak (.aJ 8) (.O (.az 1) .ab))) (.O (.g8 (.aL (.ae 0) (.O .gP (.az 1) (.O .lz (.aD ak (.aJ 12) (.O (.aB (.aB (.az 0) "code") "rows") .ab)) .ab)))) .ab))) (.O (.cj .xb)
 .ab) .ab)
 (.O (.aW 4 (.bx (.aB (.az 0) "depths") (.az 1)))
 (.O (.bg (.aL (.az 4) (.O .AL .aA .ab)) (.O (.kq (.aB (.az 0) "depths") (.az 1) (.az 2))
 (.O (.cj (.eI (.aB (.az 0) "waiting") "append" (.O (.az 1) .ab)))
 .ab)) (.O (.bg (.aL (.az 4) (.O .ne (.az 2) .ab)) (.O (.cj .xb)
 .ab) .ab)
 .ab))
 .ab)))
noncomputable def rQ:bK:=(.O (.bg (.g8 (.aD ak (.aJ 14) (.O (.az 2) (.O (.az 6) (.O (.bx (.az 4) (.az 5)) .ab))))) (.O (.cj .xb)
 .ab) .ab)
 .ab)
noncomputable def rR:a8:=.dL ak (.az 7) (.O [7] aF (.bk (.fT ak (.az 4) (.aD ak (.aJ 12) (.O (.az 3) .ab)) .aA)) (.O (.aL (.az 7) (.O (.rz ()) .aA .ab)) .ab) .ab)
def uq:cH where
 bq:="need_form"
 aQ:=3
 aY:=["self","place","row","letters","told","at","letter","value"]
 bR:=[]
 bF:=aF
 bA:=.bf (.O (.bg (.iP (.O (.g8 (.aD ak (.aJ 3) (.O (.az 2) (.O (.aJ 0) .ab)))) (.O (.g8 (.aD ak (.aJ 3) (.O (.aB (.az 2) "op") (.O (.aJ 7) .ab)))) (.O (.aL (.aB (.az 2) "op") (.O .gm (.aJ 2) .ab)) .ab)))) (.O (.cj .xb)
 .ab) .ab)
 (.O (.dS [3,4] (.O (.eI (.aJ 13) "get" (.O (.aB (.az 2) "op") (.O (.ah "") .ab))) (.O (.bE (.O (.aB (.az 2) "a") (.O (.aB (.az 2) "b") (.O (.aB (.az 2) "c") .ab)))) .ab)))
 (.O (.fY [5,6] ak (.Dk (.az 3)) rQ)
 (.O (.bg (.aL rR (.O .ne (.al ak .ab) .ab)) (.O (.cj .xb)
 .ab) .ab)
 (.O (.bg (.dX (.O (.aL (.aB (.az 2) "op") (.O .fw (.aJ 15) .ab)) (.O (.aL (.aB (.az 2) "a") (.O .pH (.aD ak (.aJ 12) (.O (.aB (.aB (.az 0) "code") "rows") .ab)) .ab)) .ab))) (.O (.cj .xb)
 .ab) .ab)
 .ab)))))
noncomputable def tU:cH where
 bq:="need_slots"
 aQ:=3
 aY:=["self","place","row"]
 bR:=[]
 bF:=aF
 bA:=.bf (.O (.bg (.iP (.O (.aL (.aB (.az 2) "a") (.O .pH (.aD ak (.aJ 12) (.O (.aB (.az 0) "seen") .ab)) .ab)) (.O (.aL (.aB (.az 2) "b") (.O .pH (.aD ak (.aJ 12) (.O (.aB (.bx (.aB (.az 0) "seen") (.aB (.az 2) "a")) "slots") .ab)) .ab)) .ab))) (.O (.cj .xb)
 .ab) .ab)
 .ab)
noncomputable def tV:cH where
 bq:="need_child"
 aQ:=3
 aY:=["self","place","row","told","index","kind"]
 bR:=[]
 bF:=aF
 bA:=.bf (.O (.aW 3 (.aD ak (.aJ 16) (.O (.az 2) .ab)))
 (.O (.bg (.aL (.az 3) (.O (.rz ()) .aA .ab)) (.O (.j6 [4,5] (.az 3))
 (.O (.bg (.iP (.O (.g8 (.aL (.ae 0) (.O .gP (.az 4) (.O .lz (.aD ak (.aJ 12) (.O (.aB (.aB (.az 0) "code") "children") .ab)) .ab)))) (.O (.aL (.aB (.bx (.aB (.aB (.az 0) "code") "children") (.az 4)) "kind") (.O .ne (.az 5) .ab)) .ab))) (.O (.cj .xb)
 .ab) .ab)
 .ab)) .ab)
 .ab))
noncomputable def lC:bK:=(.O (.bg (.eI (.az 2) "covers" (.O (.az 1) .ab)) (.O (.bg (.aL (.az 4) (.O .lz (.aB (.az 2) "depth") .ab)) (.O (.cj .xb)
 .ab) .ab)
 (.O (.cj (.eI (.az 0) "reach" (.O (.aB (.az 2) "target") (.O (.d6 ak .ci (.aB (.az 2) "depth") (.ae 1)) (.O (.az 1) .ab)))))
 .ab)) .ab)
 .ab)
def ot:cH where
 bq:="step"
 aQ:=2
 aY:=["self","place","one","row","depth","taken","put"]
 bR:=[]
 bF:=aF
 bA:=.bf (.O (.dS [3,4] (.O (.bx (.aB (.aB (.az 0) "code") "rows") (.az 1)) (.O (.bx (.aB (.az 0) "depths") (.az 1)) .ab)))
 (.O (.j6 [5,6] (.aD ak (.aJ 17) (.O (.az 3) .ab)))
 (.O (.bg (.aL (.az 4) (.O .lz (.az 5) .ab)) (.O (.cj .xb)
 .ab) .ab)
 (.O (.bg (.aL (.aB (.az 3) "op") (.O .fw (.aJ 15) .ab)) (.O (.cj (.eI (.az 0) "reach" (.O (.aB (.az 3) "a") (.O (.d6 ak .ci (.d6 ak .fA (.az 4) (.az 5)) (.az 6)) (.O (.az 1) .ab)))))
 .ab) .ab)
 (.O (.bg (.aL (.aB (.az 3) "op") (.O .gm (.aJ 18) .ab)) (.O (.cj (.eI (.az 0) "reach" (.O (.d6 ak .ci (.az 1) (.ae 1)) (.O (.d6 ak .ci (.d6 ak .fA (.az 4) (.az 5)) (.az 6)) (.O (.az 1) .ab)))))
 .ab) .ab)
 (.O (.fY [2] aF (.bk (.aB (.aB (.az 0) "code") "catches")) lC)
 .ab))))))
noncomputable def p9:a8:=.dL ak (.aD ak (.aJ 8) (.O (.az 4) .ab)) (.O [4] aF (.bk (.az 3)) .ab .ab)
def qa:bK:=(.O (.aW 2 (.aD ak (.aJ 12) (.O (.aB (.aB (.az 0) "code") "rows") .ab)))
 (.O (.aW 3 (.fB (.aD ak (.aJ 3) (.O (.az 1) (.O (.aJ 19) .ab))) (.al ak (.O (.aB (.az 1) "first") (.O (.aB (.az 1) "last") (.O (.aB (.az 1) "target") (.O (.aB (.az 1) "depth") .ab))))) (.al ak (.O .aA .ab))))
 (.O (.bg (.iP (.O (.aL (.aG aF) (.O .fw p9 .ab)) (.O (.aL (.aB (.az 1) "sort") (.O .gm (.aJ 20) .ab)) (.O (.g8 (.aL (.ae 0) (.O .gP (.bx (.az 3) (.ae 0)) (.O .lz (.bx (.az 3) (.ae 1)) (.O .gP (.az 2) .ab))))) .ab)))) (.O .xb
 .ab) .ab)
 (.O (.bg (.iP (.O (.g8 (.aL (.ae 0) (.O .gP (.aB (.az 1) "target") (.O .lz (.az 2) .ab)))) (.O (.aL (.aB (.az 1) "depth") (.O .lz (.ae 0) .ab)) .ab))) (.O .xb
 .ab) .ab)
 .ab))))
def rS:cH where
 bq:="need_catches"
 aQ:=1
 aY:=["self","one","many","at","n"]
 bR:=[]
 bF:=aF
 bA:=.bf (.O (.fY [1] aF (.bk (.aB (.aB (.az 0) "code") "catches")) qa)
 .ab)
noncomputable def xd:bK:=(.O (.cj (.eI (.az 0) "need_form" (.O (.az 2) (.O (.az 3) .ab))))
 (.O (.bg (.aL (.aB (.az 3) "op") (.O .fw (.bE (.O (.ah "getl") (.O (.ah "setl") .ab))) .ab)) (.O (.cj (.eI (.az 0) "need_slots" (.O (.az 2) (.O (.az 3) .ab))))
 .ab) .ab)
 (.O (.cj (.eI (.az 0) "need_child" (.O (.az 2) (.O (.az 3) .ab))))
 .ab)))
noncomputable def xe:bK:=(.O (.cj (.eI (.az 0) "reach" (.O (.az 1) (.O (.ae 0) (.O (.az 1) .ab)))))
 .ab)
noncomputable def xf:a8:=(.aL (.aD ak (.aJ 12) (.O (.aB (.az 0) "waiting") .ab)) (.O .xJ (.ae 0) .ab))
noncomputable def xg:bK:=(.O (.cj (.eI (.az 0) "step" (.O (.eI (.aB (.az 0) "waiting") "pop" .ab) .ab)))
 .ab)
def Bo:cH where
 bq:="run"
 aQ:=1
 aY:=["self","start","place","row"]
 bR:=[]
 bF:=aF
 bA:=.bf (.O (.bg (.iP (.O (.aL (.aB (.aB (.az 0) "code") "kind") (.O .gm (.aJ 21) .ab)) (.O (.aL (.aD ak (.aJ 12) (.O (.aB (.aB (.az 0) "code") "starts") .ab)) (.O .bN (.ae 0) .ab)) .ab))) (.O .xb
 .ab) .ab)
 (.O (.fY [2,3] ak (.Dk (.aB (.aB (.az 0) "code") "rows")) xd)
 (.O (.cj (.eI (.az 0) "need_catches" .ab))
 (.O (.fY [1] aF (.bk (.aB (.aB (.az 0) "code") "starts")) xe)
 (.O (.tY 1000 xf xg)
 .ab)))))
noncomputable def zZ:a8:=.dL ak (.az 4) (.O [4] aF (.bk (.aB (.az 0) "children")) (.O (.g8 (.aD ak (.aJ 3) (.O (.az 4) (.O (.aJ 1) .ab)))) .ab) .ab)
noncomputable def z7:bK:=(.O (.cj (.aD ak (.aJ 23) (.O (.az 3) (.O (.fB (.aL (.aB (.az 3) "kind") (.O .bN (.ah "block") .ab)) (.aB (.az 2) "seen") (.bE .ab)) .ab))))
 .ab)
def wW:cH where
 bq:="check_rows"
 aQ:=2
 aY:=["code","outer","check","child","child"]
 bR:=[(.bE [])]
 bF:=aF
 bA:=.bf (.O (.aW 2 (.aD ak (.aJ 22) (.O (.az 0) (.O (.az 1) .ab))))
 (.O (.bg (.aL zZ (.O .ne (.al ak .ab) .ab)) (.O .xb
 .ab) .ab)
 (.O (.cj (.eI (.az 2) "run" .ab))
 (.O (.fY [3] aF (.bk (.aB (.az 0) "children")) z7)
 (.O (.a9 (.tG (.aB (.az 2) "depths")))
 .ab)))))
noncomputable def Uv:cH where
 bq:="is_op"
 aQ:=2
 aY:=["row","ops"]
 bR:=[]
 bF:=aF
 bA:=.bf (.O (.a9 (.dX (.O (.aL (.az 0) (.O (.rz ()) .aA .ab)) (.O (.aL (.aB (.az 0) "op") (.O .fw (.az 1) .ab)) .ab))))
 .ab)
noncomputable def Uw:cH where
 bq:="truth"
 aQ:=1
 aY:=["value"]
 bR:=[]
 bF:=aF
 bA:=.bf (.O (.a9 (.dX (.O (.aL (.az 0) (.O (.rz ()) .aA .ab)) (.O (.g8 (.dX (.O (.aD ak (.aJ 3) (.O (.az 0) (.O (.aJ 6) .ab))) (.O (.g8 (.az 0)) .ab)))) .ab))))
 .ab)
noncomputable def Dl:bK:=(.O (.bg (.aL (.aB (.az 2) "op") (.O .fw (.aJ 15) .ab)) (.O (.kq (.az 1) (.aB (.az 2) "a") (.aG ak))
 .ab) .ab)
 .ab)
noncomputable def Dm:bK:=(.O (.kq (.az 1) (.aB (.az 3) "target") (.aG ak))
 .ab)
noncomputable def Dn:bK:=(.O (.kq (.az 1) (.az 4) (.aG ak))
 .ab)
def JP:cH where
 bq:="marks_of"
 aQ:=1
 aY:=["code","found","row","one","start"]
 bR:=[]
 bF:=aF
 bA:=.bf (.O (.aW 1 (.d6 aF .mR (.al ak (.O (.aG aF) .ab)) (.d6 ak .ci (.aD ak (.aJ 12) (.O (.aB (.az 0) "rows") .ab)) (.ae 1))))
 (.O (.fY [2] aF (.bk (.aB (.az 0) "rows")) Dl)
 (.O (.fY [3] aF (.bk (.aB (.az 0) "catches")) Dm)
 (.O (.fY [4] aF (.bk (.aB (.az 0) "starts")) Dn)
 (.O (.a9 (.tG (.az 1)))
 .ab)))))
noncomputable def ED:bK:=(.O (.cj (.eI (.az 6) "append" (.O (.aD ak (.aJ 12) (.O (.az 3) .ab)) .ab)))
 (.O (.bg (.aL (.az 2) (.O (.rz ()) .aA .ab)) (.O (.cj (.eI (.az 3) "append" (.O (.az 2) .ab)))
 .ab) .ab)
 .ab))
noncomputable def EE:a8:=.dL aF (.fB (.aL (.aB (.az 9) "op") (.O .fw (.aJ 15) .ab)) (.eI (.az 9) "with_target" (.O (.bx (.az 6) (.aB (.az 9) "a")) .ab)) (.az 9)) (.O [9] aF (.bk (.tG (.az 3))) .ab .ab)
noncomputable def EF:bK:=(.O (.dS [7,8] (.O (.bx (.az 6) (.aB (.az 5) "first")) (.O (.bx (.az 6) (.aB (.az 5) "last")) .ab)))
 (.O (.bg (.aL (.az 7) (.O .lz (.az 8) .ab)) (.O (.cj (.eI (.az 4) "append" (.O (.aD ak (.aJ 19) (.O (.aB (.az 5) "sort") (.O (.az 7) (.O (.az 8) (.O (.bx (.az 6) (.aB (.az 5) "target")) (.O (.aB (.az 5) "depth") .ab)))))) .ab)))
 .ab) .ab)
 .ab))
noncomputable def EG:a8:=.dL ak (.bx (.az 6) (.az 10)) (.O [10] aF (.bk (.aB (.az 0) "starts")) .ab .ab)
def M6:cH where
 bq:="pressed"
 aQ:=2
 aY:=["code","rows","row","kept","catches","one","places","first","last","row","start"]
 bR:=[]
 bF:=aF
 bA:=.bf (.O (.dS [6,3] (.O (.al aF .ab) (.O (.al aF .ab) .ab)))
 (.O (.fY [2] aF (.bk (.az 1)) ED)
 (.O (.cj (.eI (.az 6) "append" (.O (.aD ak (.aJ 12) (.O (.az 3) .ab)) .ab)))
 (.O (.aW 3 EE)
 (.O (.aW 4 (.al aF .ab))
 (.O (.fY [5] aF (.bk (.aB (.az 0) "catches")) EF)
 (.O (.a9 (.eI (.az 0) "with_rows" (.O (.tG (.az 3)) (.O (.tG (.az 4)) (.O EG (.O (.aB (.az 0) "children") .ab))))))
 .ab)))))))
noncomputable def qu:bK:=(.O (.bg (.aL (.aB (.bx (.aB (.az 0) "rows") (.az 2)) "op") (.O .ne (.ah "jump") .ab)) (.O (.a9 (.az 2))
 .ab) .ab)
 (.O (.aW 2 (.aB (.bx (.aB (.az 0) "rows") (.az 2)) "a"))
 .ab))
def Bp:cH where
 bq:="end_of_jumps"
 aQ:=2
 aY:=["code","place","found","turn"]
 bR:=[]
 bF:=aF
 bA:=.bf (.O (.aW 2 (.az 1))
 (.O (.fY [3] aF (.gD (.aD ak (.aJ 12) (.O (.aB (.az 0) "rows") .ab))) qu)
 (.O (.a9 (.az 1))
 .ab)))
noncomputable def Do:bK:=(.O (.bg (.aL (.aB (.az 2) "op") (.O .gm (.aJ 15) .ab)) (.O (.cj (.eI (.az 1) "append" (.O (.az 2) .ab)))
 (.O .iz
 .ab)) .ab)
 (.O (.aW 3 (.aD ak (.aJ 24) (.O (.az 0) (.O (.aB (.az 2) "a") .ab))))
 (.O (.bg (.dX (.O (.aL (.aB (.az 2) "op") (.O .bN (.ah "jump") .ab)) (.O (.aL (.aB (.bx (.aB (.az 0) "rows") (.az 3)) "op") (.O .bN (.ah "leave") .ab)) .ab))) (.O (.cj (.eI (.az 1) "append" (.O (.aD ak (.aJ 0) (.O (.ah "leave") (.O .aA (.O .aA (.O .aA (.O (.aB (.az 2) "line") .ab)))))) .ab)))
 .ab) (.O (.cj (.eI (.az 1) "append" (.O (.eI (.az 2) "with_target" (.O (.az 3) .ab)) .ab)))
 .ab))
 .ab)))
def JQ:cH where
 bq:="threaded"
 aQ:=1
 aY:=["code","rows","row","target"]
 bR:=[]
 bF:=aF
 bA:=.bf (.O (.aW 1 (.al aF .ab))
 (.O (.fY [2] aF (.bk (.aB (.az 0) "rows")) Do)
 (.O (.a9 (.aD ak (.aJ 25) (.O (.az 0) (.O (.tG (.az 1)) .ab))))
 .ab)))
noncomputable def EH:a8:=(.aL (.aD ak (.aJ 12) (.O (.az 2) .ab)) (.O .xJ (.ae 0) .ab))
noncomputable def oz:bK:=(.O (.bg (.eI (.az 5) "covers" (.O (.az 3) .ab)) (.O (.cj (.eI (.az 2) "append" (.O (.aB (.az 5) "target") .ab)))
 .ab) .ab)
 .ab)
def EI:bK:=(.O (.aW 3 (.eI (.az 2) "pop" .ab))
 (.O (.bg (.bx (.az 1) (.az 3)) (.O .iz
 .ab) .ab)
 (.O (.kq (.az 1) (.az 3) (.aG ak))
 (.O (.aW 4 (.bx (.aB (.az 0) "rows") (.az 3)))
 (.O (.bg (.aL (.aB (.az 4) "op") (.O .fw (.aJ 15) .ab)) (.O (.cj (.eI (.az 2) "append" (.O (.aB (.az 4) "a") .ab)))
 .ab) .ab)
 (.O (.bg (.aL (.aB (.az 4) "op") (.O .gm (.aJ 18) .ab)) (.O (.cj (.eI (.az 2) "append" (.O (.d6 ak .ci (.az 3) (.ae 1)) .ab)))
 .ab) .ab)
 (.O (.fY [5] aF (.bk (.aB (.az 0) "catches")) oz)
 .ab)))))))
def M7:cH where
 bq:="reached"
 aQ:=1
 aY:=["code","found","waiting","place","row","one"]
 bR:=[]
 bF:=aF
 bA:=.bf (.O (.aW 1 (.d6 aF .mR (.al ak (.O (.aG aF) .ab)) (.aD ak (.aJ 12) (.O (.aB (.az 0) "rows") .ab))))
 (.O (.aW 2 (.aD aF (.aJ 9) (.O (.aB (.az 0) "starts") .ab)))
 (.O (.tY 1000 EH EI)
 (.O (.a9 (.tG (.az 1)))
 .ab))))
noncomputable def xh:a8:=.dL ak (.fB (.az 2) (.az 1) .aA) (.O [1,2] ak (.Eh (.aB (.az 0) "rows") (.aD ak (.aJ 26) (.O (.az 0) .ab))) .ab .ab)
def Bq:cH where
 bq:="without_dead"
 aQ:=1
 aY:=["code","row","here"]
 bR:=[]
 bF:=aF
 bA:=.bf (.O (.a9 (.aD ak (.aJ 25) (.O (.az 0) (.O xh .ab))))
 .ab)
noncomputable def vX:bK:=(.O (.bg (.dX (.O (.aD ak (.aJ 28) (.O (.bx (.az 2) (.az 1)) (.O (.aJ 29) .ab))) (.O (.aD ak (.aJ 28) (.O (.bx (.az 2) (.d6 ak .ci (.az 1) (.ae 1))) (.O (.bE (.O (.ah "pop") .ab)) .ab))) (.O (.g8 (.bx (.az 3) (.d6 ak .ci (.az 1) (.ae 1)))) .ab)))) (.O (.sn (.az 2) (.az 1) (.az 2) (.d6 ak .ci (.az 1) (.ae 1)) .aA .aA)
 .ab) .ab)
 .ab)
def ze:cH where
 bq:="without_pushes"
 aQ:=1
 aY:=["code","place","rows","marks"]
 bR:=[]
 bF:=aF
 bA:=.bf (.O (.dS [2,3] (.O (.aD aF (.aJ 9) (.O (.aB (.az 0) "rows") .ab)) (.O (.aD ak (.aJ 27) (.O (.az 0) .ab)) .ab)))
 (.O (.fY [1] aF (.gD (.d6 ak .fA (.aD ak (.aJ 12) (.O (.az 2) .ab)) (.ae 1))) vX)
 (.O (.a9 (.aD ak (.aJ 25) (.O (.az 0) (.O (.tG (.az 2)) .ab))))
 .ab)))
noncomputable def vY:bK:=(.O (.bg (.dX (.O (.aD ak (.aJ 28) (.O (.bx (.az 2) (.az 1)) (.O (.bE (.O (.ah "dup") .ab)) .ab))) (.O (.aD ak (.aJ 28) (.O (.bx (.az 2) (.d6 ak .ci (.az 1) (.ae 1))) (.O (.aJ 30) .ab))) (.O (.aD ak (.aJ 28) (.O (.bx (.az 2) (.d6 ak .ci (.az 1) (.ae 2))) (.O (.bE (.O (.ah "pop") .ab)) .ab))) .ab)))) (.O (.bg (.dX (.O (.g8 (.bx (.az 3) (.d6 ak .ci (.az 1) (.ae 1)))) (.O (.g8 (.bx (.az 3) (.d6 ak .ci (.az 1) (.ae 2)))) .ab))) (.O (.sn (.az 2) (.az 1) (.az 2) (.d6 ak .ci (.az 1) (.ae 2)) .aA .aA)
 .ab) .ab)
 .ab) .ab)
 .ab)
def zf:cH where
 bq:="without_copies"
 aQ:=1
 aY:=["code","place","rows","marks"]
 bR:=[]
 bF:=aF
 bA:=.bf (.O (.dS [2,3] (.O (.aD aF (.aJ 9) (.O (.aB (.az 0) "rows") .ab)) (.O (.aD ak (.aJ 27) (.O (.az 0) .ab)) .ab)))
 (.O (.fY [1] aF (.gD (.d6 ak .fA (.aD ak (.aJ 12) (.O (.az 2) .ab)) (.ae 2))) vY)
 (.O (.a9 (.aD ak (.aJ 25) (.O (.az 0) (.O (.tG (.az 2)) .ab))))
 .ab)))
noncomputable def JR:cH where
 bq:="is_taken"
 aQ:=2
 aY:=["branch","value"]
 bR:=[]
 bF:=aF
 bA:=.bf (.O (.a9 (.aL (.aD ak (.aJ 31) (.O (.az 1) .ab)) (.O .bN (.aL (.aB (.az 0) "op") (.O .bN (.ah "jumpif") .ab)) .ab)))
 .ab)
noncomputable def ra:bK:=(.O (.dS [4,5] (.O (.bx (.az 2) (.az 1)) (.O (.bx (.az 2) (.d6 ak .ci (.az 1) (.ae 1))) .ab)))
 (.O (.bg (.iP (.O (.g8 (.aD ak (.aJ 28) (.O (.az 4) (.O (.bE (.O (.ah "push") .ab)) .ab)))) (.O (.aL (.az 5) (.O .AL .aA .ab)) (.O (.bx (.az 3) (.d6 ak .ci (.az 1) (.ae 1))) .ab)))) (.O .iz
 .ab) .ab)
 (.O (.bg (.aL (.aB (.az 5) "op") (.O .fw (.aJ 32) .ab)) (.O (.aW 6 (.aD ak (.aJ 33) (.O (.az 5) (.O (.aB (.az 4) "a") .ab))))
 (.O (.kq (.az 2) (.az 1) .aA)
 (.O (.kq (.az 2) (.d6 ak .ci (.az 1) (.ae 1)) (.fB (.az 6) (.aD ak (.aJ 0) (.O (.ah "jump") (.O (.aB (.az 5) "a") (.O .aA (.O .aA (.O (.aB (.az 5) "line") .ab)))))) .aA))
 .ab))) (.O (.bg (.dX (.O (.aL (.aB (.az 5) "op") (.O .bN (.ah "jump") .ab)) (.O (.aL (.aB (.bx (.aB (.az 0) "rows") (.aB (.az 5) "a")) "op") (.O .fw (.aJ 32) .ab)) .ab))) (.O (.aW 7 (.bx (.aB (.az 0) "rows") (.aB (.az 5) "a")))
 (.O (.aW 8 (.fB (.aD ak (.aJ 33) (.O (.az 7) (.O (.aB (.az 4) "a") .ab))) (.aB (.az 7) "a") (.d6 ak .ci (.aB (.az 5) "a") (.ae 1))))
 (.O (.kq (.az 2) (.az 1) .aA)
 (.O (.kq (.az 2) (.d6 ak .ci (.az 1) (.ae 1)) (.eI (.az 5) "with_target" (.O (.az 8) .ab)))
 .ab)))) .ab)
 .ab))
 .ab)))
def tW:cH where
 bq:="with_known_branches"
 aQ:=1
 aY:=["code","place","rows","marks","row","behind","taken","branch","target"]
 bR:=[]
 bF:=aF
 bA:=.bf (.O (.dS [2,3] (.O (.aD aF (.aJ 9) (.O (.aB (.az 0) "rows") .ab)) (.O (.aD ak (.aJ 27) (.O (.az 0) .ab)) .ab)))
 (.O (.fY [1] aF (.gD (.d6 ak .fA (.aD ak (.aJ 12) (.O (.az 2) .ab)) (.ae 1))) ra)
 (.O (.a9 (.aD ak (.aJ 25) (.O (.az 0) (.O (.tG (.az 2)) .ab))))
 .ab)))
noncomputable def qN:bK:=(.O (.dS [4,5] (.O (.bx (.az 2) (.az 1)) (.O (.bx (.az 2) (.d6 ak .ci (.az 1) (.ae 1))) .ab)))
 (.O (.bg (.dX (.O (.aD ak (.aJ 28) (.O (.az 4) (.O (.aJ 32) .ab))) (.O (.aD ak (.aJ 28) (.O (.az 5) (.O (.bE (.O (.ah "jump") .ab)) .ab))) (.O (.aL (.aB (.az 4) "a") (.O .bN (.d6 ak .ci (.az 1) (.ae 2)) .ab)) (.O (.g8 (.bx (.az 3) (.d6 ak .ci (.az 1) (.ae 1)))) .ab))))) (.O (.aW 6 (.fB (.aL (.aB (.az 4) "op") (.O .bN (.ah "jumpif") .ab)) (.ah "jumpunless") (.ah "jumpif")))
 (.O (.sn (.az 2) (.az 1) (.az 2) (.d6 ak .ci (.az 1) (.ae 1)) (.aD ak (.aJ 0) (.O (.az 6) (.O (.aB (.az 5) "a") (.O .aA (.O .aA (.O (.aB (.az 4) "line") .ab)))))) .aA)
 .ab)) .ab)
 .ab))
def sI:cH where
 bq:="with_turned_branches"
 aQ:=1
 aY:=["code","place","rows","marks","row","behind","op"]
 bR:=[]
 bF:=aF
 bA:=.bf (.O (.dS [2,3] (.O (.aD aF (.aJ 9) (.O (.aB (.az 0) "rows") .ab)) (.O (.aD ak (.aJ 27) (.O (.az 0) .ab)) .ab)))
 (.O (.fY [1] aF (.gD (.d6 ak .fA (.aD ak (.aJ 12) (.O (.az 2) .ab)) (.ae 1))) qN)
 (.O (.a9 (.aD ak (.aJ 25) (.O (.az 0) (.O (.tG (.az 2)) .ab))))
 .ab)))
noncomputable def rb:bK:=(.O (.bg (.dX (.O (.aL (.aB (.az 3) "op") (.O .fw (.aJ 15) .ab)) (.O (.aL (.aB (.az 3) "a") (.O .bN (.d6 ak .ci (.az 2) (.ae 1)) .ab)) .ab))) (.O (.cj (.eI (.az 1) "append" (.O (.fB (.aL (.aB (.az 3) "op") (.O .fw (.aJ 32) .ab)) (.aD ak (.aJ 0) (.O (.ah "pop") (.O .aA (.O .aA (.O .aA (.O (.aB (.az 3) "line") .ab)))))) .aA) .ab)))
 .ab) (.O (.cj (.eI (.az 1) "append" (.O (.az 3) .ab)))
 .ab))
 .ab)
def tX:cH where
 bq:="without_short_jumps"
 aQ:=1
 aY:=["code","rows","place","row"]
 bR:=[]
 bF:=aF
 bA:=.bf (.O (.aW 1 (.al aF .ab))
 (.O (.fY [2,3] ak (.Dk (.aB (.az 0) "rows")) rb)
 (.O (.a9 (.aD ak (.aJ 25) (.O (.az 0) (.O (.tG (.az 1)) .ab))))
 .ab)))
noncomputable def wG:bK:=(.O (.bg (.iP (.O (.g8 (.aD ak (.aJ 28) (.O (.bx (.az 2) (.d6 ak .ci (.az 1) (.ae 1))) (.O (.bE (.O (.ah "swap") .ab)) .ab)))) (.O (.bx (.az 3) (.d6 ak .ci (.az 1) (.ae 1))) .ab))) (.O .iz
 .ab) .ab)
 (.O (.bg (.aD ak (.aJ 28) (.O (.bx (.az 2) (.az 1)) (.O (.bE (.O (.ah "swap") .ab)) .ab))) (.O (.sn (.az 2) (.az 1) (.az 2) (.d6 ak .ci (.az 1) (.ae 1)) .aA .aA)
 .ab) (.O (.bg (.aD ak (.aJ 28) (.O (.bx (.az 2) (.az 1)) (.O (.bE (.O (.ah "dup") .ab)) .ab))) (.O (.kq (.az 2) (.d6 ak .ci (.az 1) (.ae 1)) .aA)
 .ab) .ab)
 .ab))
 .ab))
def z8:cH where
 bq:="without_swaps"
 aQ:=1
 aY:=["code","place","rows","marks"]
 bR:=[]
 bF:=aF
 bA:=.bf (.O (.dS [2,3] (.O (.aD aF (.aJ 9) (.O (.aB (.az 0) "rows") .ab)) (.O (.aD ak (.aJ 27) (.O (.az 0) .ab)) .ab)))
 (.O (.fY [1] aF (.gD (.d6 ak .fA (.aD ak (.aJ 12) (.O (.az 2) .ab)) (.ae 1))) wG)
 (.O (.a9 (.aD ak (.aJ 25) (.O (.az 0) (.O (.tG (.az 2)) .ab))))
 .ab)))
noncomputable def JS:a8:=.dL ak (.bE (.O (.aB (.az 1) "op") (.O (.aB (.az 1) "a") (.O (.aB (.az 1) "b") (.O (.aB (.az 1) "c") .ab))))) (.O [1] aF (.bk (.aB (.az 0) "rows")) .ab .ab)
def Ux:cH where
 bq:="shape"
 aQ:=1
 aY:=["code","row"]
 bR:=[]
 bF:=aF
 bA:=.bf (.O (.a9 JS)
 .ab)
noncomputable def xi:bK:=(.O (.aW 0 (.aD ak (.az 4) (.O (.az 0) .ab)))
 .ab)
def jK:bK:=(.O (.aW 2 (.aD ak (.aJ 35) (.O (.az 0) .ab)))
 (.O (.fY [3,4] ak (.bk (.aJ 36)) xi)
 (.O (.bg (.aL (.aD ak (.aJ 35) (.O (.az 0) .ab)) (.O .bN (.az 2) .ab)) (.O (.a9 (.az 0))
 .ab) .ab)
 .ab)))
def Br:cH where
 bq:="tidied_alone"
 aQ:=1
 aY:=["code","turn","before","name","step"]
 bR:=[]
 bF:=aF
 bA:=.bf (.O (.fY [1] aF (.gD (.aJ 34)) jK)
 (.O (.a9 (.az 0))
 .ab))
noncomputable def M8:a8:=.dL ak (.aD ak (.aJ 38) (.O (.az 2) .ab)) (.O [2] aF (.bk (.aB (.az 1) "children")) .ab .ab)
def Xy:cH where
 bq:="tidy"
 aQ:=1
 aY:=["code","found","child"]
 bR:=[]
 bF:=aF
 bA:=.bf (.O (.aW 1 (.aD ak (.aJ 37) (.O (.az 0) .ab)))
 (.O (.a9 (.eI (.az 1) "with_rows" (.O (.aB (.az 1) "rows") (.O (.aB (.az 1) "catches") (.O (.aB (.az 1) "starts") (.O M8 .ab))))))
 .ab))
noncomputable def z9:bK:=(.O (.bg (.aL (.az 1) (.O .bN (.az 0) .ab)) (.O (.a9 (.az 2))
 .ab) .ab)
 .ab)
def EJ:cH where
 bq:="pass_named"
 aQ:=1
 aY:=["name","told","step"]
 bR:=[]
 bF:=aF
 bA:=.bf (.O (.fY [1,2] ak (.bk (.aJ 36)) z9)
 (.O (.a9 .aA)
 .ab))
noncomputable def Bs:bK:=(.O (.aW 3 (.aD ak (.aJ 39) (.O (.az 2) .ab)))
 (.O (.bg (.aL (.az 3) (.O (.rz ()) .aA .ab)) (.O (.aW 0 (.aD ak (.az 3) (.O (.az 0) .ab)))
 .ab) .ab)
 .ab))
noncomputable def Bt:a8:=.dL ak (.aD ak (.aJ 40) (.O (.az 4) (.O (.az 1) .ab))) (.O [4] aF (.bk (.aB (.az 0) "children")) .ab .ab)
def HC:cH where
 bq:="passed_by"
 aQ:=2
 aY:=["code","names","name","step","child"]
 bR:=[]
 bF:=aF
 bA:=.bf (.O (.fY [2] aF (.bk (.az 1)) Bs)
 (.O (.a9 (.eI (.az 0) "with_rows" (.O (.aB (.az 0) "rows") (.O (.aB (.az 0) "catches") (.O (.aB (.az 0) "starts") (.O Bt .ab))))))
 .ab))
noncomputable def EK:a8:=.dL ak (.d6 ak .fA (.az 4) (.d6 ak (.wB ()) (.ae 10) (.ae 18))) (.O [4] aF (.bk (.fT ak (.az 0) .aA (.ae 1))) .ab .ab)
noncomputable def EL:bK:=(.O (.aW 3 (.d6 ak .uO (.d6 ak .ci (.d6 ak .mR (.az 3) (.ae 48271)) (.az 1)) (.ae 2147483629)))
 .ab)
def M9:cH where
 bq:="_law_box"
 aQ:=1
 aY:=["script","cell","great","seed","cell"]
 bR:=[]
 bF:=ak
 bA:=.bf (.O (.dS [2,3] (.O (.d6 ak .uO (.aD ak (.aJ 41) (.O (.d6 ak .ci (.al ak (.O (.ae 0) .ab)) EK) .ab)) (.d6 ak (.wB ()) (.ae 10) (.ae 90))) (.O (.ae 33023) .ab)))
 (.O (.fY [1] aF (.bk (.fT ak (.az 0) .aA (.ae 24))) EL)
 (.O (.a9 (.al aF (.O (.az 2) (.O (.az 3) (.O (.ae 0) (.O (.iP (.O (.aL (.az 0) (.O .bN (.al ak .ab) .ab)) (.O (.dX (.O (.aL (.aD ak (.aJ 12) (.O (.az 0) .ab)) (.O .bN (.ae 1) .ab)) (.O (.aL (.aD ak (.aJ 42) (.O (.bx (.az 0) (.ae 0)) .ab)) (.O .lz (.ae 10) .ab)) .ab))) .ab))) .ab))))))
 .ab)))
noncomputable def JT:cH where
 bq:="_law_take"
 aQ:=2
 aY:=["box","many","blend","digit"]
 bR:=[]
 bF:=aF
 bA:=.bf (.O (.bg (.aL (.bx (.az 0) (.ae 0)) (.O .xJ (.ae 0) .ab)) (.O (.aW 3 (.d6 ak .uO (.bx (.az 0) (.ae 0)) (.az 1)))
 (.O (.kq (.az 0) (.ae 0) (.d6 ak .yC (.bx (.az 0) (.ae 0)) (.az 1)))
 (.O (.a9 (.az 3))
 .ab))) .ab)
 (.O (.kq (.az 0) (.ae 2) (.d6 ak .ci (.bx (.az 0) (.ae 2)) (.ae 1)))
 (.O (.aW 2 (.d6 ak .uO (.d6 ak (.wB ()) (.d6 ak .ci (.d6 ak .ci (.bx (.az 0) (.ae 1)) (.d6 ak .mR (.ae 40169) (.bx (.az 0) (.ae 2)))) (.ae 7)) (.ae 5)) (.ae 2147483647)))
 (.O (.aW 2 (.d6 ak .uO (.d6 ak (.wB ()) (.d6 ak .ci (.az 2) (.d6 ak .mR (.ae 93001) (.bx (.az 0) (.ae 2)))) (.ae 3)) (.ae 2147483587)))
 (.O (.a9 (.d6 ak .uO (.d6 ak .yC (.az 2) (.ae 16)) (.az 1)))
 .ab)))))
noncomputable def HD:cH where
 bq:="_law_known"
 aQ:=1
 aY:=["box"]
 bR:=[]
 bF:=aF
 bA:=.bf (.O (.a9 (.bE (.O (.ah "push") (.O (.bx (.al ak (.O .aA (.O (.aG ak) (.O (.aG aF) (.O (.ae 0) (.O (.ae 5) (.O (.ah "s") .ab))))))) (.aD ak (.aJ 43) (.O (.az 0) (.O (.ae 6) .ab)))) (.O .aA .ab)))))
 .ab)
noncomputable def Na:cH where
 bq:="_law_put"
 aQ:=2
 aY:=["box","deep","op"]
 bR:=[]
 bF:=aF
 bA:=.bf (.O (.aW 2 (.bx (.aJ 44) (.aD ak (.aJ 43) (.O (.az 0) (.O (.ae 7) .ab)))))
 (.O (.bg (.iP (.O (.aL (.az 2) (.O .bN (.ah "push") .ab)) (.O (.dX (.O (.aL (.az 2) (.O .bN (.ah "dup") .ab)) (.O (.aL (.az 1) (.O .bN (.ae 0) .ab)) .ab))) .ab))) (.O (.a9 (.aD ak (.aJ 45) (.O (.az 0) .ab)))
 .ab) .ab)
 (.O (.a9 (.bE (.O (.az 2) (.O (.eI (.dK (.O (.ah "getl") (.O (.ae 0) (.O (.ah "geti") (.O (.ah "@x") (.O (.ah "getg") (.O (.ah "$x") .ab))))))) "get" (.O (.az 2) .ab)) (.O (.fB (.aL (.az 2) (.O .bN (.ah "getl") .ab)) (.aD ak (.aJ 43) (.O (.az 0) (.O (.ae 2) .ab))) .aA) .ab)))))
 .ab)))
noncomputable def HE:cH where
 bq:="_law_store"
 aQ:=1
 aY:=["box","op"]
 bR:=[]
 bF:=aF
 bA:=.bf (.O (.aW 1 (.bx (.aJ 46) (.aD ak (.aJ 43) (.O (.az 0) (.O (.ae 4) .ab)))))
 (.O (.a9 (.bE (.O (.az 1) (.O (.bx (.dK (.O (.ah "setl") (.O (.ae 0) (.O (.ah "seti") (.O (.ah "@x") (.O (.ah "setg") (.O (.ah "$x") (.O (.ah "setc") (.O (.ah "C") .ab))))))))) (.az 1)) (.O (.fB (.aL (.az 1) (.O .bN (.ah "setl") .ab)) (.aD ak (.aJ 43) (.O (.az 0) (.O (.ae 2) .ab))) .aA) .ab)))))
 .ab))
noncomputable def EM:cH where
 bq:="_law_branch"
 aQ:=2
 aY:=["box","goal"]
 bR:=[]
 bF:=aF
 bA:=.bf (.O (.a9 (.bE (.O (.bx (.aJ 47) (.aD ak (.aJ 43) (.O (.az 0) (.O (.ae 2) .ab)))) (.O (.az 1) (.O .aA .ab)))))
 .ab)
noncomputable def Bu:cH where
 bq:="_law_met_pair"
 aQ:=2
 aY:=["box","deep","way"]
 bR:=[]
 bF:=aF
 bA:=.bf (.O (.aW 2 (.aD ak (.aJ 43) (.O (.az 0) (.O (.ae 3) .ab))))
 (.O (.bg (.aL (.az 2) (.O .bN (.ae 0) .ab)) (.O (.a9 (.al ak (.O (.aD ak (.aJ 48) (.O (.az 0) (.O (.az 1) .ab))) (.O (.bE (.O (.ah "jumpnil") (.O (.ae 3) (.O .aA .ab)))) (.O (.aJ 49) (.O (.aD ak (.aJ 50) (.O (.az 0) .ab)) (.O (.aJ 51) .ab)))))))
 .ab) .ab)
 (.O (.bg (.aL (.az 2) (.O .bN (.ae 1) .ab)) (.O (.a9 (.al ak (.O (.aD ak (.aJ 48) (.O (.az 0) (.O (.az 1) .ab))) (.O (.bE (.O (.ah "jumpnil") (.O (.ae 3) (.O .aA .ab)))) (.O (.aJ 51) (.O (.aD ak (.aJ 48) (.O (.az 0) (.O (.az 1) .ab))) (.O (.aJ 51) .ab)))))))
 .ab) .ab)
 (.O (.a9 (.al ak (.O (.aD ak (.aJ 48) (.O (.az 0) (.O (.az 1) .ab))) (.O (.aD ak (.aJ 48) (.O (.az 0) (.O (.az 1) .ab))) (.O (.bE (.O (.ah "jumpnil") (.O (.ae 2) (.O .aA .ab)))) (.O (.aJ 52) (.O (.aJ 52) .ab)))))))
 .ab))))
noncomputable def sO:cH where
 bq:="_law_one"
 aQ:=2
 aY:=["box","deep","some"]
 bR:=[]
 bF:=aF
 bA:=.bf (.O (.aW 2 (.al aF .ab))
 (.O (.bg (.aL (.az 1) (.O .xJ (.ae 0) .ab)) (.O (.aW 2 (.al aF (.O (.aJ 51) (.O (.aD ak (.aJ 50) (.O (.az 0) .ab)) (.O (.aD ak (.aJ 53) (.O (.az 0) (.O .aA .ab))) (.O (.bE (.O (.ah "jumpnil") (.O .aA (.O .aA .ab)))) (.O (.aJ 54) .ab)))))))
 .ab) .ab)
 (.O (.bg (.aL (.az 1) (.O .xJ (.ae 1) .ab)) (.O (.cj (.eI (.az 2) "append" (.O (.aJ 52) .ab)))
 .ab) .ab)
 (.O (.bg (.aL (.az 1) (.O .lz (.ae 3) .ab)) (.O (.aW 2 (.d6 aF .ci (.az 2) (.al ak (.O (.aD ak (.aJ 48) (.O (.az 0) (.O (.az 1) .ab))) (.O (.bE (.O (.ah "text") (.O (.ah "t") (.O .aA .ab)))) (.O (.bE (.O (.ah "undef") (.O (.ah "u") (.O .aA .ab)))) (.O (.bE (.O (.ah "lambda") (.O (.ae 0) (.O .aA .ab)))) (.O (.aJ 55) .ab))))))))
 (.O (.cj (.eI (.az 2) "append" (.O (.bE (.O (.ah "fail") (.O (.ah "E") (.O (.ah "t") .ab)))) .ab)))
 .ab)) .ab)
 (.O (.a9 (.bx (.az 2) (.aD ak (.aJ 43) (.O (.az 0) (.O (.aD ak (.aJ 12) (.O (.az 2) .ab)) .ab)))))
 .ab)))))
noncomputable def HF:cH where
 bq:="_law_piece"
 aQ:=3
 aY:=["box","deep","way","three"]
 bR:=[]
 bF:=aF
 bA:=.bf (.O (.bg (.aL (.az 2) (.O .bN (.ae 0) .ab)) (.O (.a9 (.al ak (.O (.aD ak (.aJ 48) (.O (.az 0) (.O (.az 1) .ab))) (.O (.aD ak (.aJ 48) (.O (.az 0) (.O (.az 1) .ab))) (.O (.aJ 51) (.O (.aJ 51) .ab))))))
 .ab) .ab)
 (.O (.bg (.aL (.az 2) (.O .bN (.ae 1) .ab)) (.O (.a9 (.al ak (.O (.aD ak (.aJ 48) (.O (.az 0) (.O (.az 1) .ab))) (.O (.aD ak (.aJ 53) (.O (.az 0) (.O (.ae 2) .ab))) (.O (.aJ 55) (.O (.aJ 55) .ab))))))
 .ab) .ab)
 (.O (.bg (.aL (.az 2) (.O .bN (.ae 2) .ab)) (.O (.a9 (.d6 ak .ci (.al ak (.O (.aD ak (.aJ 48) (.O (.az 0) (.O (.az 1) .ab))) (.O (.aD ak (.aJ 48) (.O (.az 0) (.O (.az 1) .ab))) .ab))) (.d6 ak .mR (.al ak (.O (.aJ 52) .ab)) (.d6 ak .ci (.ae 2) (.aD ak (.aJ 43) (.O (.az 0) (.O (.ae 2) .ab)))))))
 .ab) .ab)
 (.O (.bg (.aL (.az 2) (.O .bN (.ae 3) .ab)) (.O (.a9 (.al ak (.O (.aD ak (.aJ 48) (.O (.az 0) (.O (.az 1) .ab))) (.O (.aJ 49) (.O (.aJ 52) .ab)))))
 .ab) .ab)
 (.O (.bg (.aL (.az 2) (.O .bN (.ae 4) .ab)) (.O (.a9 (.al ak (.O (.aD ak (.aJ 48) (.O (.az 0) (.O (.az 1) .ab))) (.O (.aJ 49) (.O (.aD ak (.aJ 50) (.O (.az 0) .ab)) (.O (.aJ 51) .ab))))))
 .ab) .ab)
 (.O (.bg (.aL (.az 2) (.O .bN (.ae 5) .ab)) (.O (.a9 (.aD ak (.aJ 56) (.O (.az 0) (.O (.az 1) .ab))))
 .ab) .ab)
 (.O (.bg (.aL (.az 2) (.O .bN (.ae 6) .ab)) (.O (.a9 (.al ak (.O (.aD ak (.aJ 45) (.O (.az 0) .ab)) (.O (.aD ak (.aJ 53) (.O (.az 0) (.O .aA .ab))) .ab))))
 .ab) .ab)
 (.O (.bg (.aL (.az 2) (.O .bN (.ae 7) .ab)) (.O (.a9 (.al ak (.O (.aD ak (.aJ 45) (.O (.az 0) .ab)) (.O (.aJ 55) .ab))))
 .ab) .ab)
 (.O (.bg (.aL (.az 2) (.O .bN (.ae 8) .ab)) (.O (.aW 3 (.al ak (.O (.al ak (.O (.bE (.O (.ah "jump") (.O (.ae 1) (.O .aA .ab)))) .ab)) (.O (.al ak (.O (.aD ak (.aJ 48) (.O (.az 0) (.O (.az 1) .ab))) (.O (.aD ak (.aJ 53) (.O (.az 0) (.O (.ae 1) .ab))) .ab))) (.O (.al ak (.O (.aD ak (.aJ 45) (.O (.az 0) .ab)) (.O (.bE (.O (.ah "jumpnil") (.O (.ae 1) (.O .aA .ab)))) .ab))) .ab)))))
 (.O (.a9 (.bx (.az 3) (.aD ak (.aJ 43) (.O (.az 0) (.O (.ae 3) .ab)))))
 .ab)) .ab)
 (.O (.bg (.aL (.az 2) (.O .bN (.ae 9) .ab)) (.O (.a9 (.al ak (.O (.bE (.O (.ah "jump") (.O (.ae 3) (.O .aA .ab)))) (.O (.aD ak (.aJ 48) (.O (.az 0) (.O (.az 1) .ab))) (.O (.aJ 51) .ab)))))
 .ab) .ab)
 (.O (.a9 (.al ak (.O (.aD ak (.aJ 57) (.O (.az 0) (.O (.az 1) .ab))) .ab)))
 .ab)))))))))))
noncomputable def EN:cH where
 bq:="_law_change"
 aQ:=1
 aY:=["op"]
 bR:=[]
 bF:=aF
 bA:=.bf (.O (.bg (.iP (.O (.aL (.az 0) (.O .fw (.bE (.O (.ah "pop") (.O (.ah "leave") .ab))) .ab)) (.O (.aL (.az 0) (.O .fw (.aJ 46) .ab)) (.O (.aL (.az 0) (.O .fw (.aJ 47) .ab)) .ab)))) (.O (.a9 (.tF (.ae 1)))
 .ab) .ab)
 (.O (.a9 (.fB (.aL (.az 0) (.O .fw (.bE (.O (.ah "swap") (.O (.ah "jump") (.O (.ah "jumpnil") (.O (.ah "fail") .ab))))) .ab)) (.ae 0) (.ae 1)))
 .ab))
noncomputable def Dp:bK:=(.O (.cj (.eI (.az 0) "append" (.O (.az 4) .ab)))
 (.O (.cj (.eI (.az 1) "append" (.O (.az 3) .ab)))
 (.O (.aW 3 (.d6 ak .ci (.az 3) (.aD ak (.aJ 58) (.O (.bx (.az 4) (.ae 0)) .ab))))
 .ab)))
def JU:cH where
 bq:="_law_laid"
 aQ:=4
 aY:=["rows","heights","piece","deep","row"]
 bR:=[]
 bF:=aF
 bA:=.bf (.O (.fY [4] aF (.bk (.az 2)) Dp)
 (.O (.a9 (.az 3))
 .ab))
noncomputable def jQ:bK:=(.O (.aW 8 (.ae 13))
 (.O (.bg (.dX (.O (.aL (.az 2) (.O .bN (.ae 0) .ab)) (.O (.iP (.O (.bx (.az 0) (.ae 3)) (.O (.aL (.aD ak (.aJ 43) (.O (.az 0) (.O (.ae 3) .ab))) (.O .xJ (.ae 0) .ab)) .ab))) .ab))) (.O (.aW 8 (.ae 6))
 .ab) .ab)
 (.O (.aW 8 (.fB (.bx (.az 0) (.ae 3)) (.ae 0) (.aD ak (.aJ 43) (.O (.az 0) (.O (.az 8) .ab)))))
 (.O (.aW 9 (.aD ak (.aJ 59) (.O (.az 0) (.O (.az 7) (.O (.fB (.aL (.az 7) (.O .lz (.ae 3) .ab)) (.az 8) (.ae 10)) .ab)))))
 (.O (.bg (.aL (.d6 ak .ci (.aD ak (.aJ 12) (.O (.az 5) .ab)) (.aD ak (.aJ 12) (.O (.az 9) .ab))) (.O .gP (.d6 ak .fA (.az 1) (.ae 2)) .ab)) (.O (.aW 7 (.aD ak (.aJ 60) (.O (.az 5) (.O (.az 6) (.O (.az 9) (.O (.az 7) .ab))))))
 (.O (.bg (.dX (.O (.aL (.bx (.bx (.az 9) (.tF (.ae 1))) (.ae 0)) (.O .fw (.aJ 61) .ab)) (.O (.aL (.bx (.bx (.az 9) (.tF (.ae 1))) (.ae 1)) (.O .ne (.ae 1) .ab)) .ab))) (.O (.aW 7 (.aD ak (.aJ 43) (.O (.az 0) (.O (.ae 3) .ab))))
 .ab) .ab)
 .ab)) .ab)
 .ab)))))
def kH:cH where
 bq:="_law_plain"
 aQ:=2
 aY:=["box","most","turn","tail","size","rows","heights","deep","way","piece"]
 bR:=[]
 bF:=aF
 bA:=.bf (.O (.dS [5,6,7] (.O (.al aF .ab) (.O (.al aF .ab) (.O (.ae 0) .ab))))
 (.O (.fY [2] aF (.gD (.fB (.bx (.az 0) (.ae 3)) (.ae 1) (.ae 4))) jQ)
 (.O (.aW 3 (.al ak (.O (.fB (.iP (.O (.bx (.az 0) (.ae 3)) (.O (.aL (.aD ak (.aJ 43) (.O (.az 0) (.O (.ae 4) .ab))) (.O .xJ (.ae 0) .ab)) .ab))) (.aJ 54) (.aJ 55)) .ab)))
 (.O (.bg (.dX (.O (.aL (.az 7) (.O .bN (.ae 0) .ab)) (.O (.aL (.az 3) (.O .bN (.al ak (.O (.aJ 54) .ab)) .ab)) .ab))) (.O (.aW 3 (.al ak (.O (.aD ak (.aJ 48) (.O (.az 0) (.O (.ae 0) .ab))) (.O (.aJ 54) .ab))))
 .ab) .ab)
 (.O (.cj (.aD ak (.aJ 60) (.O (.az 5) (.O (.az 6) (.O (.az 3) (.O (.az 7) .ab))))))
 (.O (.aW 4 (.aD ak (.aJ 12) (.O (.az 5) .ab)))
 (.O (.bg (.dX (.O (.g8 (.bx (.az 0) (.ae 3))) (.O (.aL (.d6 ak .ci (.az 4) (.ae 3)) (.O .gP (.az 1) .ab)) (.O (.aL (.aD ak (.aJ 43) (.O (.az 0) (.O (.ae 3) .ab))) (.O .bN (.ae 0) .ab)) .ab)))) (.O (.cj (.aD ak (.aJ 60) (.O (.az 5) (.O (.az 6) (.O (.al ak (.O (.bE (.O (.ah "jump") (.O (.ae 1) (.O .aA .ab)))) (.O (.aD ak (.aJ 45) (.O (.az 0) .ab)) (.O (.aD ak (.aJ 53) (.O (.az 0) (.O .aA .ab))) .ab)))) (.O (.ae 0) .ab))))))
 .ab) .ab)
 (.O (.a9 (.bE (.O (.tG (.az 5)) (.O (.tG (.az 6)) (.O (.az 4) .ab)))))
 .ab))))))))
noncomputable def Dq:a8:=.dL ak (.az 9) (.O [9] aF (.gD (.az 4)) (.O (.aL (.bx (.az 2) (.az 9)) (.O .bN (.az 5) .ab)) .ab) .ab)
noncomputable def Dr:a8:=.dL ak (.az 10) (.O [10] aF (.bk (.az 6)) (.O (.aL (.bx (.bx (.az 1) (.az 10)) (.ae 0)) (.O .fw (.az 7) .ab)) .ab) .ab)
def uZ:cH where
 bq:="_law_goal"
 aQ:=5
 aY:=["box","rows","heights","at","size","need","some","wish","near","spot","spot"]
 bR:=[]
 bF:=aF
 bA:=.bf (.O (.aW 5 (.d6 ak .fA (.bx (.az 2) (.az 3)) (.aD ak (.aJ 5) (.O (.aL (.bx (.bx (.az 1) (.az 3)) (.ae 0)) (.O .fw (.aJ 47) .ab)) .ab))))
 (.O (.aW 6 Dq)
 (.O (.aW 7 (.bx (.al ak (.O (.al ak (.O (.ah "jump") .ab)) (.O (.aJ 47) (.O (.al ak (.O (.ah "pop") (.O (.ah "swap") (.O (.ah "leave") .ab)))) (.O (.aJ 44) .ab))))) (.aD ak (.aJ 43) (.O (.az 0) (.O (.ae 4) .ab)))))
 (.O (.aW 8 Dr)
 (.O (.aW 6 (.fB (.aL (.az 8) (.O .ne (.al ak .ab) .ab)) (.az 8) (.az 6)))
 (.O (.a9 (.bx (.az 6) (.aD ak (.aJ 43) (.O (.az 0) (.O (.aD ak (.aJ 12) (.O (.az 6) .ab)) .ab)))))
 .ab))))))
noncomputable def zg:a8:=.dL ak (.az 10) (.O [10] aF (.gD (.az 2)) (.O (.aL (.bx (.az 1) (.az 10)) (.O .xJ (.ae 0) .ab)) .ab) .ab)
noncomputable def nG:bK:=(.O (.dS [6,7] (.O (.bx (.az 5) (.aD ak (.aJ 43) (.O (.az 0) (.O (.aD ak (.aJ 12) (.O (.az 5) .ab)) .ab)))) (.O (.aD ak (.aJ 43) (.O (.az 0) (.O (.aD ak (.aJ 12) (.O (.az 1) .ab)) .ab))) .ab)))
 (.O (.dS [8,9] (.O (.d6 ak .ci (.d6 ak .ci (.az 7) (.ae 1)) (.aD ak (.aJ 43) (.O (.az 0) (.O (.d6 ak .fA (.aD ak (.aJ 12) (.O (.az 1) .ab)) (.az 7)) .ab)))) (.O (.bx (.al ak (.O (.ah "rescue") (.O (.ah "ensure") .ab))) (.aD ak (.aJ 43) (.O (.az 0) (.O (.ae 2) .ab)))) .ab)))
 (.O (.bg (.aL (.aD ak (.aJ 62) (.O (.fT ak (.az 1) (.az 7) (.az 8)) .ab)) (.O .pH (.d6 ak .fA (.bx (.az 1) (.az 6)) (.ae 1)) .ab)) (.O (.cj (.eI (.az 4) "append" (.O (.aD ak (.aJ 19) (.O (.az 9) (.O (.az 7) (.O (.az 8) (.O (.az 6) (.O (.d6 ak .fA (.bx (.az 1) (.az 6)) (.ae 1)) .ab)))))) .ab)))
 .ab) .ab)
 .ab)))
def vm:cH where
 bq:="_law_catches"
 aQ:=3
 aY:=["box","heights","size","turn","found","goals","goal","first","last","sort","spot"]
 bR:=[]
 bF:=aF
 bA:=.bf (.O (.dS [4,5] (.O (.al aF .ab) (.O zg .ab)))
 (.O (.fY [3] aF (.gD (.fB (.iP (.O (.bx (.az 0) (.ae 3)) (.O (.aL (.az 5) (.O .bN (.al ak .ab) .ab)) .ab))) (.ae 0) (.aD ak (.aJ 43) (.O (.az 0) (.O (.ae 3) .ab))))) nG)
 (.O (.a9 (.tG (.az 4)))
 .ab)))
noncomputable def pw:bK:=(.O (.j6 [13,14,15] (.az 10))
 (.O (.bg (.aL (.fT ak (.az 13) .aA (.ae 4)) (.O .bN (.ah "jump") .ab)) (.O (.aW 14 (.fB (.aL (.az 14) (.O .AL .aA .ab)) (.aD ak (.aJ 64) (.O (.az 0) (.O (.az 4) (.O (.az 5) (.O (.az 9) (.O (.az 6) .ab)))))) (.d6 ak .ci (.az 9) (.az 14))))
 .ab) .ab)
 (.O (.bg (.dX (.O (.aL (.az 13) (.O .bN (.ah "lambda") .ab)) (.O (.aL (.az 3) (.O .bN (.al ak .ab) .ab)) .ab))) (.O (.dS [13,14] (.O (.ah "text") (.O (.ah "u") .ab)))
 .ab) .ab)
 (.O (.cj (.eI (.az 7) "append" (.O (.aD ak (.aJ 0) (.O (.az 13) (.O (.az 14) (.O (.az 15) (.O .aA (.O (.d6 ak .ci (.az 9) (.ae 1)) .ab)))))) .ab)))
 .ab))))
noncomputable def Bv:a8:=.dL ak (.az 16) (.O [16] aF (.gD (.az 6)) (.O (.aL (.bx (.az 5) (.az 16)) (.O .bN (.ae 0) .ab)) .ab) .ab)
def yH:cH where
 bq:="_law_scene"
 aQ:=4
 aY:=["box","most","kind","within","rows","heights","size","made","starts","at","row","bare","more","op","a","b","spot"]
 bR:=[]
 bF:=aF
 bA:=.bf (.O (.j6 [4,5,6] (.aD ak (.aJ 63) (.O (.az 0) (.O (.az 1) .ab))))
 (.O (.dS [7,8] (.O (.al aF .ab) (.O (.al ak (.O (.ae 0) .ab)) .ab)))
 (.O (.fY [9,10] ak (.Dk (.az 4)) pw)
 (.O (.bg (.g8 (.bx (.az 0) (.ae 3))) (.O (.aW 11 Bv)
 (.O (.aW 12 (.bx (.az 11) (.aD ak (.aJ 43) (.O (.az 0) (.O (.aD ak (.aJ 12) (.O (.az 11) .ab)) .ab)))))
 (.O (.aW 8 (.bx (.al ak (.O (.al ak (.O (.ae 0) .ab)) (.O (.al ak (.O (.ae 0) (.O (.az 12) .ab))) (.O (.al ak (.O (.az 12) .ab)) (.O (.al ak (.O (.az 12) (.O (.ae 0) .ab))) .ab))))) (.aD ak (.aJ 43) (.O (.az 0) (.O (.ae 4) .ab)))))
 .ab))) .ab)
 (.O (.a9 (.bE (.O (.aD ak (.aJ 1) (.O (.az 2) (.O (.ah "c") (.O .aA (.O (.al ak (.O (.ah "x") (.O (.ah "y") .ab))) (.O (.tG (.az 7)) (.O (.aD ak (.aJ 65) (.O (.az 0) (.O (.az 5) (.O (.az 6) .ab)))) (.O (.az 3) (.O (.az 8) .ab))))))))) (.O (.az 5) .ab))))
 .ab)))))
noncomputable def Ds:a8:=.dL ak (.bE (.O (.aB (.az 4) "op") (.O (.aD ak (.aJ 66) (.O (.aB (.az 4) "a") .ab)) (.O (.aB (.az 4) "b") (.O (.aB (.az 4) "c") (.O (.aB (.az 4) "line") .ab)))))) (.O [4] aF (.bk (.aB (.az 0) "rows")) .ab .ab)
noncomputable def Dt:a8:=.dL ak (.bE (.O (.aB (.az 5) "sort") (.O (.aB (.az 5) "first") (.O (.aB (.az 5) "last") (.O (.aB (.az 5) "target") (.O (.aB (.az 5) "depth") .ab)))))) (.O [5] aF (.bk (.aB (.az 0) "catches")) .ab .ab)
noncomputable def Du:a8:=.dL ak (.aD ak (.aJ 67) (.O (.az 6) .ab)) (.O [6] aF (.bk (.aB (.az 0) "children")) .ab .ab)
def JV:cH where
 bq:="_law_told"
 aQ:=1
 aY:=["code","rows","catches","within","row","one","child"]
 bR:=[]
 bF:=aF
 bA:=.bf (.O (.aW 1 Ds)
 (.O (.aW 2 Dt)
 (.O (.aW 3 Du)
 (.O (.a9 (.al ak (.O (.aB (.az 0) "kind") (.O (.aB (.az 0) "name") (.O (.aB (.az 0) "params") (.O (.aD ak (.aJ 9) (.O (.aB (.az 0) "slots") .ab)) (.O (.az 1) (.O (.az 2) (.O (.aD ak (.aJ 9) (.O (.aB (.az 0) "starts") .ab)) (.O (.az 3) .ab))))))))))
 .ab))))
noncomputable def qn:a8:=(.aL (.az 2) (.O .lz (.aD ak (.aJ 12) (.O (.az 1) .ab)) .ab))
noncomputable def Dv:a8:=.dL ak (.aB (.az 6) "target") (.O [6] aF (.bk (.aB (.az 0) "catches")) (.O (.aL (.aB (.az 6) "first") (.O .gP (.az 3) (.O .lz (.aB (.az 6) "last") .ab))) .ab) .ab)
noncomputable def vn:a8:=.dL ak (.az 7) (.O [7] aF (.bk (.az 5)) (.O (.aL (.az 7) (.O .gm (.az 1) .ab)) .ab) .ab)
def vq:bK:=(.O (.aW 4 (.bx (.aB (.az 0) "rows") (.az 3)))
 (.O (.aW 5 Dv)
 (.O (.aW 5 (.d6 ak .ci (.d6 ak .ci (.az 5) (.fB (.aL (.fT ak (.aB (.az 4) "op") .aA (.ae 4)) (.O .bN (.ah "jump") .ab)) (.al ak (.O (.aB (.az 4) "a") .ab)) (.al ak .ab))) (.fB (.aL (.aB (.az 4) "op") (.O .fw (.aJ 61) .ab)) (.al ak .ab) (.al ak (.O (.d6 ak .ci (.az 3) (.ae 1)) .ab)))))
 (.O (.aW 1 (.d6 ak .ci (.az 1) vn))
 .ab))))
def qo:bK:=(.O (.aW 2 (.aD ak (.aJ 12) (.O (.az 1) .ab)))
 (.O (.fY [3] aF (.bk (.aD ak (.aJ 9) (.O (.az 1) .ab))) vq)
 .ab))
def JW:cH where
 bq:="_law_ways"
 aQ:=1
 aY:=["code","met","many","spot","row","goals","one","goal"]
 bR:=[]
 bF:=aF
 bA:=.bf (.O (.dS [1,2] (.O (.aD ak (.aJ 9) (.O (.aB (.az 0) "starts") .ab)) (.O (.tF (.ae 1)) .ab)))
 (.O (.tY 1000 qn qo)
 (.O (.a9 (.az 1))
 .ab)))
noncomputable def EO:a8:=(.dX (.O (.aL (.aB (.bx (.aB (.az 0) "rows") (.az 1)) "op") (.O .bN (.ah "jump") .ab)) (.O (.aL (.az 1) (.O .gm (.az 2) .ab)) .ab)))
noncomputable def EP:bK:=(.O (.cj (.eI (.az 2) "append" (.O (.az 1) .ab)))
 (.O (.aW 1 (.aB (.bx (.aB (.az 0) "rows") (.az 1)) "a"))
 .ab))
def Nb:cH where
 bq:="_law_end"
 aQ:=2
 aY:=["code","spot","seen"]
 bR:=[]
 bF:=aF
 bA:=.bf (.O (.aW 2 (.al aF .ab))
 (.O (.tY 1000 EO EP)
 (.O (.a9 (.fB (.aL (.az 1) (.O .fw (.az 2) .ab)) .aA (.az 1)))
 .ab)))
noncomputable def Aa:cH where
 bq:="_law_jump_left"
 aQ:=3
 aY:=["code","at","row","stop"]
 bR:=[]
 bF:=aF
 bA:=.bf (.O (.aW 3 (.aD ak (.aJ 68) (.O (.az 0) (.O (.aB (.az 2) "a") .ab))))
 (.O (.bg (.iP (.O (.aL (.aB (.az 2) "a") (.O .bN (.d6 ak .ci (.az 1) (.ae 1)) .ab)) (.O (.dX (.O (.aL (.az 3) (.O (.rz ()) .aA .ab)) (.O (.aL (.az 3) (.O .ne (.aB (.az 2) "a") .ab)) .ab))) .ab))) (.O (.a9 (.aG ak))
 .ab) .ab)
 (.O (.a9 (.dX (.O (.aL (.aB (.az 2) "op") (.O .bN (.ah "jump") .ab)) (.O (.aL (.az 3) (.O (.rz ()) .aA .ab)) (.O (.aL (.aB (.bx (.aB (.az 0) "rows") (.az 3)) "op") (.O .bN (.ah "leave") .ab)) .ab)))))
 .ab)))
noncomputable def Ab:cH where
 bq:="_law_pair_left"
 aQ:=3
 aY:=["code","at","words","first","later","third"]
 bR:=[]
 bF:=aF
 bA:=.bf (.O (.j6 [3,4,5] (.az 2))
 (.O (.bg (.iP (.O (.dX (.O (.aL (.az 3) (.O .fw (.aJ 44) .ab)) (.O (.aL (.az 4) (.O .bN (.ah "pop") .ab)) .ab))) (.O (.dX (.O (.aL (.az 3) (.O .fw (.al ak (.O (.ah "swap") (.O (.ah "dup") .ab))) .ab)) (.O (.aL (.az 4) (.O .bN (.ah "swap") .ab)) .ab))) .ab))) (.O (.a9 (.aG ak))
 .ab) .ab)
 (.O (.bg (.iP (.O (.dX (.O (.aL (.az 3) (.O .bN (.ah "dup") .ab)) (.O (.aL (.az 4) (.O .fw (.aJ 46) .ab)) (.O (.aL (.az 5) (.O .bN (.ah "pop") .ab)) .ab)))) (.O (.dX (.O (.aL (.az 3) (.O .bN (.ah "push") .ab)) (.O (.aL (.az 4) (.O .fw (.aJ 47) .ab)) .ab))) .ab))) (.O (.a9 (.aG ak))
 .ab) .ab)
 (.O (.bg (.dX (.O (.aL (.az 3) (.O .fw (.aJ 47) .ab)) (.O (.aL (.az 4) (.O .bN (.ah "jump") .ab)) (.O (.aL (.aB (.bx (.aB (.az 0) "rows") (.az 1)) "a") (.O .bN (.d6 ak .ci (.az 1) (.ae 2)) .ab)) .ab)))) (.O (.a9 (.aG ak))
 .ab) .ab)
 (.O (.a9 (.dX (.O (.aL (.az 3) (.O .bN (.ah "push") .ab)) (.O (.aL (.az 4) (.O .bN (.ah "jump") .ab)) (.O (.aL (.aB (.bx (.aB (.az 0) "rows") (.aB (.bx (.aB (.az 0) "rows") (.d6 ak .ci (.az 1) (.ae 1))) "a")) "op") (.O .fw (.aJ 47) .ab)) .ab)))))
 .ab)))))
noncomputable def zh:a8:=.dL ak (.aB (.az 6) "a") (.O [6] aF (.bk (.aB (.az 0) "rows")) (.O (.aL (.fT ak (.aB (.az 6) "op") .aA (.ae 4)) (.O .bN (.ah "jump") .ab)) .ab) .ab)
noncomputable def zi:a8:=.dL ak (.aB (.az 7) "target") (.O [7] aF (.bk (.aB (.az 0) "catches")) .ab .ab)
noncomputable def rd:a8:=(.dX (.O (.aL (.aD ak (.aJ 12) (.O (.az 5) .ab)) (.O .lz (.ae 3) .ab)) (.O (.aL (.d6 ak .ci (.az 3) (.aD ak (.aJ 12) (.O (.az 5) .ab))) (.O .lz (.aD ak (.aJ 12) (.O (.aB (.az 0) "rows") .ab)) .ab)) (.O (.aL (.d6 ak .ci (.az 3) (.aD ak (.aJ 12) (.O (.az 5) .ab))) (.O .gm (.az 1) .ab)) .ab))))
noncomputable def rg:bK:=(.O (.cj (.eI (.az 5) "append" (.O (.aB (.bx (.aB (.az 0) "rows") (.d6 ak .ci (.az 3) (.aD ak (.aJ 12) (.O (.az 5) .ab)))) "op") .ab)))
 .ab)
def zl:bK:=(.O (.aW 5 (.al aF (.O (.aB (.az 4) "op") .ab)))
 (.O (.tY 1000 rd rg)
 (.O (.bg (.iP (.O (.aL (.az 3) (.O .gm (.az 2) .ab)) (.O (.aD ak (.aJ 70) (.O (.az 0) (.O (.az 3) (.O (.fT ak (.d6 ak .ci (.az 5) (.al ak (.O (.ah "") (.O (.ah "") .ab)))) .aA (.ae 3)) .ab)))) .ab))) (.O (.a9 (.aG aF))
 .ab) .ab)
 (.O (.bg (.dX (.O (.aL (.fT ak (.aB (.az 4) "op") .aA (.ae 4)) (.O .bN (.ah "jump") .ab)) (.O (.aD ak (.aJ 71) (.O (.az 0) (.O (.az 3) (.O (.az 4) .ab)))) .ab))) (.O (.a9 (.aG aF))
 .ab) .ab)
 .ab))))
def Dw:cH where
 bq:="_law_at_rest"
 aQ:=1
 aY:=["code","met","ways","at","row","words","row","one"]
 bR:=[]
 bF:=aF
 bA:=.bf (.O (.aW 1 (.d6 ak .ci (.d6 ak .ci zh zi) (.aB (.az 0) "starts")))
 (.O (.aW 2 (.aD ak (.aJ 69) (.O (.az 0) .ab)))
 (.O (.fY [3,4] ak (.Dk (.aB (.az 0) "rows")) zl)
 (.O (.a9 (.aG ak))
 .ab))))
noncomputable def HG:cH where
 bq:="_law_holds"
 aQ:=1
 aY:=["value"]
 bR:=[]
 bF:=aF
 bA:=.bf (.O (.a9 (.dX (.O (.aL (.az 0) (.O (.rz ()) .aA .ab)) (.O (.aL (.aD ak (.aJ 66) (.O (.az 0) .ab)) (.O .ne (.ah "False") .ab)) .ab))))
 .ab)
noncomputable def EQ:a8:=.dL ak (.az 12) (.O [12] aF (.bk (.aB (.az 0) "catches")) (.O (.aL (.aB (.az 12) "first") (.O .lz (.az 4) (.O .gP (.aB (.az 12) "last") .ab))) .ab) .ab)
def bP:bK:=(.O (.aW 8 (.bx (.aB (.az 0) "rows") (.az 4)))
 (.O (.dS [9,4,10] (.O (.aB (.az 8) "op") (.O (.d6 ak .ci (.az 4) (.ae 1)) (.O (.fB (.aL (.aB (.az 8) "op") (.O .fw (.al ak (.O (.ah "getl") (.O (.ah "setl") .ab))) .ab)) (.aB (.az 8) "b") (.aB (.az 8) "a")) .ab))))
 (.O (.bg (.aL (.az 9) (.O .fw (.al ak (.O (.ah "text") (.O (.ah "undef") (.O (.ah "lambda") .ab)))) .ab)) (.O (.cj (.eI (.az 6) "append" (.O (.az 9) .ab)))
 .ab) .ab)
 (.O (.bg (.aL (.az 9) (.O .fw (.al ak (.O (.ah "push") (.O (.ah "self") (.O (.ah "blockgiven") (.O (.ah "text") (.O (.ah "undef") (.O (.ah "lambda") .ab))))))) .ab)) (.O (.cj (.eI (.az 5) "append" (.O (.fB (.aL (.az 9) (.O .bN (.ah "push") .ab)) (.az 10) (.fB (.aL (.az 9) (.O .bN (.ah "blockgiven") .ab)) (.az 2) (.az 9))) .ab)))
 .ab) .ab)
 (.O (.bg (.aL (.fT ak (.az 9) .aA (.ae 3)) (.O .bN (.ah "get") .ab)) (.O (.cj (.eI (.az 5) "append" (.O (.bx (.az 7) (.az 10)) .ab)))
 .ab) .ab)
 (.O (.bg (.aL (.fT ak (.az 9) .aA (.ae 3)) (.O .bN (.ah "set") .ab)) (.O (.kq (.az 7) (.az 10) (.eI (.az 5) "pop" .ab))
 (.O (.cj (.eI (.az 6) "append" (.O (.bE (.O (.az 9) (.O (.az 10) (.O (.aD ak (.aJ 66) (.O (.bx (.az 7) (.az 10)) .ab)) .ab)))) .ab)))
 .ab)) .ab)
 (.O (.bg (.aL (.az 9) (.O .bN (.ah "pop") .ab)) (.O (.cj (.eI (.az 5) "pop" .ab))
 .ab) .ab)
 (.O (.bg (.aL (.az 9) (.O .bN (.ah "dup") .ab)) (.O (.cj (.eI (.az 5) "append" (.O (.bx (.az 5) (.tF (.ae 1))) .ab)))
 .ab) .ab)
 (.O (.bg (.aL (.az 9) (.O .bN (.ah "swap") .ab)) (.O (.cj (.eI (.az 5) "append" (.O (.eI (.az 5) "pop" (.O (.tF (.ae 2)) .ab)) .ab)))
 .ab) .ab)
 (.O (.bg (.aL (.az 9) (.O .bN (.ah "leave") .ab)) (.O (.a9 (.bE (.O (.d6 ak .ci (.az 6) (.al ak (.O (.bE (.O (.az 9) (.O (.aD ak (.aJ 66) (.O (.eI (.az 5) "pop" .ab) .ab)) .ab))) .ab))) (.O (.aG ak) .ab))))
 .ab) .ab)
 (.O (.bg (.iP (.O (.aL (.az 9) (.O .bN (.ah "jump") .ab)) (.O (.dX (.O (.aL (.az 9) (.O .bN (.ah "jumpnil") .ab)) (.O (.aL (.bx (.az 5) (.tF (.ae 1))) (.O .AL .aA .ab)) .ab))) .ab))) (.O (.aW 4 (.aB (.az 8) "a"))
 .ab) .ab)
 (.O (.bg (.dX (.O (.aL (.az 9) (.O .fw (.aJ 47) .ab)) (.O (.aL (.aD ak (.aJ 72) (.O (.eI (.az 5) "pop" .ab) .ab)) (.O .bN (.aL (.az 9) (.O .bN (.ah "jumpif") .ab)) .ab)) .ab))) (.O (.aW 4 (.aB (.az 8) "a"))
 .ab) .ab)
 (.O (.bg (.aL (.az 9) (.O .bN (.ah "fail") .ab)) (.O (.aW 11 EQ)
 (.O (.cj (.eI (.az 6) "append" (.O (.az 9) .ab)))
 (.O (.bg (.aL (.az 11) (.O .bN (.al ak .ab) .ab)) (.O (.a9 (.bE (.O (.tG (.az 6)) (.O (.aG ak) .ab))))
 .ab) .ab)
 (.O (.dS [5,4] (.O (.d6 aF .ci (.fT ak (.az 5) .aA (.aB (.bx (.az 11) (.ae 0)) "depth")) (.al ak (.O (.ah "way") .ab))) (.O (.aB (.bx (.az 11) (.ae 0)) "target") .ab)))
 .ab)))) .ab)
 .ab)))))))))))))
def CK:cH where
 bq:="_law_run"
 aQ:=3
 aY:=["code","start","is_first","lap","at","stack","deeds","kept","row","op","name","some","one"]
 bR:=[]
 bF:=aF
 bA:=.bf (.O (.dS [4,5,6,7] (.O (.az 1) (.O (.al aF .ab) (.O (.al aF .ab) (.O (.dK (.O (.ae 0) (.O (.az 2) (.O (.ae 1) (.O (.ae 5) (.O (.ah "@x") (.O (.g8 (.az 2)) (.O (.ah "$x") (.O .aA .ab))))))))) .ab)))))
 (.O (.fY [3] aF (.gD (.ae 26)) bP)
 (.O (.a9 (.bE (.O (.tG (.az 6)) (.O (.aG aF) .ab))))
 .ab)))
noncomputable def pI:bK:=(.O (.j6 [5,6] (.aD ak (.aJ 73) (.O (.az 0) (.O (.az 3) (.O (.az 4) .ab)))))
 (.O (.j6 [7,8] (.aD ak (.aJ 73) (.O (.az 1) (.O (.bx (.aB (.az 1) "starts") (.az 2)) (.O (.az 4) .ab)))))
 (.O (.bg (.iP (.O (.aL (.fT ak (.az 7) .aA (.aD ak (.aJ 12) (.O (.az 5) .ab))) (.O .ne (.az 5) .ab)) (.O (.dX (.O (.az 6) (.O (.iP (.O (.aL (.az 7) (.O .ne (.az 5) .ab)) (.O (.g8 (.az 8)) .ab))) .ab))) .ab))) (.O (.a9 (.aG aF))
 .ab) .ab)
 .ab)))
def wH:bK:=(.O (.fY [4] aF (.bk (.al ak (.O (.aG aF) (.O (.aG ak) .ab)))) pI)
 .ab)
def Ac:cH where
 bq:="_law_does_same"
 aQ:=2
 aY:=["code","twin","spot","start","is_first","deeds","is_through","found","ends_here"]
 bR:=[]
 bF:=aF
 bA:=.bf (.O (.bg (.aL (.aD ak (.aJ 12) (.O (.aB (.az 0) "starts") .ab)) (.O .ne (.aD ak (.aJ 12) (.O (.aB (.az 1) "starts") .ab)) .ab)) (.O (.a9 (.aG aF))
 .ab) .ab)
 (.O (.fY [2,3] ak (.Dk (.aB (.az 0) "starts")) wH)
 (.O (.a9 (.aG ak))
 .ab)))
noncomputable def JX:cH where
 bq:="_law_said"
 aQ:=1
 aY:=["code"]
 bR:=[]
 bF:=aF
 bA:=.bf (.O (.AB (.O (.a9 (.aD ak (.aJ 23) (.O (.az 0) .ab)))
 .ab))
 .ab)
noncomputable def EZ:a8:=.dL ak (.fB (.aL (.az 12) (.O .fw (.az 9) .ab)) (.bx (.az 7) (.az 12)) .aA) (.O [12] aF (.gD (.aD ak (.aJ 12) (.O (.az 7) .ab))) .ab .ab)
noncomputable def E0:a8:=.dL ak (.az 13) (.O [13,14] ak (.bk (.aJ 36)) .ab .ab)
noncomputable def E1:bK:=(.O (.bg (.iP (.O (.g8 (.aD ak (.aJ 79) (.O (.az 11) .ab))) (.O (.g8 (.aD ak (.aJ 80) (.O (.az 10) (.O (.az 11) .ab)))) .ab))) (.O (.a9 (.aG aF))
 .ab) .ab)
 .ab)
noncomputable def E2:a8:=.dL ak (.az 15) (.O [15] aF (.bk (.aJ 77)) (.O (.aL (.aD ak (.aJ 67) (.O (.aD ak (.aJ 40) (.O (.az 3) (.O (.al ak (.O (.az 15) .ab)) .ab))) .ab)) (.O .ne (.az 4) .ab)) .ab) .ab)
noncomputable def E3:a8:=.dL ak (.az 17) (.O [16] aF (.bk (.d6 ak .ci (.al ak (.O (.az 6) .ab)) (.az 2))) .ab (.O [17] aF (.bk (.aB (.az 16) "catches")) (.O (.aL (.aB (.az 17) "depth") (.O .xJ (.ae 0) .ab)) .ab) .ab))
def Kr:cH where
 bq:="law"
 aQ:=1
 aY:=["script","box","within","twin","due","keeps","code","heights","before","ways","one","tidied","spot","name","step","name","some","one"]
 bR:=[]
 bF:=aF
 bA:=.bf (.O (.aW 1 (.aD ak (.aJ 74) (.O (.az 0) .ab)))
 (.O (.aW 2 (.fB (.bx (.az 1) (.ae 3)) (.al ak .ab) (.al ak (.O (.bx (.aD ak (.aJ 75) (.O (.az 1) (.O (.ae 6) (.O (.ah "block") (.O (.al ak .ab) .ab))))) (.ae 0)) .ab))))
 (.O (.j6 [6,7] (.aD ak (.aJ 75) (.O (.az 1) (.O (.ae 10) (.O (.ah "method") (.O (.az 2) .ab))))))
 (.O (.dS [8,9] (.O (.aD ak (.aJ 67) (.O (.az 6) .ab)) (.O (.aD ak (.aJ 69) (.O (.az 6) .ab)) .ab)))
 (.O (.bg (.aL (.aD ak (.aJ 76) (.O (.az 6) .ab)) (.O .ne EZ .ab)) (.O (.a9 (.aG aF))
 .ab) .ab)
 (.O (.aW 3 (.aD ak (.aJ 38) (.O (.az 6) .ab)))
 (.O (.bg (.iP (.O (.aL (.aD ak (.aJ 12) (.O (.aB (.az 3) "children") .ab)) (.O .ne (.aD ak (.aJ 12) (.O (.az 2) .ab)) .ab)) (.O (.aL (.aD ak (.aJ 78) (.O E0 .ab)) (.O .ne (.aD ak (.aJ 9) (.O (.aJ 77) .ab)) .ab)) .ab))) (.O (.a9 (.aG aF))
 .ab) .ab)
 (.O (.fY [10,11] ak (.Eh (.d6 ak .ci (.al ak (.O (.az 6) .ab)) (.az 2)) (.d6 ak .ci (.al ak (.O (.az 3) .ab)) (.aB (.az 3) "children"))) E1)
 (.O (.aW 4 (.aD ak (.aJ 67) (.O (.az 3) .ab)))
 (.O (.bg (.iP (.O (.aL E2 (.O .ne (.al ak .ab) .ab)) (.O (.aL (.aD ak (.aJ 67) (.O (.aD ak (.aJ 38) (.O (.az 3) .ab)) .ab)) (.O .ne (.az 4) .ab)) .ab))) (.O (.a9 (.aG aF))
 .ab) .ab)
 (.O (.aW 5 E3)
 (.O (.bg (.dX (.O (.aL (.az 5) (.O .bN (.al ak .ab) .ab)) (.O (.aL .aA (.O .fw (.aD ak (.aJ 76) (.O (.az 3) .ab)) .ab)) .ab))) (.O (.a9 (.aG aF))
 .ab) .ab)
 (.O (.a9 (.aL (.aD ak (.aJ 67) (.O (.az 6) .ab)) (.O .bN (.az 8) .ab)))
 .ab)))))))))))))
def a4:vk where
 tZ:=[JM,xc,EA,Bn,HA,zc,HB,JN,EB,JO,zY,zd,uq,tU,tV,ot,rS,Bo,wW,Uv,Uw,JP,M6,Bp,JQ,M7,Bq,ze,zf,JR,tW,sI,tX,z8,Ux,Br,Xy,EJ,HC,M9,JT,HD,Na,HE,EM,Bu,sO,HF,EN,JU,kH,uZ,vm,yH,JV,JW,Nb,Aa,Ab,Dw,HG,CK,Ac,JX,Kr]
 e6:=[
 {bq:="Row",cu:=["op","a","b","c","line"],gW:=0,dZ:=ak,mU:=[("with_target",1)]},
 {bq:="Catch",cu:=["sort","first","last","target","depth"],gW:=2,dZ:=ak,mU:=[("covers",3)]},
 {bq:="Code",cu:=["kind","name","params","slots","rows","catches","children","starts","number"],gW:=4,dZ:=ak,mU:=[("with_rows",5)]},
 {bq:="RowCheck",cu:=["code","seen","depths","waiting"],gW:=10,dZ:=aF,mU:=[("reach",11),("need_form",12),("need_slots",13),("need_child",14),("step",15),("need_catches",16),("run",17)]}]
 tH:=[kv "Row" (.mQ 0),
 kv "Code" (.mQ 2),
 kv "EFFECTS" (.rx 0),
 kv "isinstance" (.bi 8),
 kv "tuple" (.bi 11),
 kv "int" (.bi 5),
 kv "bool" (.bi 9),
 kv "str" (.bi 10),
 kv "is_whole" (.fn 7),
 kv "list" (.bi 1),
 kv "is_block" (.fn 906),
 kv "is_sort" (.fn 907),
 kv "len" (.bi 0),
 kv "OPERANDS" (.rx 1),
 kv "is_operand" (.fn 8),
 kv "JUMPS" ((.bE [(.ah "jump"),(.ah "jumpif"),(.ah "jumpunless"),(.ah "jumpnil")])),
 kv "child_of" (.fn 9),
 kv "effect_of" (.fn 6),
 kv "ENDS" ((.bE [(.ah "jump"),(.ah "leave"),(.ah "out"),(.ah "again"),(.ah "nomatch"),(.ah "fail")])),
 kv "Catch" (.mQ 1),
 kv "CATCH_SORTS" ((.bE [(.ah "rescue"),(.ah "ensure")])),
 kv "CODE_KINDS" ((.bE [(.ah "method"),(.ah "block"),(.ah "class"),(.ah "program")])),
 kv "RowCheck" (.mQ 3),
 kv "check_rows" (.fn 18),
 kv "end_of_jumps" (.fn 23),
 kv "pressed" (.fn 22),
 kv "reached" (.fn 25),
 kv "marks_of" (.fn 21),
 kv "is_op" (.fn 19),
 kv "PLAIN" ((.bE [(.ah "push"),(.ah "self"),(.ah "getl"),(.ah "geti"),(.ah "getg"),(.ah "dup"),(.ah "blockgiven")])),
 kv "STORES" ((.bE [(.ah "setl"),(.ah "seti"),(.ah "setg"),(.ah "setc")])),
 kv "truth" (.fn 20),
 kv "BRANCHES" ((.bE [(.ah "jumpif"),(.ah "jumpunless")])),
 kv "is_taken" (.fn 29),
 kv "MOST_ROUNDS" ((.ae 24)),
 kv "shape" (.fn 34),
 kv "PASSES" ((.al [(.bE [(.ah "threaded"),(.fn 24)]),(.bE [(.ah "known branches"),(.fn 30)]),(.bE [(.ah "turned branches"),(.fn 31)]),(.bE [(.ah "short jumps"),(.fn 32)]),(.bE [(.ah "dead rows"),(.fn 26)]),(.bE [(.ah "pushes"),(.fn 27)]),(.bE [(.ah "copies"),(.fn 28)]),(.bE [(.ah "swaps"),(.fn 33)])])),
 kv "tidied_alone" (.fn 35),
 kv "tidy" (.fn 36),
 kv "pass_named" (.fn 37),
 kv "passed_by" (.fn 38),
 kv "max" (.bi 2),
 kv "abs" (.bi 4),
 kv "_law_take" (.fn 40),
 kv "_law_puts" ((.bE [(.ah "push"),(.ah "self"),(.ah "getl"),(.ah "geti"),(.ah "getg"),(.ah "dup"),(.ah "blockgiven")])),
 kv "_law_known" (.fn 41),
 kv "_law_stores" ((.bE [(.ah "setl"),(.ah "seti"),(.ah "setg"),(.ah "setc")])),
 kv "_law_branches" ((.bE [(.ah "jumpif"),(.ah "jumpunless")])),
 kv "_law_put" (.fn 42),
 kv "_law_dup" ((.bE [(.ah "dup"),.aA,.aA])),
 kv "_law_store" (.fn 43),
 kv "_law_pop" ((.bE [(.ah "pop"),.aA,.aA])),
 kv "_law_swap" ((.bE [(.ah "swap"),.aA,.aA])),
 kv "_law_branch" (.fn 44),
 kv "_law_leave" ((.bE [(.ah "leave"),.aA,.aA])),
 kv "_law_jump" ((.bE [(.ah "jump"),.aA,.aA])),
 kv "_law_met_pair" (.fn 45),
 kv "_law_one" (.fn 46),
 kv "_law_change" (.fn 48),
 kv "_law_piece" (.fn 47),
 kv "_law_laid" (.fn 49),
 kv "_law_ends" ((.bE [(.ah "jump"),(.ah "leave"),(.ah "fail")])),
 kv "min" (.bi 3),
 kv "_law_plain" (.fn 50),
 kv "_law_goal" (.fn 51),
 kv "_law_catches" (.fn 52),
 kv "repr" (.bi 6),
 kv "_law_told" (.fn 54),
 kv "_law_end" (.fn 56),
 kv "_law_ways" (.fn 55),
 kv "_law_pair_left" (.fn 58),
 kv "_law_jump_left" (.fn 57),
 kv "_law_holds" (.fn 60),
 kv "_law_run" (.fn 61),
 kv "_law_box" (.fn 39),
 kv "_law_scene" (.fn 53),
 kv "_law_said" (.fn 63),
 kv "_law_names" ((.bE [(.ah "copies"),(.ah "dead rows"),(.ah "known branches"),(.ah "pushes"),(.ah "short jumps"),(.ah "swaps"),(.ah "threaded"),(.ah "turned branches")])),
 kv "sorted" (.bi 7),
 kv "_law_at_rest" (.fn 59),
 kv "_law_does_same" (.fn 62)]
 n7:=[[kv "push" (.bE [(.ae 0),(.ae 1)]),kv "text" (.bE [(.ae 0),(.ae 1)]),kv "pop" (.bE [(.ae 1),(.ae 0)]),kv "dup" (.bE [(.ae 1),(.ae 2)]),kv "dup2" (.bE [(.ae 2),(.ae 4)]),kv "swap" (.bE [(.ae 2),(.ae 2)]),kv "tuck" (.fn 914),kv "self" (.bE [(.ae 0),(.ae 1)]),kv "getl" (.bE [(.ae 0),(.ae 1)]),kv "setl" (.bE [(.ae 1),(.ae 0)]),kv "geti" (.bE [(.ae 0),(.ae 1)]),kv "seti" (.bE [(.ae 1),(.ae 0)]),kv "getg" (.bE [(.ae 0),(.ae 1)]),kv "setg" (.bE [(.ae 1),(.ae 0)]),kv "getc" (.bE [(.ae 0),(.ae 1)]),kv "getcin" (.bE [(.ae 1),(.ae 1)]),kv "setc" (.bE [(.ae 1),(.ae 0)]),kv "list" (.fn 908),kv "append" (.bE [(.ae 2),(.ae 1)]),kv "joinlists" (.bE [(.ae 2),(.ae 1)]),kv "spread" (.bE [(.ae 1),(.ae 1)]),kv "table" (.fn 913),kv "range" (.bE [(.ae 2),(.ae 1)]),kv "totext" (.bE [(.ae 1),(.ae 1)]),kv "texts" (.fn 908),kv "send" (.fn 910),kv "super" (.fn 912),kv "zsuper" (.fn 916),kv "yield" (.fn 915),kv "jump" (.bE [(.ae 0),(.ae 0)]),kv "jumpif" (.bE [(.ae 1),(.ae 0)]),kv "jumpunless" (.bE [(.ae 1),(.ae 0)]),kv "jumpnil" (.bE [(.ae 1),(.ae 1)]),kv "lambda" (.bE [(.ae 0),(.ae 1)]),kv "def" (.bE [(.ae 0),(.ae 1)]),kv "sdef" (.bE [(.ae 1),(.ae 1)]),kv "class" (.fn 903),kv "module" (.bE [(.ae 0),(.ae 1)]),kv "sclass" (.bE [(.ae 1),(.ae 1)]),kv "alias" (.bE [(.ae 0),(.ae 1)]),kv "undef" (.bE [(.ae 0),(.ae 1)]),kv "leave" (.bE [(.ae 1),(.ae 0)]),kv "out" (.bE [(.ae 1),(.ae 0)]),kv "again" (.bE [(.ae 1),(.ae 0)]),kv "caught" (.bE [(.ae 1),(.ae 1)]),kv "setcaught" (.bE [(.ae 1),(.ae 0)]),kv "defined" (.fn 904),kv "spreadto" (.fn 911),kv "respond" (.bE [(.ae 1),(.ae 1)]),kv "islist" (.bE [(.ae 1),(.ae 1)]),kv "istable" (.bE [(.ae 1),(.ae 1)]),kv "listfits" (.bE [(.ae 1),(.ae 1)]),kv "listat" (.bE [(.ae 1),(.ae 1)]),kv "listpart" (.bE [(.ae 1),(.ae 1)]),kv "tablehas" (.bE [(.ae 1),(.ae 1)]),kv "tableat" (.bE [(.ae 1),(.ae 1)]),kv "tablerest" (.bE [(.ae 1),(.ae 1)]),kv "tableonly" (.bE [(.ae 1),(.ae 1)]),kv "nomatch" (.bE [(.ae 1),(.ae 0)]),kv "blockgiven" (.bE [(.ae 0),(.ae 1)]),kv "fail" (.bE [(.ae 0),(.ae 0)]),kv "builtin" (.bE [(.ae 0),(.ae 1)]),kv "needclass" (.bE [(.ae 1),(.ae 1)]),kv "toblock" (.bE [(.ae 1),(.ae 1)]),kv "passing" (.bE [(.ae 1),(.ae 0)])],
 [kv "push" (.ah "v"),kv "text" (.ah "t"),kv "tuck" (.ah "c"),kv "getl" (.ah "cc"),kv "setl" (.ah "cc"),kv "geti" (.ah "n"),kv "seti" (.ah "n"),kv "getg" (.ah "n"),kv "setg" (.ah "n"),kv "getc" (.ah "n"),kv "getcin" (.ah "n"),kv "setc" (.ah "n"),kv "list" (.ah "c"),kv "table" (.ah "c"),kv "range" (.ah "f"),kv "texts" (.ah "c"),kv "send" (.ah "nas"),kv "super" (.ah "ab"),kv "zsuper" (.ah "b"),kv "yield" (.ah "a"),kv "jump" (.ah "p"),kv "jumpif" (.ah "p"),kv "jumpunless" (.ah "p"),kv "jumpnil" (.ah "p"),kv "lambda" (.ah "c"),kv "def" (.ah "nc"),kv "sdef" (.ah "nc"),kv "class" (.ah "ncf"),kv "module" (.ah "nc"),kv "sclass" (.ah "c"),kv "alias" (.ah "nn"),kv "undef" (.ah "n"),kv "out" (.ah "s"),kv "defined" (.ah "sv"),kv "spreadto" (.ah "crc"),kv "respond" (.ah "n"),kv "listfits" (.ah "cf"),kv "listat" (.ah "i"),kv "listpart" (.ah "cc"),kv "tablehas" (.ah "v"),kv "tableat" (.ah "v"),kv "tablerest" (.ah "k"),kv "tableonly" (.ah "k"),kv "fail" (.ah "nt"),kv "builtin" (.ah "n")]]
noncomputable def SC:af:=64
abbrev KE:=aC→an→Prop
abbrev KS:=yG→bJ→an→Prop
abbrev KL:=ao am→an→Prop
abbrev bw:=af→ao aC→an→KE→Prop
structure g9 where
 T:vk
 C:bw
def oi{α:Type}(o:aM α)(K:α→Prop):Prop:=@Rg α (fun q9=>Prop) dj K o
def gX(o:aM (aC×an))(K:KE):Prop:=@Rg (aC×an) (fun q9=>Prop) dj (fun p=>@Prod.rec aC an (fun q9=>Prop) K p) o
def tI(t:av)(a b:Prop):Prop:=@Lu (fun q9=>Prop) b a t
def flw(fl:yG)(n c:Prop)(r:aC→Prop):Prop:=@yG.rec (fun q9=>Prop) n c r fl
def asK(m:aC)(K:am→Prop):Prop:=@aC.rec (fun q9=>Prop) K (fun q9=>dj) (fun q9=>dj) m
def zo:ao aC→(ao am→Prop)→Prop
 |[],K=>K []
 |m::r,K=>asK m fun v=>zo r fun vs=>K (v::vs)
def AO:bJ→af→aC→(bJ→Prop)→Prop
 |[],_,_,_=>dj
 |a::r,x,v,K=>match x with
  | 0=>K (ac v::r)
  |x+1=>AO r x v fun r=>K (a::r)
def Ek:ao af→ao aC→bJ→(bJ→Prop)→Prop
 |[],vs,ρ,K=>match vs with
  |[] =>K ρ
  |_::_=>dj
 |x::xs,vs,ρ,K=>match vs with
  |[] =>dj
  |v::vs=>AO ρ x v fun ρ=>Ek xs vs ρ K
def uP:ao af→ao am→bJ→(bJ→Prop)→Prop
 |[],vs,ρ,K=>match vs with
  |[] =>K ρ
  |_::_=>dj
 |x::xs,vs,ρ,K=>match vs with
  |[] =>dj
  |v::vs=>AO ρ x (.f v) fun ρ=>uP xs vs ρ K
def lE(ρ:bJ)(xs:ao af)(tp:av)(v:am)(K:bJ→Prop):Prop:=tI tp (match v with
 |.bE vs=>uP xs vs ρ K
 |_=>dj) (uP xs [v] ρ K)
def acB:af→(bJ→Prop)→Prop
 | 0,K=>K []
 |n+1,K=>acB n fun ρ=>K (au::ρ)
def W5:ao aC→af→(bJ→Prop)→Prop
 |[],n,K=>acB n K
 |a::r,n,K=>W5 r n fun ρ=>K (ac a::ρ)
def afd:am→(cF aN aI→Prop)→Prop
 |.ae i,K=>K (.inl i)
 |.ah s,K=>K (.inr s)
 |_,_=>dj
def Ks:ao am→(ao (cF aN aI×am)→Prop)→Prop
 |[],K=>K []
 |k::r,K=>match r with
  |[] =>dj
  |v::r=>afd k fun k=>Ks r fun es=>K ((k,v)::es)
noncomputable def wI(n m:af):aM jE:=if n≤m then ac () else au
def uQ(tp:av)(v:aC):aM (ao am):=if tp then au else match v with
 |.f (.ae n)=>if n.natAbs≤1000000 then ac (cU n) else au
 |_=>au
def Bw(tp:av)(v:aC):aM (ao am):=if tp then (match v with
 |.f (.al xs)=>if xs.length≤100000 then ac (eO xs) else au
 |.f (.ah s)=>if s.cps.all (·<128)=ak∧s.cps.size≤100000 then ac (eO (nQ s)) else au
 |_=>au) else au
def Mq(tp:av)(a b:aC):aM (ao am):=if tp then (match a with
 |.f (.al xs)=>(match b with
  |.f (.al ys)=>if xs.length≤100000 then ac (jB xs ys) else au
  |_=>au)
 |_=>au) else au
def rA(m:aC):aM (ao am):=m.f?.bind fun x=>(wF x).map (·.2)
def Kt(σ:an):aC→aC→aM (aC×an)
 |.f v,b=>(rA b).bind fun vs=>jJ σ ak (v::vs)
 |_,_=>au
noncomputable def abz(T:vk):am→av
 |.fn k=>(T.tZ[k]?).isSome
 |.mQ c=>(T.e6[c]?).isSome
 |.bi _=>ak
 |_=>aF
def SD(T:vk)(m:aC):av:=m.f?.any (abz T)
def abA(X:g9)(fz:av)(f:aC)(args:ao aC)(σ:an)(K:KE):Prop:=match f with
 |.f (.fn k)=>tI (lx k 1000) (X.C k args σ K) dj
 |.f (.mQ c)=>X.C (1000+c) args σ K
 |.f (.bi k)=>gX (eP σ fz k args) K
 |_=>dj
def abB(X:g9)(κ:rP)(o:aC)(args:ao aC)(σ:an)(K:KE):Prop:=match κ with
 |.fn g=>X.C g (o::args) σ K
 |κ=>gX (kG X.T σ κ o args) K
def abC(L:an→ao am→KL→Prop)(K:KL)(acc:ao am)(σ:an):Prop:=L σ acc K
def rB(g:bJ→an→ao am→KL→Prop)(ρ:bJ)(xs:ao af)(tp:av):ao am→an→ao am→KL→Prop
 |[],σ,acc,K=>K acc σ
 |v::vs,σ,acc,K=>lE ρ xs tp v fun dw=>g dw σ acc (abC (rB g ρ xs tp vs) K)
def lF(L:bJ→an→Prop)(K:KS)(fl:yG)(ρ:bJ)(σ:an):Prop:=flw fl (L ρ σ) (L ρ σ) fun v=>K (.a9 v) ρ σ
def lP(body:bJ→an→KS→Prop)(xs:ao af)(tp:av)(K:KS):ao am→bJ→an→Prop
 |[],ρ,σ=>K .aS ρ σ
 |v::vs,ρ,σ=>lE ρ xs tp v fun dw=>body dw σ (lF (lP body xs tp K vs) K)
def kWh(body:bJ→an→KS→Prop)(L:bJ→an→Prop)(K:KS)(ρ:bJ)(t:av)(σ:an):Prop:=tI t (body ρ σ (lF L K)) (K .aS ρ σ)
def t6(test:bJ→an→(av→an→Prop)→Prop)(body:bJ→an→KS→Prop)(K:KS):af→bJ→an→Prop
 | 0,_,_=>dj
 |n+1,ρ,σ=>test ρ σ (kWh body (t6 test body K n) K ρ)
section
variable(X:g9)(A B D:an→KE→Prop)(G:an→(ao aC→an→Prop)→Prop)(K:KE)
def af6(fz:av)(op:EX)(x y:aC)(σ:an):Prop:=gX (sN σ fz op x y) K
def ail(fz:av)(op:EX)(x:aC)(σ:an):Prop:=B σ (af6 K fz op x)
def aim(x:aC)(σ:an):Prop:=oi (t5 σ x) fun b=>K (.f (.aG (!b))) σ
def ain(x:aC)(σ:an):Prop:=oi (afa x) fun v=>K v σ
def wJ(b:av)(σ:an):Prop:=K (.f (.aG b)) σ
def aio(G:aC→an→(av→an→Prop)→Prop)(x:aC)(σ:an):Prop:=G x σ (wJ K)
def aip(x:aC)(σ:an):Prop:=oi (t5 σ x) fun t=>tI t (A σ K) (B σ K)
def adl(fz:av)(f:aC)(vs:ao aC)(σ:an):Prop:=abA X fz f vs σ K
def af7(fz:av)(f:aC)(σ:an):Prop:=tI (SD X.T f) (G σ (adl X K fz f)) dj
def adm(κ:rP)(o:aC)(vs:ao aC)(σ:an):Prop:=abB X κ o vs σ K
def af8(name:aI)(o:aC)(σ:an):Prop:=oi (lB X.T σ o name) fun κ=>G σ (adm X K κ o)
def af9(name:aI)(o:aC)(σ:an):Prop:=oi (Ej X.T σ o name) fun v=>K v σ
def aga(o i:aC)(σ:an):Prop:=oi (lN X.T σ o i) fun v=>K (.f v) σ
def aiq(o:aC)(σ:an):Prop:=B σ (aga X K o)
def air(fz:av)(o lo hi:aC)(σ:an):Prop:=gX (lO σ fz o lo hi) K
def ais(fz:av)(o lo:aC)(σ:an):Prop:=B σ (air K fz o lo)
def kSl(fz:av)(o:aC)(σ:an):Prop:=A σ (ais B K fz o)
def ait(vs:ao aC)(σ:an):Prop:=zo vs fun fs=>oi (wI fs.length 100000) fun q9=>K (.f (.bE fs)) σ
def agb(fz:av)(vs:ao aC)(σ:an):Prop:=zo vs fun fs=>gX (jJ σ fz fs) K
def adn(a b:aC)(σ:an):Prop:=gX (Kt σ a b) K
def agc(a:aC)(σ:an):Prop:=B σ (adn K a)
def abD(vs:ao aC)(σ:an):Prop:=zo vs fun fs=>Ks fs fun es=>tI (dc (es.length≤10∧(es.map (·.1)).Nodup)) (K (.a6 σ.length) (σ++[ac (.dK es)])) dj
def agd(acc:ao am)(K:KL)(v:aC)(σ:an):Prop:=asK v fun x=>K (acc++[x]) σ
def Pc(E:bJ→an→KE→Prop)(ρ:bJ)(σ:an)(acc:ao am)(K:KL):Prop:=E ρ σ (agd acc K)
def SE(fz:av)(l:ao am)(σ:an):Prop:=gX (jJ σ fz l) K
def aiu(v:aC)(σ:an):Prop:=gX (acA σ v) K
def acC(b:an→KE→Prop)(x:aC)(σ:an):Prop:=oi (t5 σ x) fun t=>tI t (b σ K) (K x σ)
def kOr(b:an→KE→Prop)(x:aC)(σ:an):Prop:=oi (t5 σ x) fun t=>tI t (K x σ) (b σ K)
end
def afe(K:ao aC→an→Prop)(v:aC)(vs:ao aC)(σ:an):Prop:=K (v::vs) σ
def kEs(G:an→(ao aC→an→Prop)→Prop)(K:ao aC→an→Prop)(v:aC)(σ:an):Prop:=G σ (afe K v)
def kCs(X:g9)(op:Kq)(a:aC)(K:av→an→Prop)(v:aC)(σ:an):Prop:=oi (fg X.T σ op a v) fun b=>K b σ
def aiv(X:g9)(op:Kq)(a:aC)(G:aC→an→(av→an→Prop)→Prop)(K:av→an→Prop)(v:aC)(σ:an):Prop:=oi (fg X.T σ op a v) fun b=>tI b (G v σ K) (K aF σ)
def Ti(tp:av)(K:KL)(v:aC)(σ:an):Prop:=oi (IB tp v) fun xs=>oi (wI xs.length 100000) fun q9=>K xs σ
def ado(tp:av)(K:KL)(v:aC)(σ:an):Prop:=oi (uQ tp v) fun xs=>K xs σ
def age(tp:av)(K:KL)(v:aC)(σ:an):Prop:=oi (Bw tp v) fun xs=>K xs σ
def agf(tp:av)(K:KL)(v w:aC)(σ:an):Prop:=oi (Mq tp v w) fun xs=>K xs σ
def aiw(B:an→KE→Prop)(tp:av)(K:KL)(v:aC)(σ:an):Prop:=B σ (agf tp K v)
def oQ(K:av→an→Prop)(v:aC)(σ:an):Prop:=oi (t5 σ v) fun t=>K t σ
def adp(G:an→(av→an→Prop)→Prop)(K:av→an→Prop)(v:aC)(σ:an):Prop:=oi (t5 σ v) fun t=>tI t (G σ K) (K aF σ)
def agg(g:an→ao am→KL→Prop)(acc:ao am)(K:KL)(t:av)(σ:an):Prop:=tI t (g σ acc K) (K acc σ)
def E4(Ts:bJ→an→(av→an→Prop)→Prop)(g:bJ→an→ao am→KL→Prop)(ρ:bJ)(σ:an)(acc:ao am)(K:KL):Prop:=Ts ρ σ (agg (g ρ) acc K)
def Tj(g:bJ→an→ao am→KL→Prop)(ρ:bJ)(xs:ao af)(tp:av)(acc:ao am)(K:KL)(items:ao am)(σ:an):Prop:=oi (wI acc.length 1000000) fun q9=>rB g ρ xs tp items σ acc K
mutual
def vE(X:g9):a8→bJ→an→KE→Prop
 |.aA,_,σ,K=>K (.f .aA) σ
 |.aG b,_,σ,K=>K (.f (.aG b)) σ
 |.ae i,_,σ,K=>K (.f (.ae i)) σ
 |.ah s,_,σ,K=>K (.f (.ah s)) σ
 |.az x,ρ,σ,K=>oi (ρ[x]?).join fun v=>K v σ
 |.aJ g,_,σ,K=>oi (X.T.tH[g]?) fun p=>K (.f p.2) σ
 |.d6 fz op a b,ρ,σ,K=>vE X a ρ σ (ail (vE X b ρ) K fz op)
 |.g8 a,ρ,σ,K=>vE X a ρ σ (aim K)
 |.tF a,ρ,σ,K=>vE X a ρ σ (ain K)
 |.dX xs,ρ,σ,K=>W6 X xs ρ σ K
 |.iP xs,ρ,σ,K=>vOr X xs ρ σ K
 |.aL a cs,ρ,σ,K=>vE X a ρ σ (aio K (vCs X cs ρ))
 |.fB c a b,ρ,σ,K=>vE X c ρ σ (aip (vE X a ρ) (vE X b ρ) K)
 |.aD fz f args,ρ,σ,K=>vE X f ρ σ (af7 X (Ob X args ρ) K fz)
 |.eI o name args,ρ,σ,K=>vE X o ρ σ (af8 X (Ob X args ρ) K name)
 |.aB o name,ρ,σ,K=>vE X o ρ σ (af9 X K name)
 |.bx o i,ρ,σ,K=>vE X o ρ σ (aiq X (vE X i ρ) K)
 |.fT fz o lo hi,ρ,σ,K=>vE X o ρ σ (kSl (vE X lo ρ) (vE X hi ρ) K fz)
 |.bE xs,ρ,σ,K=>Ob X xs ρ σ (ait K)
 |.al fz xs,ρ,σ,K=>Ob X xs ρ σ (agb K fz)
 |.xK x rest,ρ,σ,K=>vE X x ρ σ (agc (vE X rest ρ) K)
 |.dK kvs,ρ,σ,K=>Ob X kvs ρ σ (abD K)
 |.dL fz elt gens,ρ,σ,K=>tI (aby ρ (iZ gens)) (HH X gens (Pc (vE X elt)) ρ σ [] (SE K fz)) dj
 |.tG e,ρ,σ,K=>vE X e ρ σ (aiu K)
 |.xb,_,_,_=>dj
def Ob(X:g9):c4→bJ→an→(ao aC→an→Prop)→Prop
 |.ab,_,σ,K=>K [] σ
 |.O e r,ρ,σ,K=>vE X e ρ σ (kEs (Ob X r ρ) K)
def W6(X:g9):c4→bJ→an→KE→Prop
 |.ab,_,_,_=>dj
 |.O e r,ρ,σ,K=>match r with
  |.ab=>vE X e ρ σ K
  |_=>vE X e ρ σ (acC K (W6 X r ρ))
def vOr(X:g9):c4→bJ→an→KE→Prop
 |.ab,_,_,_=>dj
 |.O e r,ρ,σ,K=>match r with
  |.ab=>vE X e ρ σ K
  |_=>vE X e ρ σ (kOr K (vOr X r ρ))
def vCs(X:g9):wC→bJ→aC→an→(av→an→Prop)→Prop
 |.ab,_,_,_,_=>dj
 |.O op e r,ρ,a,σ,K=>vE X e ρ σ (match r with
  |.ab=>kCs X op a K
  |_=>aiv X op a (vCs X r ρ) K)
def vIt(X:g9)(tp:av):yD→bJ→an→KL→Prop
 |.bk e,ρ,σ,K=>vE X e ρ σ (Ti tp K)
 |.gD e,ρ,σ,K=>vE X e ρ σ (ado tp K)
 |.Dk e,ρ,σ,K=>vE X e ρ σ (age tp K)
 |.Eh a b,ρ,σ,K=>vE X a ρ σ (aiw (vE X b ρ) tp K)
def px(X:g9):c4→bJ→an→(av→an→Prop)→Prop
 |.ab,_,σ,K=>K ak σ
 |.O e r,ρ,σ,K=>vE X e ρ σ (adp (px X r ρ) K)
def HH(X:g9):mT→(bJ→an→ao am→KL→Prop)→bJ→an→ao am→KL→Prop
 |.ab,g,ρ,σ,acc,K=>g ρ σ acc K
 |.O xs tp it ifs r,g,ρ,σ,acc,K=>vIt X tp it ρ σ (Tj (E4 (px X ifs) (HH X r g)) ρ xs tp acc K)
end
def agh(K:KS)(ρ:bJ)(v:aC)(σ:an):Prop:=K .aS ρ σ
def acD(K:KS)(ρ:bJ)(x:af)(v:aC)(σ:an):Prop:=AO ρ x v fun ρ=>K .aS ρ σ
def agi(K:KS)(ρ:bJ)(xs:ao af)(vs:ao aC)(σ:an):Prop:=oi (wI vs.length 1000) fun q9=>Ek xs vs ρ fun ρ=>K .aS ρ σ
def aix(K:KS)(ρ:bJ)(xs:ao af)(v:aC)(σ:an):Prop:=oi (rA v) fun vs=>uP xs vs ρ fun ρ=>K .aS ρ σ
def agj(K:an→Prop)(v o i:aC)(σ:an):Prop:=oi (o6 σ o i v) K
def agk(B:an→KE→Prop)(K:an→Prop)(v o:aC)(σ:an):Prop:=B σ (agj K v o)
def W7(A B:an→KE→Prop)(K:an→Prop)(v:aC)(σ:an):Prop:=A σ (agk B K v)
def agl(A B A' B':an→KE→Prop)(K:an→Prop)(v w:aC)(σ:an):Prop:=asK v fun x=>asK w fun y=>W7 A B (W7 A' B' K (.f y)) (.f x) σ
def aiy(W A B A' B':an→KE→Prop)(K:an→Prop)(v:aC)(σ:an):Prop:=W σ (agl A B A' B' K v)
def aiz(K:KS)(ρ:bJ)(v:aC)(σ:an):Prop:=K (.a9 v) ρ σ
def aiA(A B:an→KS→Prop)(K:KS)(x:aC)(σ:an):Prop:=oi (t5 σ x) fun t=>tI t (A σ K) (B σ K)
def agm(body:bJ→an→KS→Prop)(xs:ao af)(tp:av)(K:KS)(ρ:bJ)(items:ao am)(σ:an):Prop:=lP body xs tp K items ρ σ
def El(E:bJ→an→KE→Prop)(ρ:bJ)(σ:an)(K:av→an→Prop):Prop:=E ρ σ (oQ K)
def Ih(R:bJ→an→KS→Prop)(K:KS)(fl:yG)(ρ:bJ)(σ:an):Prop:=flw fl (R ρ σ K) (K .iz ρ σ) fun v=>K (.a9 v) ρ σ
mutual
def vS(X:g9):Hx→bJ→an→KS→Prop
 |.cj e,ρ,σ,K=>vE X e ρ σ (agh K ρ)
 |.aW x e,ρ,σ,K=>vE X e ρ σ (acD K ρ x)
 |.dS xs es,ρ,σ,K=>Ob X es ρ σ (agi K ρ xs)
 |.j6 xs e,ρ,σ,K=>vE X e ρ σ (aix K ρ xs)
 |.kq o i e,ρ,σ,K=>vE X e ρ σ (W7 (vE X o ρ) (vE X i ρ) (K .aS ρ))
 |.sn o i o' i' a b,ρ,σ,K=>vE X a ρ σ (aiy (vE X b ρ) (vE X o ρ) (vE X i ρ) (vE X o' ρ) (vE X i' ρ) (K .aS ρ))
 |.a9 e,ρ,σ,K=>vE X e ρ σ (aiz K ρ)
 |.bg c a b,ρ,σ,K=>vE X c ρ σ (aiA (fI X a ρ) (fI X b ρ) K)
 |.tY n c b,ρ,σ,K=>t6 (El (vE X c)) (fI X b) K n ρ σ
 |.fY xs tp it b,ρ,σ,K=>vIt X tp it ρ σ (agm (fI X b) xs tp K ρ)
 |.iz,ρ,σ,K=>K .iz ρ σ
 |.AB b,ρ,σ,K=>fI X b ρ σ K
 |.xb,_,_,_=>dj
def fI(X:g9):bK→bJ→an→KS→Prop
 |.ab,ρ,σ,K=>K .aS ρ σ
 |.O s r,ρ,σ,K=>vS X s ρ σ (Ih (fI X r) K)
end
def agn(G:bJ→an→(ao aC→an→Prop)→Prop)(ρ:bJ)(K:ao aC→an→Prop)(v:aC)(σ:an):Prop:=G ρ σ (afe K v)
def Mr(X:g9):ao (aI×a8)→bJ→an→(ao aC→an→Prop)→Prop
 |[],_,σ,K=>K [] σ
 |p::r,ρ,σ,K=>vE X p.2 ρ σ (agn (Mr X r) ρ K)
noncomputable def o7(F:cH)(args:ao aC):aM (ao aC):=
 if args.length=F.aQ then ac args else if args.length+F.bR.length=F.aQ then ac (args++F.bR.map .f) else au
def oA(keep:av)(n:af)(Q:KE)(fl:yG)(ρ:bJ)(σ:an):Prop:=flw fl (Q (.f .aA) (σ.take n)) dj fun v=>tI keep (Q v σ) (asK v fun x=>Q (.f x) (σ.take n))
def E5(X:g9)(F:cH)(b:bK)(args:ao aC)(σ:an)(Q:KE):Prop:=W5 args (F.aY.length-F.aQ) fun ρ=>fI X b ρ σ (oA F.bF σ.length Q)
def acE(fz:av)(c n:af)(Q:KE)(vs:ao aC)(σ:an):Prop:=tI fz (zo vs fun vs=>Q (.f (.ic c vs)) (σ.take n)) (Q (.fN σ.length) (σ++[ac (.lM c vs)]))
def aff(X:g9)(C:nP)(c:af)(fs:ao (aI×a8))(args:ao aC)(σ:an)(Q:KE):Prop:=W5 args 0 fun ρ=>Mr X fs (au::ρ) σ (acE C.dZ c σ.length Q)
def vC(T:vk):af→bw
 | 0,_,_,_,_=>dj
 |d+1,k,args,σ,Q=>tI (lx k 1000)
  (oi (T.tZ[k]?) fun F=>match F.bA with
   |.bf b=>oi (o7 F args) fun as=>E5 ⟨T,vC T d⟩ F b as σ Q
   |.xL _ _=>dj)
  (oi (T.e6[k-1000]?) fun C=>oi (T.tZ[C.gW]?) fun F=>match F.bA with
   |.xL c fs=>tI (dc (c=k-1000∧args.length=F.aQ∧fs.map (·.1)=C.cu)) (aff ⟨T,vC T d⟩ C c fs args σ Q) dj
   |.bf _=>dj)
inductive Op where
 |dh|jR|mL|zq|zr|mD|iI|mM|zt|zu|zv|iU|eY|eB|bp|g6|cA|dY|qv|wK|lQ|gY (u:jE)
noncomputable def Op.bH:Op→aI
 |.dh=>"push" |.jR=>"self" |.mL=>"getl" |.zq=>"geti" |.zr=>"getg" |.mD=>"dup" |.iI=>"blockgiven" |.mM=>"setl" |.zt=>"seti" |.zu=>"setg" |.zv=>"setc"
 |.iU=>"jumpif" |.eY=>"jumpunless" |.eB=>"jumpnil" |.bp=>"jump" |.g6=>"pop" |.cA=>"swap" |.dY=>"leave" |.qv=>"text" |.wK=>"undef" |.lQ=>"lambda" |.gY _=>"fail"
def Op.tb{α:Type}(f0 f1 f2 f3 f4 f5 f6 f7 f8 f9 f10 f11 f12 f13 f14 f15 f16 f17 f18 f19 f20 f21:α)(op:Op):α:=@Op.rec (fun q9=>α) f0 f1 f2 f3 f4 f5 f6 f7 f8 f9 f10 f11 f12 f13 f14 f15 f16 f17 f18 f19 f20 (fun q9=>f21) op
def Op.ctorIdx:Op→af:=Op.tb 0 1 2 3 4 5 6 7 8 9 10 11 12 13 14 15 16 17 18 19 20 21
noncomputable def fx:ao Op:=[.dh,.jR,.mL,.zq,.zr,.mD,.iI,.mM,.zt,.zu,.zv,.iU,.eY,.eB,.bp,.g6,.cA,.dY,.qv,.wK,.lQ,.gY ()]
def Op.eu(n:af):Op:=fx[n]?.getD (.gY ())
def Op.abE(a:Op):Op.eu a.ctorIdx=a:=by induction a<;>rfl
noncomputable instance:LC Op:=fun a b=>decidable_of_iff (a.ctorIdx=b.ctorIdx) ⟨fun h=>(Op.abE a).symm.trans ((a7 Op.eu h).trans (Op.abE b)),a7 Op.ctorIdx⟩
def Op.aO:Op→av:=Op.tb aF aF aF aF aF aF aF aF aF aF aF ak ak ak ak aF aF aF aF aF aF aF
def Op.aV:Op→av:=Op.tb aF aF aF aF aF aF aF aF aF aF aF ak ak aF aF aF aF aF aF aF aF aF
def Op.c3:Op→av:=Op.tb aF aF aF aF aF aF aF aF aF aF aF aF aF aF ak aF aF ak aF aF aF ak
def Op.kh:Op→av:=Op.tb ak ak ak ak ak ak ak aF aF aF aF aF aF aF aF aF aF aF aF aF aF aF
def Op.fU:Op→av:=Op.tb aF aF aF aF aF aF aF ak ak ak ak aF aF aF aF aF aF aF aF aF aF aF
def Op.bO:Op→af:=Op.tb 0 0 0 0 0 1 0 1 1 1 1 1 1 1 0 1 2 1 0 0 0 0
def Op.fW:Op→af:=Op.tb 1 1 1 1 1 2 1 0 0 0 0 0 0 1 0 0 2 0 1 1 1 0
structure R where
 ay:Op
 t:af
 a:am
 b:am
 c:am
 eZ:aN
structure Ct where
 nA:am
 dm:af
 gx:af
 bC:af
 cQ:af
noncomputable def Ct.bU(k:Ct)(p:af):av:=dc (k.dm≤p)&&dc (p<k.gx)
noncomputable def iB:am→av
 |.aA|.aG _=>ak
 |.ae i=>i==0||i==5
 |.ah x=>(["s","self","text","undef","lambda","way"] :ao aI).contains x
 |_=>aF
def wL(v:am):av:=v.mK.any fun i=>i==0||i==1
noncomputable def c8:am→av
 |.aA=>ak
 |_=>aF
def oj(x:aI)(v:am):av:=v.xM.any fun y=>y==x
def v1(i:aN)(v:am):av:=v.mK.any fun j=>j==i
def R.bm(aE:av)(r:R):av:=
 have n:=c8 r.a&&c8 r.b&&c8 r.c
 have l:=v1 0 r.a&&wL r.b&&c8 r.c
 have i:=oj "@x" r.a&&c8 r.b&&c8 r.c
 have g:=oj "$x" r.a&&c8 r.b&&c8 r.c
 r.ay.tb (iB r.a&&c8 r.b&&c8 r.c) n l i g n n l i g (oj "C" r.a&&c8 r.b&&c8 r.c) n n n n n n n
  ((oj "t" r.a||oj "u" r.a)&&c8 r.b&&c8 r.c) (oj "u" r.a&&c8 r.b&&c8 r.c) (aE&&v1 0 r.a&&c8 r.b&&c8 r.c) (oj "E" r.a&&oj "t" r.b&&c8 r.c)
abbrev Kd:=ao (cF aN aI×am)
structure dN where
 pc:af
 cn:ao am
 fZ:Kd
 dO:ao am
noncomputable def cS:am→av
 |.aA=>aF
 |.aG b=>b
 |_=>ak
def rT(r:R):am:=r.ay.tb r.a r.a r.b r.a r.a r.a r.a r.b r.a r.a r.a r.a r.a r.a r.a r.a r.a r.a r.a r.a r.a r.a
inductive qw where
 |aS (cn:ao am) (kd:Kd) (d:aM am)|bp (cn:ao am) (b:av)|hZ (d:am)|gY
def uh(cn:ao am)(f:am→ao am→aM qw):aM qw:=@List.rec am (fun q9=>aM qw) au (fun v st q9=>f v st) cn
noncomputable def acF(cn:ao am)(kd:Kd)(x:aI):aM qw:=ac (.aS (.ah x::cn) kd (ac (.ah x)))
def Dx(r:R)(cn:ao am)(kd:Kd):aM qw:=(lA (rT r)).bind fun k=>(fD k kd).map fun v=>.aS (v::cn) kd au
def AP(r:R)(cn:ao am)(kd:Kd):aM qw:=uh cn fun v st=>(lA (rT r)).bind fun k=>(iA v).map fun q=>.aS st (hY kd k v) (ac (.bE [.ah r.ay.bH,rT r,.ah q]))
def E6(bB:av)(r:R)(cn:ao am)(kd:Kd):aM qw:=r.ay.tb
 (ac (.aS (r.a::cn) kd au)) (ac (.aS (.ah "self"::cn) kd au)) (Dx r cn kd) (Dx r cn kd) (Dx r cn kd)
 (uh cn fun v st=>ac (.aS (v::v::st) kd au)) (ac (.aS (.aG bB::cn) kd au)) (AP r cn kd) (AP r cn kd) (AP r cn kd) (AP r cn kd)
 (uh cn fun v st=>ac (.bp st (cS v))) (uh cn fun v st=>ac (.bp st (!cS v))) (uh cn fun v st=>ac (.bp (v::st) (c8 v))) (ac (.bp cn ak))
 (uh cn fun q9 st=>ac (.aS st kd au)) (uh cn fun v st=>uh st fun u st=>ac (.aS (u::v::st) kd au)) (uh cn fun v q9=>(iA v).map fun q=>.hZ (.bE [.ah "leave",.ah q]))
 (acF cn kd "text") (acF cn kd "undef") (acF cn kd "lambda") (ac .gY)
noncomputable def Ms(ds:ao am)(o:aM am):ao am:=o.elim ds fun d=>ds++[d]
noncomputable def Em(ds:ao am)(cn:ao am)(kd:Kd)(o:aM Ct):cF (ao am) dN:=o.elim (.inl (ds++[.ah "fail"])) fun c=>.inr ⟨c.bC,.ah "way"::cn.drop (cn.length-c.cQ),kd,ds++[.ah "fail"]⟩
def fJ(cs:ao Ct)(p t:af)(cn:ao am)(kd:Kd)(ds:ao am):qw→cF (ao am) dN
 |.aS st E7 d=>.inr ⟨p+1,st,E7,Ms ds d⟩
 |.bp st b=>.inr ⟨cE b t (p+1),st,kd,ds⟩
 |.hZ d=>.inl (ds++[d])
 |.gY=>Em ds cn kd (cs.find? (·.bU p))
def eM(cs:ao Ct)(bB:av)(p:af)(r:R)(s:dN):aM (cF (ao am) dN):=(E6 bB r s.cn s.fZ).map (fJ cs p r.t s.cn s.fZ s.dO)
structure Nc where
 aa:ao (aM R)
 gy:ao Ct
 aZ:ao af
noncomputable def SF:ao (aM R)→af→aM (af×R)
 |[],_=>au
 |o::l,i=>o.elim (SF l (i+1)) fun r=>ac (i,r)
def Mt(aa:ao (aM R))(p:af):aM (af×R):=SF (aa.drop p) p
inductive NP(aa:ao (aM R)):af→af→Prop
 |bc (a:af):NP aa a a
 |dE {a b:af} (h:aa[a]? =ac au) (k:NP aa (a+1) b):NP aa a b
def NP.qb{aa:ao (aM R)}{a:af}(h:aa[a]? =ac au):NP aa a (a+1):=.dE h (.bc _)
def Oc{α:Type}{l:ao α}{p:af}{x:α}(h:l[p]? =ac x):l.drop p=x::l.drop (p+1):=by
 obtain ⟨hp,rfl⟩:=fM.mp h
 exact Z2 hp
def IC{α:Type}{l r:ao α}{p:af}{x:α}(h:l.drop p=x::r):l[p]? =ac x∧l.drop (p+1)=r:=by
 have e:(l.drop p)[0]? =ac x:=by refine aq h ?_;rfl
 rw [RJ] at e
 exact ⟨e,by (refine iu aau ?_;refine aq h ?_);rfl⟩
def Pd{aa:ao (aM R)}{p:af}{r:R}(h:aa[p]? =ac (ac r)):Mt aa p=ac (p,r):=by
 unfold Mt
 refine aq (Oc h) ?_;rfl
def Xz{aa:ao (aM R)}{a b:af}(h:NP aa a b):Mt aa a=Mt aa b:=by
 induction h with
 |bc=>rfl
 |dE e _ ih=>
  refine iu ih ?_
  unfold Mt
  refine aq (Oc e) ?_;rfl
def ID{aa:ao (aM R)}{q:af×R}:∀{l:ao (aM R)}{p:af},aa.drop p=l→SF l p=ac q→NP aa p q.1∧aa[q.1]? =ac (ac q.2)
 |some r::l,p,hl,h=>cp h▸⟨.bc _,(IC hl).1⟩
 |none::l,p,hl,h=>
  have e:=IC hl
  have i:=ID e.2 h
  ⟨.dE e.1 i.1,i.2⟩
def nC(X:Nc)(bB:av):af→dN→aM (ao am×av)
 | 0,s=>ac (s.dO,aF)
 |n+1,s=>(Mt X.aa s.pc).bind fun q=>(eM X.gy bB q.1 q.2 s).bind fun o=>match o with
  |.inl d=>ac (d,ak)
  |.inr s'=>nC X bB n s'
def Lq(x y:ao am×av):Prop:=x.1 <+: y.1∧(x.2=ak→y.1=x.1∧y.2=ak)
def Lq.bc(x:ao am×av):Lq x x:=⟨lK _,fun h=>⟨ag,h⟩⟩
def Lq.aX{x y z:ao am×av}(h:Lq x y)(h':Lq y z):Lq x z:=⟨h.1.trans h'.1,fun e=>⟨(h'.2 (h.2 e).2).1.trans (h.2 e).1,(h'.2 (h.2 e).2).2⟩⟩
def nR{α γ:Type}{o:aM α}{f:α→aM γ}{y:γ}{P:Prop}(h:o.bind f=ac y)(k:∀x,o=ac x→f x=ac y→P):P:=by
 induction o with
 |none=>exact bn h
 |some x=>exact k x ag h
def ga{α γ:Type}{o:aM α}{f:α→γ}{y:γ}{P:γ→Prop}(h:o.map f=ac y)(k:∀x,o=ac x→P (f x)):P y:=by
 induction o with
 |none=>exact bn h
 |some x=>exact cp h▸k x ag
def uR{X:Nc}{bB:av}{n a b:af}{cn ds:ao am}{kd:Kd}(h:NP X.aa a b):nC X bB n ⟨a,cn,kd,ds⟩=nC X bB n ⟨b,cn,kd,ds⟩:=by
 induction n with
 |zero=>rfl
 |succ n=>exact a7 (fun o=>lj o _) (Xz h)
def vr{X:Nc}{bB:av}{n:af}{s:dN}{r:R}(h:X.aa[s.pc]? =ac (ac r)):nC X bB (n+1) s=(eM X.gy bB s.pc r s).bind fun o=>match o with
 |.inl d=>ac (d,ak)
 |.inr s'=>nC X bB n s':=a7 (fun o=>lj o _) (Pd h)
def BZ{X:Nc}{bB:av}{n a:af}{cn ds:ao am}{kd:Kd}{x:ao am×av}{P:Prop}(h:nC X bB (n+1) ⟨a,cn,kd,ds⟩=ac x)
  (k:∀q r o,NP X.aa a q→X.aa[q]? =ac (ac r)→eM X.gy bB q r ⟨q,cn,kd,ds⟩=ac o→(∀d,o=.inl d→x=(d,ak))→(∀s',o=.inr s'→nC X bB n s'=ac x)→P):P:=
 nR h fun q hq h=>nR h fun o ho h=>by
  obtain ⟨h1,h2⟩:=ID ag hq
  refine k q.1 q.2 o h1 h2 ho (fun d e=>?_) fun s' e=>?_
  ·rw [e] at h;exact (cp h).symm
  ·rw [e] at h;exact h
def qV{ds cn:ao am}{kd:Kd}{o:aM Ct}{P:cF (ao am) dN→Prop}(h1:o=au→P (.inl (ds++[.ah "fail"])))(h2:∀c,o=ac c→P (.inr ⟨c.bC,.ah "way"::cn.drop (cn.length-c.cQ),kd,ds++[.ah "fail"]⟩)):P (Em ds cn kd o):=by
 induction o with
 |none=>exact h1 ag
 |some c=>exact h2 c ag
def Uy(ds:ao am):∀o,ds <+: Ms ds o
 |none=>lK _
 |some d=>As _ _
noncomputable def Gv:cF (ao am) dN→ao am
 |.inl d=>d
 |.inr s=>s.dO
def JY{cs:ao Ct}{bB:av}{p:af}{r:R}{s:dN}{o:cF (ao am) dN}(h:eM cs bB p r s=ac o):s.dO <+: Gv o:=
 ga (P:=fun o=>s.dO <+: Gv o) h fun x q9=>by
  induction x with
  |aS cn kd d=>exact Uy _ d
  |bp cn b=>exact lK _
  |hZ d=>exact As _ _
  |gY=>exact qV (P:=fun o=>s.dO <+: Gv o) (fun q9=>As _ _) fun q9 q9=>As _ _
def Nd{X:Nc}{bB:av}:∀{n:af}{s:dN}{x:ao am×av},nC X bB n s=ac x→s.dO <+: x.1:=by
 intro n
 induction n with
 |zero=>
  intro s x h
  exact cp h▸lK _
 |succ n ih=>
  intro s x h
  exact BZ h fun q r o q9 q9 ho h1 h2=>(JY ho).trans (by
  induction o with
  |inl d=>refine aq (h1 d ag) ?_;exact lK _
  |inr s'=>exact ih (h2 s' ag))
def c5{α:Type}{P:α→Prop}{x y:α}(h:ac x=ac y)(p:P x):P y:=cp h▸p
def fb{cn:ao am}{f:am→ao am→aM qw}{y:qw}{P:Prop}(h:uh cn f=ac y)(k:∀v st,cn=v::st→f v st=ac y→P):P:=by
 induction cn with
 |nil=>exact bn h
 |cons v st=>exact k v st ag h
def Pe(op:Op)(cn:ao am)(kd:Kd):qw→Prop
 |.aS st E7 d=>op.c3=aF∧st.length+op.bO=cn.length+op.fW
 |.bp st b=>op.aO=ak∧(b=aF→op.c3=aF)
 |.hZ d=>kD
 |.gY=>op=.gY ()
def SG{r:R}{cn:ao am}{kd:Kd}{out:qw}{P:qw→Prop}(h:Dx r cn kd=ac out)(k:∀x v,lA (rT r)=ac x→fD x kd=ac v→P (.aS (v::cn) kd au)):P out:=
 nR h fun x hx h=>ga h fun v hv=>k x v hx hv
def SH{r:R}{cn:ao am}{kd:Kd}{out:qw}{P:qw→Prop}(h:AP r cn kd=ac out)(k:∀v st x q,cn=v::st→lA (rT r)=ac x→iA v=ac q→P (.aS st (hY kd x v) (ac (.bE [.ah r.ay.bH,rT r,.ah q])))):P out:=
 fb h fun v st e h=>nR h fun x hx h=>ga h fun q hq=>k v st x q e hx hq
def Uz{r:R}{cn:ao am}{kd:Kd}{out:qw}(h1:r.ay.c3=aF)(h2:r.ay.bO=0)(h3:r.ay.fW=1)(h:Dx r cn kd=ac out):Pe r.ay cn kd out:=SG h fun x v q9 q9=>⟨h1,by (refine aq h2 ?_;refine aq h3 ?_);rfl⟩
def UA{r:R}{cn:ao am}{kd:Kd}{out:qw}(h1:r.ay.c3=aF)(h2:r.ay.bO=1)(h3:r.ay.fW=0)(h:AP r cn kd=ac out):Pe r.ay cn kd out:=SH h fun v st x q e q9 q9=>⟨h1,by (refine aq h2 ?_;refine aq h3 ?_;refine aq e ?_);rfl⟩
def UB{op:Op}{cn:ao am}{kd E7:Kd}{d:aM am}{out:qw}{f:am→ao am→ao am}(h1:op.c3=aF)(h2:∀v st,(f v st).length+op.bO=(v::st).length+op.fW)(h:(uh cn fun v st=>ac (.aS (f v st) E7 d))=ac out):Pe op cn kd out:=fb h fun v st e h=>c5 h ⟨h1,e▸h2 v st⟩
def IE{op:Op}{cn:ao am}{kd:Kd}{out:qw}{f:am→ao am→ao am}{b:am→av}(h1:op.c3=aF)(h2:op.aO=ak)(h:(uh cn fun v st=>ac (.bp (f v st) (b v)))=ac out):Pe op cn kd out:=fb h fun v st e h=>c5 h ⟨h2,fun q9=>h1⟩
def B4{bB:av}{r:R}{cn:ao am}{kd:Kd}{out:qw}:E6 bB r cn kd=ac out→Pe r.ay cn kd out:=by
 refine aw fun kz=>?_
 obtain ⟨op,t,a,b,c,l⟩:=r
 refine kz ?_;try clear kz
 induction op
 case mL|zq|zr=>exact Uz ag ag ag
 case mM|zt|zu|zv=>exact UA ag ag ag
 case mD|g6=>exact UB ag fun q9 q9=>ag
 case cA=>exact fun h=>fb h fun v st e h=>fb h fun u Tk e' h=>c5 h ⟨ag,by (refine aq e ?_;refine aq e' ?_);rfl⟩
 case iU|eY=>exact IE (f:=fun q9 st=>st) ag ag
 case eB=>exact IE (f:=fun v st=>v::st) ag ag
 case bp=>exact fun h=>c5 h ⟨ag,fun z=>cG z⟩
 case dY=>exact fun h=>fb h fun v st e h=>ga h fun q q9=>di
 case gY=>exact fun h=>c5 h ag
 all_goals exact fun h=>c5 h ⟨ag,ag⟩
inductive bb(X:Nc):af→Prop
 |cR {p:af} (h:p∈X.aZ):bb X p
 |nS {p:af} (h:bb X p) (e:X.aa[p]? =ac au):bb X (p+1)
 |d7 {p:af} {r:R} (h:bb X p) (e:X.aa[p]? =ac (ac r)) (k:r.ay.c3=aF):bb X (p+1)
 |bp {p:af} {r:R} (h:bb X p) (e:X.aa[p]? =ac (ac r)) (k:r.ay.aO=ak):bb X r.t
 |cM {p:af} {r:R} {c:Ct} (h:bb X p) (e:X.aa[p]? =ac (ac r)) (hc:c∈X.gy) (k:c.bU p=ak):bb X c.bC
structure Dy(X:Nc)(h:af→af)(p:af)(r:R):Prop where
 bO:r.ay.bO≤h p
 d7:r.ay.c3=aF→h (p+1)+r.ay.bO=h p+r.ay.fW
 bp:r.ay.aO=ak→h r.t+r.ay.bO=h p+r.ay.fW
 cM:∀c∈X.gy,c.bU p=ak→h c.bC=c.cQ+1
 gY:r.ay=.gY ()→∀c∈X.gy,c.bU p=ak→c.cQ≤h p
structure dG(X:Nc)(h:af→af):Prop where
 cR:∀p∈X.aZ,h p=0
 mW:∀p,bb X p→p<X.aa.length
 nS:∀p,bb X p→X.aa[p]? =ac au→h (p+1)=h p
 cq:∀p r,bb X p→X.aa[p]? =ac (ac r)→Dy X h p r
def fq(X:Nc)(aE:av):Prop:=∀(p:af)(r:R),X.aa[p]? =ac (ac r)→r.bm aE=ak
noncomputable def SJ:ao (cF aN aI):=[.inl 0,.inl 1,.inr "@x",.inr "$x"]
def IF(k:Kd):Prop:=∀(key:cF aN aI),key∈SJ→∃v,fD key k=ac v∧iB v=ak
def yI(es:Kd)(k x:cF aN aI)(v:am):fD x (hY es k v)=if x=k then ac v else fD x es:=by
 unfold fD hY
 by_cases a:es.any (fun kv=>dc (kv.1=k))=ak
 ·rw [bD a,List.find?_map,show ((fun kv:cF aN aI×am=>dc (kv.1=x)) ∘ fun kv=>if kv.1=k then (kv.1,v) else kv)=fun kv=>dc (kv.1=x) from rj fun kv=>by
   show dc ((if kv.1=k then (kv.1,v) else kv).1=x)=_
   split<;>rfl]
  cases e:es.find? fun kv=>dc (kv.1=x) with
  |none=>
   refine aw fun kz=>?_
   obtain ⟨q,hq,z⟩:=yl.mp a
   refine kz ?_;try clear kz
   by_cases d:x=k
   ·exact bW (d▸z) (aaj.mp e q hq)
   ·refine aq (cL d) ?_;rfl
  |some q=>
   obtain rfl:q.1=x:=eX (RP (p:=fun kv:cF aN aI×am=>dc (kv.1=x)) e)
   show ac (if q.1=k then (q.1,v) else q).2=_
   split<;>rfl
 ·(refine aq (cL a) ?_;rw [List.find?_append])
  by_cases d:x=k
  ·subst d
   (rewrite [aaj.mpr fun q hq z=>a (yl.mpr ⟨q,hq,z⟩)];refine aq (bD ag) ?_;rewrite [ym];refine aq (jx (ag:(x,v).1=x)) ?_)
   rfl
  ·(refine aq (cL d) ?_;rewrite [ym];refine aq (wu (show¬(k,v).1=x from fun z=>d z.symm)) ?_)
   show ((es.find? _).or au).map _=_
   (refine aq Option.or_none ?_;rfl)
def IF.fW{k:Kd}(h:IF k)(x:cF aN aI){v:am}(hv:iB v=ak):IF (hY k x v):=fun key hk=>by
 rw [yI]
 split
 ·exact ⟨v,ag,hv⟩
 ·exact h key hk
def sp{a b:av}{P:Prop}(h:(a||b)=ak)(k1:a=ak→P)(k2:b=ak→P):P:=(qS.mp h).elim k1 k2
def d8{a b:av}{P:Prop}(h:(a&&b)=ak)(k:a=ak→b=ak→P):P:=k (jY.mp h).1 (jY.mp h).2
def Mu{α:Type}{o:aM α}{f:α→av}{P:Prop}(h:o.any f=ak)(k:∀x,o=ac x→f x=ak→P):P:=by
 induction o with
 |none=>exact cG h
 |some x=>exact k x ag h
def Tl{v:am}{i:aN}{P:am→Prop}(h:v.mK=ac i)(k:P (.ae i)):P v:=by
 cases v<;>first|exact cp h▸k|exact bn h
def adq{v:am}{i:aI}{P:am→Prop}(h:v.xM=ac i)(k:P (.ah i)):P v:=by
 cases v<;>first|exact cp h▸k|exact bn h
def lR{x:aI}{v:am}(h:oj x v=ak):v=.ah x:=Mu h fun y e h=>adq (P:=fun v=>v=.ah x) e (a7 _ (cz h))
def pJ{x:aN}{v:am}(h:v1 x v=ak):v=.ae x:=Mu h fun y e h=>Tl (P:=fun v=>v=.ae x) e (a7 _ (cz h))
def xN{v:am}(h:wL v=ak):v=.ae 0∨v=.ae 1:=Mu h fun y e h=>Tl (P:=fun v=>v=.ae 0∨v=.ae 1) e (sp h (fun z=>.inl (a7 _ (cz z))) fun z=>.inr (a7 _ (cz z)))
def jz{v:am}(h:c8 v=ak):v=.aA:=by
 cases v<;>first|rfl|exact cG h
def adr{P:am→Prop}(h0:P .aA)(h1:∀b,P (.aG b))(h2:∀i,(i==0||i==5)=ak→P (.ae i))(h3:∀x,x∈(["s","self","text","undef","lambda","way"] :ao aI)→P (.ah x)){v:am}(h:iB v=ak):P v:=by
 cases v<;>first|exact h0|exact h1 _|exact h2 _ h|exact h3 _ (vi.mp h)|exact cG h
def zw{v:am}(h:iB v=ak):∃q,iA v=ac q:=
 adr (P:=fun v=>∃q,iA v=ac q) ⟨_,ag⟩ (fun b=>by induction b<;>exact ⟨_,ag⟩) (fun i h=>sp h (fun z=>by refine aq (cz z) ?_;exact ⟨_,ag⟩) fun z=>by refine aq (cz z) ?_;exact ⟨_,ag⟩)
  (fun x hx=>⟨_,bD (eX (ow.mp (show (["s","self","text","undef","lambda","way"] :ao aI).all (fun x=>dc ((L8 x).length≤100000))=ak by decide+kernel) x hx))⟩) h
def mX(l:ao am):Prop:=∀v∈l,iB v=ak
def mX.O{v:am}{l:ao am}(h:iB v=ak)(k:mX l):mX (v::l):=oZ.mpr ⟨h,k⟩
def mX.head{v:am}{l:ao am}(h:mX (v::l)):iB v=ak:=h v (fF ..)
def mX.Bx{v:am}{l:ao am}(h:mX (v::l)):mX l:=fun u hu=>h u (jf _ hu)
structure Ii(X:Nc)(h:af→af)(s:dN):Prop where
 pK:bb X s.pc
 bh:s.cn.length=h s.pc
 gZ:∀v∈s.cn,iB v=ak
 fZ:IF s.fZ
def En(cn:ao am)(op:Op):qw→Prop
 |.aS st kd d=>mX st∧IF kd
 |.bp st b=>mX st∧st.length+op.bO=cn.length+op.fW
 |_=>kD
def aiB(bB:av)(r:R)(cn:ao am)(kd:Kd):Prop:=∃out,E6 bB r cn kd=ac out∧En cn r.ay out
section
variable{bB aE:av}{r:R}{cn:ao am}{kd:Kd}
def B5(hs:mX cn)(hk:IF kd){k:cF aN aI}(h1:lA (rT r)=ac k)(h2:k∈SJ):∃out,Dx r cn kd=ac out∧En cn r.ay out:=by
 obtain ⟨v,hv,gv⟩:=hk k h2
 exact ⟨.aS (v::cn) kd au,by unfold Dx;refine aq h1 ?_;exact a7 (qG _) hv,hs.O gv,hk⟩
def xO(hs:mX cn)(hk:IF kd){k:cF aN aI}(h1:lA (rT r)=ac k)(h2:1≤cn.length):∃out,AP r cn kd=ac out∧En cn r.ay out:=by
 induction cn with
 |nil=>cases h2
 |cons v st=>
  obtain ⟨q,hq⟩:=zw hs.head
  exact ⟨.aS st (hY kd k v) (ac (.bE [.ah r.ay.bH,rT r,.ah q])),by
   show ((lA (rT r)).bind fun k=>(iA v).map fun q=>qw.aS st (hY kd k v) (ac (.bE [.ah r.ay.bH,rT r,.ah q])))=_
   (refine aq h1 ?_;refine aq hq ?_);rfl,hs.Bx,hk.fW k hs.head⟩
def ur{f:am→ao am→aM qw}{op:Op}(hs:mX cn)(h2:1≤cn.length)(k:∀v st,iB v=ak→mX st→∃out,f v st=ac out∧En (v::st) op out):∃out,uh cn f=ac out∧En cn op out:=by
 induction cn with
 |nil=>cases h2
 |cons v st=>exact k v st hs.head hs.Bx
def yJ{a b:av}(h:(a&&b)=ak):a=ak:=(jY.mp h).1
def IG{v:am}(h:wL v=ak):∃k,lA v=ac k∧k∈SJ:=by
 rcases xN h with e|e
 ·exact ⟨.inl 0,by refine aq e ?_;rfl,fF ..⟩
 ·exact ⟨.inl 1,by refine aq e ?_;rfl,jf _ (fF ..)⟩
def B6{v:am}{d:aM am}{op:Op}(hs:mX cn)(hk:IF kd)(hv:iB v=ak):∃out,ac (qw.aS (v::cn) kd d)=ac out∧En cn op out:=⟨_,ag,hs.O hv,hk⟩
def xj{x:aI}{a:am}{b c:av}(h:(oj x a&&b&&c)=ak):lA a=ac (.inr x):=by refine aq (lR (yJ (yJ h))) ?_;rfl
def UC(ok:r.bm aE=ak)(hs:mX cn)(hk:IF kd)(tk:r.ay.bO≤cn.length):aiB bB r cn kd:=by
 refine aw fun kz=>?_
 obtain ⟨op,t,a,b,c,l⟩:=r
 refine kz ?_;try clear kz
 induction op
 case dh=>exact B6 hs hk (yJ (yJ ok))
 case jR|qv|wK|lQ=>exact B6 hs hk (by decide+kernel)
 case iI=>exact B6 hs hk ag
 case mL=>obtain ⟨k,h1,h2⟩:=IG (v:=b) (jY.mp (yJ ok)).2;exact B5 (r:=⟨.mL,t,a,b,c,l⟩) hs hk h1 h2
 case zq=>exact B5 (r:=⟨.zq,t,a,b,c,l⟩) hs hk (xj ok) (gM (i:=2) ag)
 case zr=>exact B5 (r:=⟨.zr,t,a,b,c,l⟩) hs hk (xj ok) (gM (i:=3) ag)
 case mM=>obtain ⟨k,h1,_⟩:=IG (v:=b) (jY.mp (yJ ok)).2;exact xO (r:=⟨.mM,t,a,b,c,l⟩) hs hk h1 tk
 case zt=>exact xO (r:=⟨.zt,t,a,b,c,l⟩) hs hk (xj ok) tk
 case zu=>exact xO (r:=⟨.zu,t,a,b,c,l⟩) hs hk (xj ok) tk
 case zv=>exact xO (r:=⟨.zv,t,a,b,c,l⟩) hs hk (xj ok) tk
 case g6=>exact ur hs tk fun v st q9 g=>⟨_,ag,g,hk⟩
 case mD=>exact ur hs tk fun v st h g=>⟨_,ag,(g.O h).O h,hk⟩
 case cA=>
  induction cn with
  |nil=>cases tk
  |cons v st=>
   induction st with
   |nil=>cases wo tk
   |cons u st=>exact ⟨_,ag,(hs.Bx.Bx.O hs.head).O hs.Bx.head,hk⟩
 case dY=>exact ur hs tk fun v st h q9=>by obtain ⟨q,hq⟩:=zw h;exact ⟨.hZ _,by refine aq hq ?_;rfl,di⟩
 case bp=>exact ⟨_,ag,hs,ag⟩
 case eB=>exact ur hs tk fun v st h g=>⟨_,ag,g.O h,ag⟩
 case iU|eY=>exact ur hs tk fun v st h g=>⟨_,ag,g,ag⟩
 case gY=>exact ⟨_,ag,di⟩
end
section
variable{X:Nc}{aE bB:av}{h:af→af}
def E8(Ty:dG X h)(ok:fq X aE){s:dN}{r:R}(S:Ii X h s)(hr:X.aa[s.pc]? =ac (ac r)):
  ∃o,eM X.gy bB s.pc r s=ac o∧∀s',o=.inr s'→Ii X h s':=by
 have T:=Ty.cq _ _ S.pK hr
 refine aw fun kz=>?_
 obtain ⟨p,sk,kd,de⟩:=s
 obtain ⟨s1,s2,s3,s4⟩:=S
 obtain ⟨out,ho,hg⟩:=UC (bB:=bB) (ok _ _ hr) s3 s4 (s2.symm▸T.bO)
 refine kz ?_;try clear kz
 have hk:=B4 ho
 refine ⟨_,a7 (qG _) ho,fun s' e=>?_⟩
 induction out with
 |aS st E7 d=>exact yB e▸⟨.d7 s1 hr hk.1,An (hk.2.trans (s2▸(T.d7 hk.1).symm)),hg.1,hg.2⟩
 |bp st b=>
  induction b with
  |true=>exact yB e▸⟨.bp s1 hr hk.1,An (hg.2.trans (s2▸(T.bp hk.1).symm)),hg.1,s4⟩
  |false=>exact yB e▸⟨.d7 s1 hr (hk.2 ag),An (hg.2.trans (s2▸(T.d7 (hk.2 ag)).symm)),hg.1,s4⟩
 |hZ d=>cases e
 |gY=>
  revert e
  refine qV (P:=fun o=>o=.inr s'→Ii X h s') (fun q9 e=>nomatch e) fun c hf e=>yB e▸ ?_
  have hm:=Z3 hf
  have hc:c.bU p=ak:=RP (p:=fun c:Ct=>c.bU p) hf
  refine ⟨.cM s1 hr hm hc,?_,mX.O (by decide+kernel) fun u hu=>s3 u (aag hu),s4⟩
  show (sk.drop _).length+1=h c.bC
  (refine aq DX ?_;refine aq (T.cM c hm hc) ?_;refine aq (ZS (s2▸T.gY hk c hm hc)) ?_;rfl)
def CL(Ty:dG X h):∀(d:af){p:af},X.aa.length≤p+d→bb X p→∃q r,NP X.aa p q∧X.aa[q]? =ac (ac r)∧bb X q∧h q=h p:=by
 intro d
 induction d with
 |zero=>
  intro p hl z
  exact bW (Ty.mW p z) (lw.mpr hl)
 |succ d ih=>
  intro p hl z
  cases e:X.aa[p]? with
  |none=>exact bW (Ty.mW p z) (lw.mpr (Z4.mp e))
  |some o=>
   induction o with
   |some r=>exact ⟨p,r,.bc _,e,z,ag⟩
   |none=>
    refine aw fun kz=>?_
    obtain ⟨q,r,h1,h2,h3,h4⟩:=ih (DL p d▸hl) (.nS z e)
    refine kz ?_;try clear kz
    exact ⟨q,r,.dE e h1,h2,h3,h4.trans (Ty.nS p z e)⟩
def B7(Ty:dG X h)(ok:fq X aE):∀(n:af){s:dN},Ii X h s→∃x,nC X bB n s=ac x:=by
 intro n
 induction n with
 |zero=>
  intro s S
  exact ⟨_,ag⟩
 |succ n ih=>
  intro z1 S
  obtain ⟨p,sk,kd,ds⟩:=z1
  refine aw fun kz=>?_
  obtain ⟨q,r,h1,h2,h3,h4⟩:=CL Ty X.aa.length (G7 _ _) S.pK
  obtain ⟨o,ho,hs⟩:=E8 (bB:=bB) (s:=⟨q,sk,kd,ds⟩) Ty ok ⟨h3,S.bh.trans h4.symm,S.gZ,S.fZ⟩ h2
  refine kz ?_;try clear kz
  (refine aq (uR h1) ?_;refine aq (vr h2) ?_;refine aq ho ?_)
  induction o with
  |inl d=>exact ⟨_,ag⟩
  |inr s'=>exact ih (hs s' ag)
end
def NP.aX{aa:ao (aM R)}{a b c:af}(h:NP aa a b)(k:NP aa b c):NP aa a c:=by
 induction h with
 |bc=>exact k
 |dE e _ ih=>exact .dE e (ih k)
inductive Od(Y:Nc)(bB:av)(Rl:dN→dN→Prop)(s2:dN):cF (ao am) dN→Prop
 |hZ {q:af} {r:R} {d:ao am} (np:NP Y.aa s2.pc q) (hr:Y.aa[q]? =ac (ac r)) (ho:eM Y.gy bB q r s2=ac (.inl d)):Od Y bB Rl s2 (.inl d)
 |dE {q q':af} {r:R} {a b:dN} (np:NP Y.aa s2.pc q) (hr:Y.aa[q]? =ac (ac r)) (ho:eM Y.gy bB q r s2=ac (.inr b)) (np':NP Y.aa b.pc q') (hR:Rl a {b with pc:=q'}):Od Y bB Rl s2 (.inr a)
 |gK {q:af} {a:dN} (np:NP Y.aa s2.pc q) (hR:Rl a {s2 with pc:=q}):Od Y bB Rl s2 (.inr a)
structure Xn(X Y:Nc)(bB:av)(Rl:dN→dN→Prop):Prop where
 dO:∀{s1 s2},Rl s1 s2→s1.dO=s2.dO
 nS:∀{s1 s2},Rl s1 s2→X.aa[s1.pc]? =ac au→∃q,NP Y.aa s2.pc q∧Rl {s1 with pc:=s1.pc+1} {s2 with pc:=q}
 cq:∀{s1 s2 r o},Rl s1 s2→X.aa[s1.pc]? =ac (ac r)→eM X.gy bB s1.pc r s1=ac o→Od Y bB Rl s2 o
section
variable{X Y:Nc}{bB:av}{Rl:dN→dN→Prop}
def Xn.aiC(S:Xn X Y bB Rl){a b:af}(h:NP X.aa a b):∀{s1 s2:dN},s1.pc=a→Rl s1 s2→∃q,NP Y.aa s2.pc q∧Rl {s1 with pc:=b} {s2 with pc:=q}:=by
 induction h with
 |bc a=>exact fun {s1 s2} e R=>⟨s2.pc,.bc _,e▸R⟩
 |dE e _ ih=>
  intro s1 s2 h R
  refine aw fun kz=>?_
  obtain ⟨q,n1,R1⟩:=S.nS R (h▸e)
  obtain ⟨q',n2,R2⟩:=ih (a7 tr h) R1
  refine kz ?_;try clear kz
  exact ⟨q',n1.aX n2,R2⟩
def Oe(S:Xn X Y bB Rl):∀(n:af){s1 s2:dN}{m:af}{x:ao am×av},n≤m→Rl s1 s2→(∀k,∃y,nC Y bB k s2=ac y)→nC X bB n s1=ac x→∃y,nC Y bB m s2=ac y∧Lq x y:=by
 intro n
 induction n with
 |zero=>
  intro s1 s2 m x _ hR hs hx
  obtain ⟨y,hy⟩:=hs m
  exact ⟨y,hy,cp hx▸⟨by refine aq (S.dO hR) ?_;exact Nd hy,fun e=>cG e⟩⟩
 |succ n ih=>
  intro z1 s2 m x hm hR hs hx
  obtain ⟨a,sk,kd,ds⟩:=z1
  exact BZ hx fun q r o np hr ho h1 h2=>by
   refine aw fun kz=>?_
   obtain ⟨q2,n2,R2⟩:=S.aiC np ag hR
   refine kz ?_;try clear kz
   have e2:∀k,nC Y bB k s2=nC Y bB k {s2 with pc:=q2}:=fun k=>uR n2
   cases S.cq R2 hr ho with
   |gK n3 R3=>
    have e3:∀k,nC Y bB k s2=_:=fun k=>(e2 k).trans (uR n3)
    rw [e3]
    exact ih (ou hm) R3 (fun k=>e3 k▸hs k) (h2 _ ag)
   |hZ n3 hr3 ho3=>
    induction m with
    |zero=>cases hm
    |succ m=>
    (rewrite [e2];refine aq (uR n3) ?_;refine aq (vr hr3) ?_)
    refine ⟨_,a7 (fun o=>lj o _) ho3,?_⟩
    refine aq (h1 _ ag) ?_
    exact Lq.bc _
   |@dE q3 q4 r3 a3 b3 n3 hr3 ho3 n4 R4=>
    induction m with
    |zero=>cases hm
    |succ m=>
    have e4:∀k,nC Y bB (k+1) s2=nC Y bB k {b3 with pc:=q4}:=fun k=>by
     (rewrite [e2];refine aq (uR n3) ?_;refine aq (vr hr3) ?_)
     exact (a7 (fun o=>lj o _) ho3).trans (uR n4)
    rw [e4]
    exact ih (wo hm) R4 (fun k=>e4 k▸hs (k+1)) (h2 _ ag)
def fK(X Y:Nc):Prop:=X.aZ.length=Y.aZ.length∧∀(i p q:af),X.aZ[i]? =ac p→Y.aZ[i]? =ac q→∀(bB:av)(kd:Kd)(n:af)(x:ao am×av),IF kd→nC X bB n ⟨p,[],kd,[]⟩=ac x→∃y,nC Y bB n ⟨q,[],kd,[]⟩=ac y∧Lq x y
def fK.bc(X:Nc):fK X X:=⟨ag,fun i p q h h' bB kd n x q9 hx=>by
 obtain rfl:=cp (h.symm.trans h')
 exact ⟨x,hx,Lq.bc x⟩⟩
def fK.aX{X Y Z:Nc}(a:fK X Y)(b:fK Y Z):fK X Z:=⟨a.1.trans b.1,fun i p q h h' bB kd n x hk hx=>by
 have hi:=ed (l:=Y.aZ) (a.1▸(fM.mp h).1)
 obtain ⟨y,hy,h1⟩:=a.2 i p _ h hi bB kd n x hk hx
 obtain ⟨z,hz,h2⟩:=b.2 i _ q hi h' bB kd n y hk hy
 exact ⟨z,hz,h1.aX h2⟩⟩
def rh{aE:av}{h:af→af}{Rl:av→dN→dN→Prop}(IH:Y.aZ=X.aZ)(Ty:dG Y h)(ok:fq Y aE)(S:∀bB,Xn X Y bB (Rl bB))(R0:∀bB p kd,p∈X.aZ→IF kd→Rl bB ⟨p,[],kd,[]⟩ ⟨p,[],kd,[]⟩):fK X Y:=
 ⟨a7 uI IH.symm,fun i p q h1 h2 bB kd n x hk hx=>by
  rw [IH,h1] at h2
  obtain rfl:=cp h2
  have hm:=gM h1
  have hy:p∈Y.aZ:=IH▸hm
  exact Oe (S bB) n (c9 n) (R0 bB p kd hm hk) (fun k=>B7 Ty ok k ⟨.cR hy,(Ty.cR p hy).symm,(fun v hv=>bW hv hU),hk⟩) hx⟩
def II{cs:ao Ct}{p:af}{c:Ct}(h:cs.find? (·.bU p)=ac c):c∈cs∧c.bU p=ak:=⟨Z3 h,RP (p:=fun c:Ct=>c.bU p) h⟩
def Of{cs:ao Ct}{p:af}{r:R}{s s':dN}{P:af→Prop}(h:eM cs bB p r s=ac (.inr s'))(d7:r.ay.c3=aF→P (p+1))(bp:r.ay.aO=ak→P r.t)(cM:∀c∈cs,c.bU p=ak→P c.bC):P s'.pc:=by
 suffices H:∀o,eM cs bB p r s=ac o→∀s',o=.inr s'→P s'.pc from H _ h s' ag
 refine fun o h=>ga (P:=fun o=>∀s',o=.inr s'→P s'.pc) h fun out ho s'=>?_
 have hk:=B4 ho
 induction out with
 |aS st kd d=>exact fun e=>yB e▸d7 hk.1
 |bp st b=>induction b with
  |true=>exact fun e=>yB e▸bp hk.1
  |false=>exact fun e=>yB e▸d7 (hk.2 ag)
 |hZ d=>exact fun e=>nomatch e
 |gY=>exact qV (P:=fun o=>o=.inr s'→P s'.pc) (fun q9 e=>nomatch e) fun c hf e=>yB e▸cM c (II hf).1 (II hf).2
def Nf{s s':dN}{r:R}(z:bb X s.pc)(er:X.aa[s.pc]? =ac (ac r))(ho:eM X.gy bB s.pc r s=ac (.inr s')):bb X s'.pc:=Of ho (.d7 z er) (.bp z er) fun q9 hc k=>.cM z er hc k
end
def o8(X:Nc)(m:af):Prop:=(m∉X.aZ)∧(∀(q:af)(r:R),X.aa[q]? =ac (ac r)→r.ay.aO=ak→r.t≠m)∧(∀c∈X.gy,c.bC≠m)
section
variable{X:Nc}{m:af}(s0:o8 X m)
include s0
def o8.Mv:m∉X.aZ:=s0.1
def o8.jmp:∀(q:af)(r:R),X.aa[q]? =ac (ac r)→r.ay.aO=ak→r.t≠m:=s0.2.1
def o8.ct:∀c∈X.gy,c.bC≠m:=s0.2.2
end
structure Og(X Y:Nc)(p k:af):Prop where
 bh:Y.aa.length=X.aa.length
 gy:Y.gy=X.gy
 aZ:Y.aZ=X.aZ
 kt:∀q,(q<p∨p+k≤q)→Y.aa[q]? =X.aa[q]?
 oR:∀m,p<m→m<p+k→o8 X m
section
variable{X Y:Nc}{p k:af}{h h':af→af}
structure Tn(X Y:Nc)(h':af→af)(q:af)(r:R):Prop where
 t:Dy Y h' q r
 d7:r.ay.c3=aF→bb X (q+1)
 bp:r.ay.aO=ak→bb X r.t
 cM:∀c∈Y.gy,c.bU q=ak→bb X c.bC
inductive zx(X Y:Nc)(h':af→af)(q:af):Prop
 |nS (e:Y.aa[q]? =ac au) (z:bb X (q+1)) (k:h' (q+1)=h' q)
 |cq (r:R) (e:Y.aa[q]? =ac (ac r)) (k:Tn X Y h' q r)
def rU(p k q:af):(q<p∨p+k≤q)∨(p≤q∧q<p+k):=(ZX q p).elim (fun z=>.inl (.inl z)) fun z=>(ZX q (p+k)).elim (fun y=>.inr ⟨z,y⟩) fun y=>.inl (.inr y)
def To{p k q:af}(h:q<p∨p+k≤q):¬(p<q∧q<p+k):=fun z=>h.elim (Nat.lt_asymm z.1) fun y=>lw.mpr y z.2
def AQ{p k q:af}(h:q<p∨p+k≤q):¬(p<q+1∧q+1<p+k):=fun z=>h.elim (fun y=>lw.mpr (uf z.1) y) fun y=>lw.mpr (ti y) z.2
def zx.Tp{q:af}(H:zx X Y h' q)(e:Y.aa[q]? =ac au):bb X (q+1)∧h' (q+1)=h' q:=by
 induction H with
 |nS _ z k=>exact ⟨z,k⟩
 |cq r e' _=>rw [e] at e';cases e'
def zx.E9{q:af}{r:R}(H:zx X Y h' q)(e:Y.aa[q]? =ac (ac r)):Tn X Y h' q r:=by
 induction H with
 |nS e' _ _=>rw [e] at e';cases e'
 |cq r' e' k=>rw [e] at e';cases e';exact k
def Og.ie(W:Og X Y p k)(Ty:dG X h)(hh:∀q,¬(p<q∧q<p+k)→h' q=h q)(RW:∀q,p≤q→q<p+k→bb X q→zx X Y h' q):dG Y h':=by
 have RS:∀q,bb Y q→bb X q:=fun q hq=>by
  induction hq with
  |cR hp=>exact .cR (W.aZ▸hp)
  |@nS q _ e ih=>exact (rU p k q).elim (fun hw=>.nS ih (W.kt q hw▸e)) fun hw=>((RW q hw.1 hw.2 ih).Tp e).1
  |@d7 q r _ e kk ih=>exact (rU p k q).elim (fun hw=>.d7 ih (W.kt q hw▸e) kk) fun hw=>((RW q hw.1 hw.2 ih).E9 e).d7 kk
  |@bp q r _ e kk ih=>exact (rU p k q).elim (fun hw=>.bp ih (W.kt q hw▸e) kk) fun hw=>((RW q hw.1 hw.2 ih).E9 e).bp kk
  |@cM q r c _ e hc kk ih=>exact (rU p k q).elim (fun hw=>.cM ih (W.kt q hw▸e) (W.gy▸hc) kk) fun hw=>((RW q hw.1 hw.2 ih).E9 e).cM c hc kk
 refine ⟨fun q hq=>?_,fun q hq=>W.bh▸Ty.mW q (RS q hq),fun q hq e=>(rU p k q).elim (fun hw=>?_) fun hw=>((RW q hw.1 hw.2 (RS q hq)).Tp e).2,fun q r hq e=>(rU p k q).elim (fun hw=>?_) fun hw=>((RW q hw.1 hw.2 (RS q hq)).E9 e).t⟩
 ·rw [W.aZ] at hq
  exact (hh q fun z=>(W.oR q z.1 z.2).Mv hq).trans (Ty.cR q hq)
 ·(refine aq (hh _ (AQ hw)) ?_;refine aq (hh q (To hw)) ?_)
  exact Ty.nS q (RS q hq) (W.kt q hw▸e)
 ·have e':X.aa[q]? =ac (ac r):=W.kt q hw▸e
  have T:=Ty.cq q r (RS q hq) e'
  have h0:=hh q (To hw)
  refine ⟨h0.symm▸T.bO,fun z=>?_,fun z=>?_,fun c hc z=>?_,fun z c hc z'=>h0.symm▸T.gY z c (W.gy▸hc) z'⟩
  ·(refine aq (hh _ (AQ hw)) ?_;refine aq h0 ?_);exact T.d7 z
  ·(refine aq h0 ?_;refine aq (hh _ fun y=>(W.oR _ y.1 y.2).jmp q r e' z ag) ?_);exact T.bp z
  ·rw [W.gy] at hc
   exact (hh _ fun y=>(W.oR _ y.1 y.2).ct c hc ag).trans (T.cM c hc z)
inductive AR(p k:af)(Mid:dN→dN→Prop)(s1 s2:dN):Prop
 |bN (e:s1=s2) (h:¬(p<s1.pc∧s1.pc<p+k))
 |oR (h:Mid s1 s2)
def Og.sim(W:Og X Y p k){bB:av}{Mid:dN→dN→Prop}{r0:R}(hp:X.aa[p]? =ac (ac r0))(md:∀{s1 s2},Mid s1 s2→s1.dO=s2.dO)(mn:∀{s1 s2},Mid s1 s2→X.aa[s1.pc]? ≠ac au)
  (m0:∀{sk kd ds o},eM X.gy bB p r0 ⟨p,sk,kd,ds⟩=ac o→Od Y bB (AR p k Mid) ⟨p,sk,kd,ds⟩ o)
  (mr:∀{s1 s2 r o},Mid s1 s2→X.aa[s1.pc]? =ac (ac r)→eM X.gy bB s1.pc r s1=ac o→Od Y bB (AR p k Mid) s2 o):Xn X Y bB (AR p k Mid):=by
 have afg:∀{q},¬(p<q∧q<p+k)→q≠p→q<p∨p+k≤q:=fun h z=>(rU p k _).elim id fun y=>bW ⟨DM y.1 z.symm,y.2⟩ h
 refine ⟨fun hR=>?_,fun {s1 s2} hR e=>?_,fun {s1 s2 r o} hR e ho=>?_⟩
 ·induction hR with
  |bN e _=>exact a7 dN.dO e
  |oR h=>exact md h
 ·induction hR with
  |oR h=>exact bW e (mn h)
  |bN e' hq=>
   subst e'
   have hw:=afg hq fun z=>by rw [z,hp] at e;cases e
   exact ⟨_,.qb (W.kt _ hw▸e),.bN ag (AQ hw)⟩
 ·induction hR with
  |oR h=>exact mr h e ho
  |bN e' hq=>
   subst e'
   refine aw fun kz=>?_
   obtain ⟨q,sk,kd,ds⟩:=s1
   refine kz ?_;try clear kz
   by_cases z:q=p
   ·subst z
    rw [hp] at e;cases e
    exact m0 ho
   ·have hw:=afg hq z
    have hr:=(W.kt _ hw).trans e
    have hs:eM Y.gy bB q r ⟨q,sk,kd,ds⟩=ac o:=by refine aq W.gy ?_;exact ho
    induction o with
    |inl d=>exact .hZ (.bc _) hr hs
    |inr s'=>exact .dE (.bc _) hr hs (.bc _) (.bN ag (Of (P:=fun m=>¬(p<m∧m<p+k)) ho (fun q9=>AQ hw) (fun h0 y=>(W.oR _ y.1 y.2).jmp _ r e h0 ag) fun c hc q9 y=>(W.oR _ y.1 y.2).ct c hc ag))
def Og.By{aE:av}(W:Og X Y p k)(Ty:dG Y h')(ok:fq Y aE){Mid:dN→dN→Prop}(S:∀bB,Xn X Y bB (AR p k Mid)):fK X Y:=
 rh W.aZ Ty ok S fun bB q kd hq hk=>.bN ag fun z=>(W.oR _ z.1 z.2).Mv hq
end
def wM(X Y:Nc)(aE:av):Prop:=(∃h',dG Y h')∧fq Y aE∧fK X Y
noncomputable def Nc.ui(X:Nc)(p:af)(a:aM R):Nc:={X with aa:=X.aa.set p a}
def Nc.e8(X:Nc)(p:af)(a b:aM R):Nc:=(X.ui p a).ui (p+1) b
def Nc.wN(X:Nc)(p:af)(a b c:aM R):Nc:=(X.e8 p a b).ui (p+2) c
def Fa{p q:af}{P:af→Prop}(h1:p≤q)(h2:q<p+2)(k0:P p)(k1:P (p+1)):P q:=
 (ZQ h1).elim (fun e=>e▸k0) fun z=>wp z (uf h2)▸k1
def IJ{p q:af}{P:af→Prop}(h1:p≤q)(h2:q<p+3)(k0:P p)(k1:P (p+1))(k2:P (p+2)):P q:=
 (ZQ h1).elim (fun e=>e▸k0) fun z=>Fa z h2 k1 k2
def vt(p:af):p≠p+1:=nv (je p)
def W8(p:af):p≠p+2:=nv (uD (je p))
def t7(p k:af):¬(p<p+k∧p+k<p+k):=fun z=>G8 _ z.2
section
variable{X:Nc}{p m:af}{r r' oW:R}{aE:av}{h:af→af}
def hH{q:af}{o:aM R}(e:X.aa[q]? =ac o):q<X.aa.length:=(fM.mp e).1
def iR{a:aM R}{q:af}(hq:p≠q):(X.ui p a).aa[q]? =X.aa[q]? :=sK hq
def Bz(a:aM R)(hp:p<X.aa.length):(X.ui p a).aa[p]? =ac a:=LG hp
def kW{a:aM R}:(X.ui p a).aa.length=X.aa.length:=qj
def rV(a b:aM R)(hp:p<X.aa.length):(X.e8 p a b).aa[p]? =ac a:=(iR (vt p).symm).trans (Bz a hp)
def rW(a b:aM R)(hp:p+1<X.aa.length):(X.e8 p a b).aa[p+1]? =ac b:=Bz b (kW.symm▸hp)
def Fb(a b c:aM R)(hp:p<X.aa.length):(X.wN p a b c).aa[p]? =ac a:=(iR (W8 p).symm).trans (rV a b hp)
def Tq(a b c:aM R)(hp:p+1<X.aa.length):(X.wN p a b c).aa[p+1]? =ac b:=(iR (vt _).symm).trans (rW a b hp)
def Tr(a b c:aM R)(hp:p+2<X.aa.length):(X.wN p a b c).aa[p+2]? =ac c:=Bz c (Eq.mpr (a7 (p+2< ·) (kW.trans kW)) hp)
def rX{k q m:af}(hq:q<p∨p+k≤q)(h1:p≤m)(h2:m<p+k):m≠q:=fun e=>hq.elim (fun z=>lw.mpr h1 (e.symm▸z)) fun z=>lw.mpr z (e▸h2)
def UD(a:aM R):Og X (X.ui p a) p 1:=⟨kW,ag,ag,fun q hq=>iR (rX hq (c9 p) (je p)),fun m h1 h2=>bW h1 (lw.mpr (uf h2))⟩
def B8(a b:aM R)(no:o8 X (p+1)):Og X (X.e8 p a b) p 2:=⟨kW.trans kW,ag,ag,fun q hq=>(iR (rX hq (fQ p) (je _))).trans (iR (rX hq (c9 p) (uD (je p)))),fun m h1 h2=>wp h1 (uf h2)▸no⟩
def UE(a b c:aM R)(no:o8 X (p+1))(no2:o8 X (p+2)):Og X (X.wN p a b c) p 3:=⟨kW.trans (kW.trans kW),ag,ag,fun q hq=>(iR (rX hq (ff p 2) (je _))).trans ((iR (rX hq (fQ p) (uD (je _)))).trans (iR (rX hq (c9 p) (G6 (qI 2))))),fun m h1 h2=>Fa h1 h2 no no2⟩
def xk{a:aM R}(ok:fq X aE)(ha:∀r,a=ac r→r.bm aE=ak):fq (X.ui p a) aE:=fun q r e=>by
 by_cases z:p=q
 ·subst z
  have hp:p<X.aa.length:=kW (X:=X) (a:=a)▸hH e
  exact ha r (cp ((Bz a hp).symm.trans e))
 ·exact ok q r ((iR z).symm.trans e)
def Gw{a b:aM R}(ok:fq X aE)(ha:∀r,a=ac r→r.bm aE=ak)(hb:∀r,b=ac r→r.bm aE=ak):fq (X.e8 p a b) aE:=xk (xk ok ha) hb
def mF:∀r:R,au=ac r→r.bm aE=ak:=fun q9 z=>bn z
def xl(h:r.bm aE=ak):∀r',ac r=ac r'→r'.bm aE=ak:=fun q9 z=>cp z▸h
noncomputable def v2(h:af→af)(m v:af):af→af:=fun q=>if q=m then v else h q
def kX(h:af→af)(m v:af):v2 h m v m=v:=bD ag
def lS(h:af→af){m q:af}(v:af)(k:q≠m):v2 h m v q=h q:=cL k
def yK(h:af→af)(m q:af):v2 h m (h m) q=h q:=by
 by_cases z:q=m
 ·(refine aq z ?_;rw [kX])
 ·exact lS h _ z
def o8.Mw(no:o8 X (p+1))(hr:bb X (p+1)):bb X p:=by
 generalize hm:p+1=m at hr
 induction hr with
 |cR hp=>exact bW (hm▸hp) no.Mv
 |nS hz e=>exact pG hm▸hz
 |d7 hz e k=>exact pG hm▸hz
 |bp hz e k=>exact bW hm.symm (no.jmp _ _ e k)
 |cM hz e hc k=>exact bW hm.symm (no.ct _ hc)
inductive Ij(G:af→af→ao am→ao am→Prop):dN→dN→Prop
 |mk {m q:af} {sk st:ao am} {kd:Kd} {ds:ao am} (g:G m q sk st):Ij G ⟨m,sk,kd,ds⟩ ⟨q,st,kd,ds⟩
def edG{Y:Nc}{k:af}{h':af→af}(W:Og X Y p k)(wX:dG Y h')(tJ:fq Y aE)(e0:X.aa[p]? =ac (ac r)){G:af→af→ao am→ao am→Prop}(m0:∀{bB sk kd ds o},eM X.gy bB p r ⟨p,sk,kd,ds⟩=ac o→Od Y bB (AR p k (Ij G)) ⟨p,sk,kd,ds⟩ o)
  (mr:∀{bB m q sk st kd ds},G m q sk st→∃r,X.aa[m]? =ac (ac r)∧∀{o},eM X.gy bB m r ⟨m,sk,kd,ds⟩=ac o→Od Y bB (AR p k (Ij G)) ⟨q,st,kd,ds⟩ o):wM X Y aE:=by
 refine ⟨⟨_,wX⟩,tJ,W.By wX tJ (Mid:=Ij G) fun bB=>W.sim e0 (fun h=>?_) (fun h=>?_) m0 (fun h e ho=>?_)⟩
 ·induction h;rfl
 ·induction h with|mk g=>
  refine aw fun kz=>?_
  obtain ⟨r,e,_⟩:=mr (bB:=bB) (kd:=[]) (ds:=[]) g
  refine kz ?_;try clear kz
  refine aq e ?_;exact fun z=>nomatch z
 ·induction h with|mk g=>
  refine aw fun kz=>?_
  obtain ⟨r,e',k⟩:=mr g
  refine kz ?_;try clear kz
  rw [e'] at e
  cases e
  exact k ho
inductive At1(m q:af)(G:ao am→ao am→Prop):af→af→ao am→ao am→Prop
 |mk {sk st:ao am} (g:G sk st):At1 m q G m q sk st
def BA{m q k:af}{G:ao am→ao am→Prop}{sk st:ao am}{kd:Kd}{ds:ao am}(g:G sk st):AR p k (Ij (At1 m q G)) ⟨m,sk,kd,ds⟩ ⟨q,st,kd,ds⟩:=.oR (.mk (.mk g))
def Tt{a b:aM R}(Ty:dG X h)(no:o8 X (p+1)){h1:af}(H0:bb X p→zx X (X.e8 p a b) (v2 h (p+1) h1) p)(H1:bb X p→bb X (p+1)→zx X (X.e8 p a b) (v2 h (p+1) h1) (p+1)):dG (X.e8 p a b) (v2 h (p+1) h1):=
 (B8 a b no).ie Ty (fun q hq=>lS _ _ fun z=>hq (z▸⟨je p,je _⟩)) fun q l1 l2=>Fa (P:=fun q=>bb X q→zx X (X.e8 p a b) (v2 h (p+1) h1) q) l1 l2 H0 fun z=>H1 (no.Mw z) z
def ed2{a b:aM R}(Ty:dG X h)(ok:fq X aE)(e0:X.aa[p]? =ac (ac r))(e1:X.aa[p+1]? =ac (ac r'))(no:o8 X (p+1))(oa:∀r,a=ac r→r.bm aE=ak)(ob:∀r,b=ac r→r.bm aE=ak){h1:af}
  (H0:bb X p→zx X (X.e8 p a b) (v2 h (p+1) h1) p) (H1:bb X p→bb X (p+1)→zx X (X.e8 p a b) (v2 h (p+1) h1) (p+1)) {q:af} {G:ao am→ao am→Prop}
  (m0:∀{bB sk kd ds o},eM X.gy bB p r ⟨p,sk,kd,ds⟩=ac o→Od (X.e8 p a b) bB (AR p 2 (Ij (At1 (p+1) q G))) ⟨p,sk,kd,ds⟩ o)
  (m1:∀{bB sk st kd ds o},G sk st→eM X.gy bB (p+1) r' ⟨p+1,sk,kd,ds⟩=ac o→Od (X.e8 p a b) bB (AR p 2 (Ij (At1 (p+1) q G))) ⟨q,st,kd,ds⟩ o):wM X (X.e8 p a b) aE:=
 edG (B8 a b no) (Tt Ty no H0 H1) (Gw ok oa ob) e0 m0 fun g=>by
  induction g with|mk g=>exact ⟨r',e1,m1 g⟩
section
variable{cs:ao Ct}{bB:av}{q t:af}{sk:ao am}{kd:Kd}{ds:ao am}{o:cF (ao am) dN}{P:cF (ao am) dN→Prop}
def Ku{f:am→ao am→ao am}{cn:ao am}(h:(uh sk fun v st=>ac (.aS (f v st) kd au)).map (fJ cs p t cn kd ds)=ac o)(k:∀v st,sk=v::st→P (.inr ⟨p+1,f v st,kd,ds⟩)):P o:=
 ga h fun x hx=>fb hx fun v st e hx=>c5 (P:=fun x=>P (fJ cs p t cn kd ds x)) hx (k v st e)
def SK{f:am→ao am→ao am}{b:am→av}{cn:ao am}(h:(uh sk fun v st=>ac (.bp (f v st) (b v))).map (fJ cs p t cn kd ds)=ac o)(k:∀v st,sk=v::st→P (.inr ⟨cE (b v) t (p+1),f v st,kd,ds⟩)):P o:=
 ga h fun x hx=>fb hx fun v st e hx=>c5 (P:=fun x=>P (fJ cs p t cn kd ds x)) hx (k v st e)
def abF{v:am}{cn:ao am}(h:(ac (qw.aS (v::sk) kd au)).map (fJ cs p t cn kd ds)=ac o)(k:P (.inr ⟨p+1,v::sk,kd,ds⟩)):P o:=c5 h k
def ads{cn:ao am}(h:(Dx r sk kd).map (fJ cs p t cn kd ds)=ac o)(k:∀v,P (.inr ⟨p+1,v::sk,kd,ds⟩)):P o:=
 ga h fun x hx=>SG (P:=fun x=>P (fJ cs p t cn kd ds x)) hx fun q9 v q9 q9=>k v
def abG(c:r.ay=.mD)(h:eM cs bB p r ⟨q,sk,kd,ds⟩=ac o)(k:∀v st,sk=v::st→P (.inr ⟨p+1,v::v::st,kd,ds⟩)):P o:=by
 refine aw fun kz=>?_
 obtain ⟨op,t,a,b,c',l⟩:=r
 obtain rfl:op=.mD:=c
 refine kz ?_;try clear kz
 exact Ku (f:=fun v st=>v::v::st) h k
def Tu(c:r.ay=.g6)(h:eM cs bB p r ⟨q,sk,kd,ds⟩=ac o)(k:∀v st,sk=v::st→P (.inr ⟨p+1,st,kd,ds⟩)):P o:=by
 refine aw fun kz=>?_
 obtain ⟨op,t,a,b,c',l⟩:=r
 obtain rfl:op=.g6:=c
 refine kz ?_;try clear kz
 exact Ku (f:=fun v st=>st) h k
def Kv(c:r.ay=.cA)(h:eM cs bB p r ⟨q,sk,kd,ds⟩=ac o)(k:∀v u st,sk=v::u::st→P (.inr ⟨p+1,u::v::st,kd,ds⟩)):P o:=by
 refine aw fun kz=>?_
 obtain ⟨op,t,a,b,c',l⟩:=r
 obtain rfl:op=.cA:=c
 refine kz ?_;try clear kz
 exact ga h fun x hx=>fb hx fun v st e hx=>fb hx fun u Tk e' hx=>c5 (P:=fun x=>P (fJ cs p t sk kd ds x)) hx (k v u Tk (e'▸e))
def Tv(c:r.ay=.dh)(h:eM cs bB p r ⟨q,sk,kd,ds⟩=ac o)(k:P (.inr ⟨p+1,r.a::sk,kd,ds⟩)):P o:=by
 refine aw fun kz=>?_
 obtain ⟨op,t,a,b,c',l⟩:=r
 obtain rfl:op=.dh:=c
 refine kz ?_;try clear kz
 exact abF h k
def BB(c:r.ay=.bp)(h:eM cs bB p r ⟨q,sk,kd,ds⟩=ac o)(k:P (.inr ⟨r.t,sk,kd,ds⟩)):P o:=by
 refine aw fun kz=>?_
 obtain ⟨op,t,a,b,c',l⟩:=r
 obtain rfl:op=.bp:=c
 refine kz ?_;try clear kz
 exact c5 h k
def XA(c:r.ay.kh=ak)(h:eM cs bB p r ⟨q,sk,kd,ds⟩=ac o)(k:∀v,P (.inr ⟨p+1,v::sk,kd,ds⟩)):P o:=by
 refine aw fun kz=>?_
 obtain ⟨op,t,a,b,c',l⟩:=r
 refine kz ?_;try clear kz
 induction op<;>first|exact cG c|exact abF h (k _)|exact ads h k|exact Ku (f:=fun v st=>v::v::st) h fun v st e=>e▸k v
structure XB(op:Op):Prop where
 e:op.c3=aF
 t:op.fW=op.bO+1
def IK{op:Op}(c:op.kh=ak):XB op:=by
 induction op<;>first|exact cG c|exact ⟨ag,ag⟩
end
def rC{P:Op→Prop}{op:Op}(c:r.ay=op)(h:P r.ay):P op:=c▸h
def Pf(Ty:dG X h)(ok:fq X aE)(e0:X.aa[p]? =ac (ac r))(e1:X.aa[p+1]? =ac (ac r'))(c0:r.ay.kh=ak)(c1:r'.ay=.g6)(no:o8 X (p+1)):wM X (X.e8 p au au) aE:=by
 have y0:=rV (X:=X) au au (hH e0)
 have y1:=rW (X:=X) au au (hH e1)
 have o:=IK c0
 refine ed2 Ty ok e0 e1 no mF mF (h1:=h p) (q:=p+2) (G:=fun sk st=>∃v,sk=v::st) (fun z=>.nS y0 (.d7 z e0 o.e) ((kX ..).trans (lS _ _ (vt p)).symm)) (fun z z1=>.nS y1 (.d7 z1 e1 (by refine aq c1 ?_;rfl)) ?_) (fun ho=>XA c0 ho fun v=>.gK (.dE y0 (.qb y1)) (BA ⟨v,ag⟩)) (fun g ho=>Tu c1 ho fun u st e=>?_)
 ·have t0:=(Ty.cq _ _ z e0).d7 o.e
  rw [o.t,← qH,qT] at t0
  (rewrite [kX];refine aq (lS _ _ (vt _).symm) ?_)
  exact pG ((rC (P:=fun op=>op.c3=aF→h (p+2)+op.bO=h (p+1)+op.fW) c1 (Ty.cq _ _ z1 e1).d7 ag).trans (An t0))
 ·refine aw fun kz=>?_
  obtain ⟨v,rfl⟩:=g
  refine kz ?_;try clear kz
  exact (Ml e).2▸ .gK (.bc _) (.bN ag (t7 p 2))
def UF(Ty:dG X h)(ok:fq X aE)(e0:X.aa[p]? =ac (ac r))(e1:X.aa[p+1]? =ac (ac r'))(c0:r.ay=.cA)(c1:r'.ay=.cA)(no:o8 X (p+1)):wM X (X.e8 p au au) aE:=by
 have y0:=rV (X:=X) au au (hH e0)
 have y1:=rW (X:=X) au au (hH e1)
 have t:∀{q:af}{r:R},bb X q→X.aa[q]? =ac (ac r)→r.ay=.cA→bb X (q+1)∧h (q+1)=h q:=fun z e c=>⟨.d7 z e (by refine aq c ?_;rfl),An (rC (P:=fun op=>op.c3=aF→h _+op.bO=h _+op.fW) c (Ty.cq _ _ z e).d7 ag)⟩
 refine ed2 Ty ok e0 e1 no mF mF (h1:=h (p+1)) (q:=p+2) (G:=fun sk st=>∃u v l,sk=u::v::l∧st=v::u::l) (fun z=>.nS y0 (t z e0 c0).1 ?_) (fun z z1=>.nS y1 (t z1 e1 c1).1 ?_) (fun ho=>Kv c0 ho fun v u st e=>.gK (.dE y0 (.qb y1)) (BA ⟨u,v,st,ag,e⟩)) (fun g ho=>Kv c1 ho fun u v st e=>?_)
 ·rw [yK,yK];exact (t z e0 c0).2
 ·rw [yK,yK];exact (t z1 e1 c1).2
 ·refine aw fun kz=>?_
  obtain ⟨u',v',l,rfl,rfl⟩:=g
  refine kz ?_;try clear kz
  cases e
  exact .gK (.bc _) (.bN ag (t7 p 2))
def Ng(Ty:dG X h)(ok:fq X aE)(e0:X.aa[p]? =ac (ac r))(e1:X.aa[p+1]? =ac (ac r'))(c0:r.ay=.mD)(c1:r'.ay=.cA)(no:o8 X (p+1)):wM X (X.e8 p (ac r) au) aE:=by
 have y0:=rV (X:=X) (ac r) au (hH e0)
 have y1:=rW (X:=X) (ac r) au (hH e1)
 have hu:v2 h (p+1) (h (p+1))=h:=rj (yK h _)
 refine ed2 Ty ok e0 e1 no (xl (ok _ _ e0)) mF (h1:=h (p+1)) (q:=p+2) (G:=fun sk st=>(∃v l,sk=v::v::l)∧sk=st) (fun z=>hu.symm▸ .cq r y0 ⟨let T:=Ty.cq _ _ z e0;⟨T.bO,T.d7,T.bp,T.cM,T.gY⟩,.d7 z e0,.bp z e0,fun q9=>.cM z e0⟩) (fun z z1=>hu.symm▸ .nS y1 (.d7 z1 e1 (by refine aq c1 ?_;rfl)) ?_)
  (fun {bB sk kd ds o} ho=>abG (P:=fun o'=>o'=o→_) c0 ho (fun v st e eo=>?_) ag) (fun g ho=>Kv c1 ho fun u v st e=>?_)
 ·exact An (rC (P:=fun op=>op.c3=aF→h _+op.bO=h _+op.fW) c1 (Ty.cq _ _ z1 e1).d7 ag)
 ·subst eo
  exact .dE (b:=⟨p+1,v::v::st,kd,ds⟩) (.bc _) y0 ho (.qb y1) (BA ⟨⟨v,st,ag⟩,ag⟩)
 ·refine aw fun kz=>?_
  obtain ⟨⟨v',l,rfl⟩,rfl⟩:=g
  refine kz ?_;try clear kz
  cases e
  exact .gK (.bc _) (.bN ag (t7 p 2))
end
def Op.eD(op:Op)(b:av):av:=b==(op== .iU)
noncomputable def Op.fR:Op→Op
 |.iU=>.eY
 |_=>.iU
noncomputable def R.bk(op:Op)(t:af)(line:aN):R:=⟨op,t,.aA,.aA,.aA,line⟩
def oS{op:Op}{P:Op→Prop}(c:op.aV=ak)(h1:P .iU)(h2:P .eY):P op:=by
 induction op<;>first|exact cG c|exact h1|exact h2
def B9{op:Op}{P:Op→Prop}(c:op.fU=ak)(h1:P .mM)(h2:P .zt)(h3:P .zu)(h4:P .zv):P op:=by
 induction op<;>first|exact cG c|exact h1|exact h2|exact h3|exact h4
def SL{op:Op}{P:Op→Prop}(c:op.aO=ak)(h1:P .iU)(h2:P .eY)(h3:P .eB)(h4:P .bp):P op:=by
 induction op<;>first|exact cG c|exact h1|exact h2|exact h3|exact h4
def Pg{op:Op}(c:op.aV=ak):op.c3=aF:=oS (P:=fun op=>op.c3=aF) c ag ag
def vw{op:Op}(c:op.aV=ak):op.aO=ak:=oS (P:=fun op=>op.aO=ak) c ag ag
def ago{op:Op}(c:op.aV=ak):op≠ .gY ():=oS (P:=fun op=>op≠ .gY ()) c (fun z=>nomatch z) fun z=>nomatch z
def Ca{p t:af}(h:t≠p+1):¬(p<t∧t<p+2):=fun z=>h (wp (uf z.2) z.1)
section
variable{X:Nc}{p:af}{r r' oW:R}{aE:av}{h:af→af}
def Dy.br(T:Dy X h p r)(c:r.ay.aV=ak):1≤h p∧h (p+1)+1=h p∧h r.t+1=h p:=by
 refine aw fun kz=>?_
 obtain ⟨T1,T2,T3,_,_⟩:=T
 obtain ⟨op,t,a,b,c',l⟩:=r
 refine kz ?_;try clear kz
 exact oS (P:=fun op=>op.bO≤h p→(op.c3=aF→h (p+1)+op.bO=h p+op.fW)→(op.aO=ak→h t+op.bO=h p+op.fW)→1≤h p∧h (p+1)+1=h p∧h t+1=h p) c (fun a b c=>⟨a,b ag,c ag⟩) (fun a b c=>⟨a,b ag,c ag⟩) T1 T2 T3
def adt{X Y:Nc}{h h':af→af}{q:af}(T:Dy X h p r)(c:r'.ay.aV=ak)(hq:1≤h' q)(h1:h' (q+1)+1=h' q)(h2:h' r'.t+1=h' q)(hc:∀c∈Y.gy,c.bU q=ak→h' c.bC=c.cQ+1):Dy Y h' q r':=by
 refine aw fun kz=>?_
 obtain ⟨op,t,a,b,c',l⟩:=r'
 refine kz ?_;try clear kz
 exact ⟨oS (P:=fun op=>op.bO≤h' q) c hq hq,fun q9=>oS (P:=fun op=>h' (q+1)+op.bO=h' q+op.fW) c h1 h1,fun q9=>oS (P:=fun op=>h' t+op.bO=h' q+op.fW) c h2 h2,hc,fun z=>bW z (ago c)⟩
section
variable{cs:ao Ct}{bB:av}{q t:af}{sk:ao am}{kd:Kd}{ds:ao am}{o:cF (ao am) dN}{P:cF (ao am) dN→Prop}
def Cb(b:av):Op.eD .iU b=b:=by induction b<;>rfl
def Cc(b:av):Op.eD .eY b= !b:=by induction b<;>rfl
def xP(c:r.ay.aV=ak)(h:eM cs bB p r ⟨q,sk,kd,ds⟩=ac o)(k:∀v st,sk=v::st→P (.inr ⟨cE (r.ay.eD (cS v)) r.t (p+1),st,kd,ds⟩)):P o:=by
 refine aw fun kz=>?_
 obtain ⟨op,t,a,b,c',l⟩:=r
 refine kz ?_;try clear kz
 refine oS (P:=fun op=>eM cs bB p ⟨op,t,a,b,c',l⟩ ⟨q,sk,kd,ds⟩=ac o→(∀v st,sk=v::st→P (.inr ⟨cE (op.eD (cS v)) t (p+1),st,kd,ds⟩))→P o) c (fun h k=>?_) (fun h k=>?_) h k
 ·exact SK (f:=fun q9 st=>st) (b:=cS) h fun v st e=>Cb (cS v)▸k v st e
 ·exact SK (f:=fun q9 st=>st) (b:=fun v=>!cS v) h fun v st e=>Cc (cS v)▸k v st e
def JZ{v:am}{st:ao am}(c:r.ay.aV=ak):eM cs bB p r ⟨q,v::st,kd,ds⟩=ac (.inr ⟨cE (r.ay.eD (cS v)) r.t (p+1),st,kd,ds⟩):=by
 refine aw fun kz=>?_
 obtain ⟨op,t,a,b,c',l⟩:=r
 refine kz ?_;try clear kz
 exact oS (P:=fun op=>eM cs bB p ⟨op,t,a,b,c',l⟩ ⟨q,v::st,kd,ds⟩=ac (.inr ⟨cE (op.eD (cS v)) t (p+1),st,kd,ds⟩)) c (by rw [Cb];rfl) (by rw [Cc];rfl)
def adu{v:am}{q':af}(h:eM cs bB p r ⟨q,v::sk,kd,ds⟩=ac o)(c:r.ay.fU=ak)(k:∀E7 ds',(∀kI,eM cs bB p r ⟨q',v::kI,kd,ds⟩=ac (.inr ⟨p+1,kI,E7,ds'⟩))→P (.inr ⟨p+1,sk,E7,ds'⟩)):P o:=by
 have e:∀cn,E6 bB r cn kd=AP r cn kd:=fun cn=>by
  refine aw fun kz=>?_
  obtain ⟨op,t,a,b,c',l⟩:=r
  refine kz ?_;try clear kz
  exact B9 (P:=fun op=>E6 bB ⟨op,t,a,b,c',l⟩ cn kd=AP ⟨op,t,a,b,c',l⟩ cn kd) c ag ag ag ag
 unfold eM at h k
 dsimp only at h k
 rw [e] at h
 refine ga (P:=P) h fun x hx=>SH (P:=fun x=>P (fJ cs p r.t (v::sk) kd ds x)) hx fun u st x w ev hx hw=>?_
 cases ev
 refine k _ _ fun kI=>?_
 rw [e]
 show qG _ ((lA (rT r)).bind fun k=>(iA v).map fun q=>qw.aS kI (hY kd k v) (ac (.bE [.ah r.ay.bH,rT r,.ah q])))=_
 (refine aq hx ?_;refine aq hw ?_);rfl
end
def Ph(Ty:dG X h)(ok:fq X aE)(e0:X.aa[p]? =ac (ac r))(e1:X.aa[p+1]? =ac (ac r'))(c0:r.ay.aV=ak)(c1:r'.ay=.bp)(ct:r.t=p+2)(no:o8 X (p+1)):wM X (X.e8 p (ac (.bk r.ay.fR r'.t r.eZ)) au) aE:=by
 have y0:=rV (X:=X) (ac (.bk r.ay.fR r'.t r.eZ)) au (hH e0)
 have y1:=rW (X:=X) (ac (.bk r.ay.fR r'.t r.eZ)) au (hH e1)
 have cb:(R.bk r.ay.fR r'.t r.eZ).ay.aV=ak:=oS (P:=fun op=>op.fR.aV=ak) c0 ag ag
 have tk:∀b,r.ay.fR.eD b= !(r.ay.eD b):=fun b=>oS (P:=fun op=>op.fR.eD b= !(op.eD b)) c0 (by induction b<;>rfl) (by induction b<;>rfl)
 have hu:v2 h (p+1) (h (p+1))=h:=rj (yK h _)
 have j1:r'.ay.aO=ak:=by refine aq c1 ?_;rfl
 have nt:=no.jmp _ _ e1 j1
 have aj:bb X p→bb X r'.t:=fun z=>.bp (.d7 z e0 (Pg c0)) e1 j1
 have ht:∀z:bb X p,1≤h p∧h (p+1)+1=h p∧h (p+2)+1=h p∧h r'.t=h (p+1):=fun z=>by
  refine aw fun kz=>?_
  obtain ⟨a,b,c⟩:=(Ty.cq _ _ z e0).br c0
  refine kz ?_;try clear kz
  rw [ct] at c
  exact ⟨a,b,c,rC (P:=fun op=>op.aO=ak→h r'.t+op.bO=h (p+1)+op.fW) c1 (Ty.cq _ _ (.d7 z e0 (Pg c0)) e1).bp ag⟩
 refine ed2 Ty ok e0 e1 no (xl (oS (P:=fun op=>R.bm aE (R.bk op.fR r'.t r.eZ)=ak) c0 ag ag)) mF (h1:=h (p+1)) (q:=r'.t) (G:=fun sk st=>sk=st) (fun z=>hu.symm▸ .cq _ y0 ⟨?_,fun q9=>.d7 z e0 (Pg c0),fun q9=>aj z,fun q9=>.cM z e0⟩) (fun z z1=>hu.symm▸ .nS y1 (ct▸ .bp z e0 (vw c0)) ?_)
  (fun {bB sk kd ds o} ho=>xP c0 ho fun v st e=>?_) (fun g ho=>BB c1 ho (.gK (.bc _) (.bN (a7 (fun l=>dN.mk _ l _ _) g) (Ca nt))))
 ·subst e
  refine .dE (.bc _) y0 (JZ cb) (q':=cE (r.ay.fR.eD (cS v)) r'.t (p+2)) ?_ ?_
  ·show NP _ (cE (r.ay.fR.eD (cS v)) r'.t (p+1)) _
   cases r.ay.fR.eD (cS v)
   ·exact .qb y1
   ·exact .bc _
  ·show AR p 2 _ _ ⟨cE (r.ay.fR.eD (cS v)) r'.t (p+2),st,kd,ds⟩
   (rewrite [tk];refine aq ct ?_)
   cases r.ay.eD (cS v)
   ·exact BA ag
   ·exact .bN ag (t7 p 2)
 ·refine aw fun kz=>?_
  obtain ⟨a,b,c,d⟩:=ht z
  refine kz ?_;try clear kz
  have T:=Ty.cq _ _ z e0
  exact adt T cb a b (show h r'.t+1=h p by refine aq d ?_;exact b) T.cM
 ·refine aw fun kz=>?_
  obtain ⟨a,b,c,d⟩:=ht z
  refine kz ?_;try clear kz
  exact pG (c.trans b.symm)
def UG(Ty:dG X h)(ok:fq X aE)(e0:X.aa[p]? =ac (ac r))(e1:X.aa[p+1]? =ac (ac r'))(c0:r.ay=.dh)(c1:r'.ay.aV=ak)(no:o8 X (p+1)):
  wM X (X.e8 p au (if r'.ay.eD (cS r.a) then ac (.bk .bp r'.t r'.eZ) else au)) aE:=by
 have nt:=no.jmp _ _ e1 (vw c1)
 have aj:bb X (p+1)→bb X r'.t:=fun z=>.bp z e1 (vw c1)
 have ht:∀z:bb X p,bb X (p+1)∧h (p+2)=h p∧h r'.t=h p:=fun z=>by
  have z1:bb X (p+1):=.d7 z e0 (by refine aq c0 ?_;rfl)
  have t0:h (p+1)=h p+1:=rC (P:=fun op=>op.c3=aF→h (p+1)+op.bO=h p+op.fW) c0 (Ty.cq _ _ z e0).d7 ag
  refine aw fun kz=>?_
  obtain ⟨a,b,c⟩:=(Ty.cq _ _ z1 e1).br c1
  refine kz ?_;try clear kz
  exact ⟨z1,pG (b.trans t0),pG (c.trans t0)⟩
 have body:∀b,(r'.ay.eD (cS r.a)=ak→b=ac (.bk .bp r'.t r'.eZ))→(r'.ay.eD (cS r.a)=aF→b=au)→wM X (X.e8 p au b) aE:=fun b b1 b2=>by
  have y0:=rV (X:=X) au b (hH e0)
  have y1:=rW (X:=X) au b (hH e1)
  have ob:∀r,b=ac r→r.bm aE=ak:=fun cf z=>by
   cases q:r'.ay.eD (cS r.a) with
   |true=>rw [b1 q] at z;exact cp z▸ag
   |false=>rw [b2 q] at z;exact bn z
  refine ed2 Ty ok e0 e1 no mF ob (h1:=h p) (q:=p+1) (G:=fun sk st=>sk=r.a::st) (fun z=>.nS y0 (ht z).1 ((kX ..).trans (lS _ _ (vt p)).symm)) (fun z z1=>?_) (fun ho=>Tv c0 ho (.gK (.qb y0) (BA ag))) (fun {bB sk st kd ds o} g ho=>xP c1 ho fun v Tk e=>?_)
  ·refine aw fun kz=>?_
   obtain ⟨_,t1,t2⟩:=ht z
   refine kz ?_;try clear kz
   cases q:r'.ay.eD (cS r.a) with
   |true=>
    obtain rfl:=b1 q
    refine .cq _ y1 ⟨⟨fC _,(fun z=>cG z),fun q9=>?_,fun c hc k=>(lS _ _ (no.ct c hc)).trans ((Ty.cq _ _ z1 e1).cM c hc k),(fun z=>nomatch z)⟩,(fun z=>cG z),fun q9=>aj z1,fun q9=>.cM z1 e1⟩
    exact ((lS _ _ nt).trans t2).trans (kX ..).symm
   |false=>
    obtain rfl:=b2 q
    exact .nS y1 (.d7 z1 e1 (Pg c1)) ((lS _ _ (vt _).symm).trans (t1.trans (kX ..).symm))
  ·subst g
   cases e
   cases q:r'.ay.eD (cS r.a) with
   |true=>
    obtain rfl:=b1 q
    exact .dE (b:=⟨r'.t,st,kd,ds⟩) (.bc _) y1 ag (.bc _) (.bN ag (Ca nt))
   |false=>
    obtain rfl:=b2 q
    exact .gK (.qb y1) (.bN ag (t7 p 2))
 split
 ·rename_i q;exact body _ (fun q9=>ag) fun z=>cG (z.symm.trans q)
 ·rename_i q;exact body _ (fun z=>bW z q) fun q9=>ag
end
section
variable{X:Nc}{p:af}{r r' oW:R}{aE:av}{h:af→af}
def abH{P:Op→Prop}{op Xo:Op}(c:Xo=op)(h:P op):P Xo:=c▸h
inductive G2(p t tt:af)(a:am):af→af→ao am→ao am→Prop
 |py {st:ao am}:G2 p t tt a (p+1) (p+1) (a::st) st
 |Fc {st:ao am}:G2 p t tt a t tt (a::st) st
def Pi{rl:R}(Ty:dG X h)(ok:fq X aE)(e0:X.aa[p]? =ac (ac r))(e1:X.aa[p+1]? =ac (ac r'))(el:X.aa[r'.t]? =ac (ac rl))(c0:r.ay=.dh)(c1:r'.ay=.bp)(cl:rl.ay.aV=ak)(no:o8 X (p+1)):
  wM X (X.e8 p au (ac {r' with t:=if rl.ay.eD (cS r.a) then rl.t else r'.t+1})) aE:=by
 have j1:r'.ay.aO=ak:=by refine aq c1 ?_;rfl
 have ba:∀tt,tt=(if rl.ay.eD (cS r.a) then rl.t else r'.t+1)→(bb X p→bb X (p+1)∧bb X tt∧h tt=h p)∧tt≠p+1:=fun tt e=>by
  refine ⟨fun z=>?_,?_⟩
  ·have z1:bb X (p+1):=.d7 z e0 (by refine aq c0 ?_;rfl)
   have z2:bb X r'.t:=.bp z1 e1 j1
   have t0:h (p+1)=h p+1:=rC (P:=fun op=>op.c3=aF→h (p+1)+op.bO=h p+op.fW) c0 (Ty.cq _ _ z e0).d7 ag
   have t1:h r'.t=h (p+1):=rC (P:=fun op=>op.aO=ak→h r'.t+op.bO=h (p+1)+op.fW) c1 (Ty.cq _ _ z1 e1).bp ag
   refine aw fun kz=>?_
   obtain ⟨_,b,c⟩:=(Ty.cq _ _ z2 el).br cl
   refine kz ?_;try clear kz
   refine aq e ?_
   split
   ·exact ⟨z1,.bp z2 el (vw cl),pG (c.trans (t1.trans t0))⟩
   ·exact ⟨z1,.d7 z2 el (Pg cl),pG (b.trans (t1.trans t0))⟩
  ·refine aq e ?_
   split
   ·exact no.jmp _ _ el (vw cl)
   ·intro z
    rw [pG z,e0] at el
    cases el
    rw [c0] at cl
    exact cG cl
 have tv:cE (rl.ay.eD (cS r.a)) rl.t (r'.t+1)=if rl.ay.eD (cS r.a) then rl.t else r'.t+1:=by cases rl.ay.eD (cS r.a)<;>rfl
 generalize (if rl.ay.eD (cS r.a) then rl.t else r'.t+1)=tt at ba tv⊢
 obtain ⟨ht,nt⟩:=ba tt ag
 have y0:=rV (X:=X) au (ac {r' with t:=tt}) (hH e0)
 have y1:=rW (X:=X) au (ac {r' with t:=tt}) (hH e1)
 have ro:({r' with t:=tt}:R).bm aE=ak:=(show r'.bm aE=ak from ok _ _ e1)
 have wX:=Tt (a:=au) (b:=ac {r' with t:=tt}) (h1:=h p) Ty no (fun z=>.nS y0 (ht z).1 ((kX ..).trans (lS _ _ (vt p)).symm)) fun z z1=>.cq _ y1 ⟨⟨abH (P:=fun op=>op.bO≤_) c1 (fC _),fun q=>?_,fun q9=>?_,fun c hc k=>(lS _ _ (no.ct c hc)).trans ((Ty.cq _ _ z1 e1).cM c hc k),fun q=>?_⟩,fun q=>?_,fun q9=>(ht z).2.1,fun q9=>.cM z1 e1⟩
 ·refine edG (B8 au (ac {r' with t:=tt}) no) wX (Gw ok mF (xl ro)) e0 (G:=G2 p r'.t tt r.a) (fun ho=>Tv c0 ho (.gK (.qb y0) (.oR (.mk .py)))) fun {bB m q sk st kd ds} g=>?_
  cases g with
  |py=>exact ⟨r',e1,fun ho=>BB c1 ho (.dE (b:=⟨tt,st,kd,ds⟩) (.bc _) y1 (by
    refine aw fun kz=>?_
    obtain ⟨op,t,a,b,c',l⟩:=r'
    obtain rfl:op=.bp:=c1
    refine kz ?_;try clear kz
    rfl) (.bc _) (.oR (.mk .Fc)))⟩
  |Fc=>exact ⟨rl,el,fun ho=>xP cl ho fun v Tk e=>by
    cases e
    exact .gK (.bc _) (.bN (a7 (fun t=>dN.mk t _ _ _) tv) (tv▸Ca nt))⟩
 ·rw [c1] at q;exact cG q
 ·refine abH (P:=fun op=>v2 h (p+1) (h p) tt+op.bO=v2 h (p+1) (h p) (p+1)+op.fW) c1 ?_
  (rewrite [kX];refine aq (lS _ _ nt) ?_)
  exact (ht z).2.2
 ·rw [c1] at q;cases q
 ·rw [c1] at q;exact cG q
inductive G3(p:af):af→af→ao am→ao am→Prop
 |py {v:am} {st:ao am}:G3 p (p+1) (p+1) (v::v::st) (v::st)
 |Fc {v:am} {st:ao am}:G3 p (p+2) (p+3) (v::st) st
structure XC(op:Op):Prop where
 e:op.c3=aF
 j:op.aO=aF
 p:op.fW=0
 t:op.bO=1
 f:op≠ .gY ()
def IL{op:Op}(c:op.fU=ak):XC op:=B9 c ⟨ag,ag,ag,ag,fun z=>nomatch z⟩ ⟨ag,ag,ag,ag,fun z=>nomatch z⟩ ⟨ag,ag,ag,ag,fun z=>nomatch z⟩ ⟨ag,ag,ag,ag,fun z=>nomatch z⟩
def Pj(Ty:dG X h)(ok:fq X aE)(e0:X.aa[p]? =ac (ac r))(e1:X.aa[p+1]? =ac (ac r'))(e2:X.aa[p+2]? =ac (ac oW))(c0:r.ay=.mD)(c1:r'.ay.fU=ak)(c2:oW.ay=.g6)(no:o8 X (p+1))(no2:o8 X (p+2)):
  wM X (X.wN p au (ac r') au) aE:=by
 have y0:=Fb (X:=X) au (ac r') au (hH e0)
 have y1:=Tq (X:=X) au (ac r') au (hH e1)
 have y2:=Tr (X:=X) au (ac r') au (hH e2)
 have s:=IL c1
 have ht:bb X p→(bb X (p+1)∧bb X (p+2)∧bb X (p+3))∧h (p+3)+1=h p:=fun z=>by
  have a1:bb X (p+1):=.d7 z e0 (by refine aq c0 ?_;rfl)
  have a2:bb X (p+2):=.d7 a1 e1 s.e
  have t0:h (p+1)+1=h p+2:=rC (P:=fun op=>op.c3=aF→h (p+1)+op.bO=h p+op.fW) c0 (Ty.cq _ _ z e0).d7 ag
  have t1:=(Ty.cq _ _ a1 e1).d7 s.e
  rw [s.p,s.t] at t1
  have t2:h (p+3)+1=h (p+2):=rC (P:=fun op=>op.c3=aF→h (p+3)+op.bO=h (p+2)+op.fW) c2 (Ty.cq _ _ a2 e2).d7 ag
  exact ⟨⟨a1,a2,.d7 a2 e2 (by refine aq c2 ?_;rfl)⟩,t2.trans (pG (pG ((a7 tr t1).trans t0)))⟩
 have n12:p+1≠p+2:=vt _
 have u:∀{q:af},q≠p+1→q≠p+2→v2 (v2 h (p+1) (h p)) (p+2) (h (p+3)) q=h q:=fun a b=>(lS _ _ b).trans (lS _ _ a)
 have u1:v2 (v2 h (p+1) (h p)) (p+2) (h (p+3)) (p+1)=h p:=(lS _ _ n12).trans (kX ..)
 have u2:v2 (v2 h (p+1) (h p)) (p+2) (h (p+3)) (p+2)=h (p+3):=kX ..
 have W:=UE au (ac r') au no no2
 have wX:=W.ie Ty (h':=v2 (v2 h (p+1) (h p)) (p+2) (h (p+3))) (fun q hq=>u (fun z=>hq (z▸⟨je p,uD (je _)⟩)) fun z=>hq (z▸⟨uD (je p),je _⟩)) fun q l1 l2=>IJ (P:=fun q=>bb X q→zx X (X.wN p au (ac r') au) (v2 (v2 h (p+1) (h p)) (p+2) (h (p+3))) q) l1 l2
  (fun z=>.nS y0 (ht z).1.1 (u1.trans (u (vt p) (W8 p)).symm)) (fun z1=>?_) fun z2=>.nS y2 (ht (no.Mw (no2.Mw z2))).1.2.2 ((u (W8 _).symm (vt _).symm).trans u2.symm)
 ·refine edG W wX (xk (Gw ok mF (xl (ok _ _ e1))) mF) e0 (G:=G3 p) (fun ho=>abG c0 ho fun v st e=>by
   subst e
   exact .gK (.qb y0) (.oR (.mk .py))) fun {bB m q sk st kd ds} g=>?_
  induction g with
  |py=>exact ⟨r',e1,fun ho=>adu (q':=p+1) ho c1 fun E7 ds' k=>.dE (.bc _) y1 (k _) (.qb y2) (.oR (.mk .Fc))⟩
  |Fc=>exact ⟨oW,e2,fun ho=>Tu c2 ho fun v Tk e=>by
    cases e
    exact .gK (.bc _) (.bN ag (t7 p 3))⟩
 ·refine aw fun kz=>?_
  obtain ⟨⟨_,a2,_⟩,k⟩:=ht (no.Mw z1)
  refine kz ?_;try clear kz
  refine .cq _ y1 ⟨⟨?_,fun q9=>?_,fun q=>bW (s.j.symm.trans q) mI,fun c hc k=>(u (no.ct c hc) (no2.ct c hc)).trans ((Ty.cq _ _ z1 e1).cM c hc k),fun q=>bW q s.f⟩,fun q9=>a2,fun q=>bW (s.j.symm.trans q) mI,fun q9=>.cM z1 e1⟩
  ·(refine aq u1 ?_;refine aq s.t ?_;refine iu k ?_);exact jG (fC _)
  ·(refine aq u1 ?_;refine aq s.t ?_;refine aq s.p ?_)
   exact (a7 (· +1) u2).trans k
def ki(r:R):aM R:=if r.ay.aV then ac (.bk .g6 0 r.eZ) else au
def XD(c:r.ay.aV=ak):ki r=ac (.bk .g6 0 r.eZ):=bD c
def XE(c:r.ay.aV=aF):ki r=au:=cL (by refine aq c ?_;exact mI)
def adv{cs:ao Ct}{bB:av}{q:af}{sk:ao am}{kd:Kd}{ds:ao am}{o:cF (ao am) dN}{P:cF (ao am) dN→Prop}(c:r.ay.aO=ak)(b:r.ay.aV=aF)(ct:r.t=p+1)(h:eM cs bB p r ⟨q,sk,kd,ds⟩=ac o)(k:P (.inr ⟨p+1,sk,kd,ds⟩)):P o:=by
 refine aw fun kz=>?_
 obtain ⟨op,t,a,b',c',l⟩:=r
 obtain rfl:t=p+1:=ct
 refine kz ?_;try clear kz
 refine SL (P:=fun op=>op.aV=aF→eM cs bB p ⟨op,p+1,a,b',c',l⟩ ⟨q,sk,kd,ds⟩=ac o→P o) c (fun z=>cG z) (fun z=>cG z) (fun q9 h=>?_) (fun q9 h=>c5 h k) b h
 refine SK (f:=fun v st=>v::st) (b:=c8) h fun v st e=>?_
 refine iu e ?_
 cases c8 v<;>exact k
def UH(Ty:dG X h)(ok:fq X aE)(e0:X.aa[p]? =ac (ac r))(c0:r.ay.aO=ak)(ct:r.t=p+1):wM X (X.ui p (ki r)) aE:=by
 have y0:=Bz (X:=X) (ki r) (hH e0)
 have W:=UD (X:=X) (p:=p) (ki r)
 have rn:bb X p→bb X (p+1):=fun z=>ct▸ .bp z e0 c0
 cases cb:r.ay.aV with
 |true=>
  rw [XD cb] at y0 W⊢
  have wX:=W.ie Ty (h':=h) (fun q9 q9=>ag) fun q l1 l2=>wp l1 (uf l2)▸fun z=>.cq _ y0 (let ⟨a,b,_⟩:=(Ty.cq _ _ z e0).br cb;⟨⟨a,fun q9=>b,(fun z=>cG z),(Ty.cq _ _ z e0).cM,(fun z=>nomatch z)⟩,fun q9=>rn z,(fun z=>cG z),fun q9=>.cM z e0⟩)
  refine edG W wX (xk ok (xl ag)) e0 (G:=fun q9 q9 q9 q9=>dj) (fun ho=>xP cb ho fun v st e=>?_) fun g=>g.elim
  subst e
  refine .dE (.bc _) y0 ag (.bc _) (.bN ?_ ?_)
  ·refine aq ct ?_;cases r.ay.eD (cS v)<;>rfl
  ·refine aq ct ?_;cases r.ay.eD (cS v)<;>exact t7 p 1
 |false=>
  rw [XE cb] at y0 W⊢
  have wX:=W.ie Ty (h':=h) (fun q9 q9=>ag) fun q l1 l2=>wp l1 (uf l2)▸fun z=>.nS y0 (rn z) (by
   have T:=(Ty.cq _ _ z e0).bp c0
   rw [ct] at T
   exact SL (P:=fun op=>op.aV=aF→h (p+1)+op.bO=h p+op.fW→h (p+1)=h p) c0 (fun z=>cG z) (fun z=>cG z) (fun q9 T=>pG T) (fun q9 T=>T) cb T)
  exact edG W wX (xk ok mF) e0 (G:=fun q9 q9 q9 q9=>dj) (fun ho=>adv c0 cb ct ho (.gK (.qb y0) (.bN ag (t7 p 1)))) fun g=>g.elim
end
inductive n8(X:Nc):af→af→Prop
 |bc (a:af):n8 X a a
 |dE {a b:af} {r:R} (e:X.aa[a]? =ac (ac r)) (c:r.ay=.bp) (k:n8 X r.t b):n8 X a b
def n8.aX{X:Nc}{a b c:af}(h:n8 X a b)(k:n8 X b c):n8 X a c:=by
 induction h with
 |bc=>exact k
 |dE e c' _ ih=>exact .dE e c' (ih k)
inductive Thr(X:Nc)(r:R):R→Prop
 |kt (c:r.ay.aO=aF):Thr X r r
 |to {t:af} (c:r.ay.aO=ak) (k:n8 X r.t t):Thr X r {r with t:=t}
 |dY {e:af} {re:R} (c:r.ay=.bp) (k:n8 X r.t e) (he:X.aa[e]? =ac (ac re)) (hre:re.ay=.dY):Thr X r (.bk .dY 0 r.eZ)
inductive acG(X Y:Nc):dN→dN→Prop
 |py {a b:af} {sk ds:ao am} {kd:Kd} (k:n8 X a b):acG X Y ⟨a,sk,kd,ds⟩ ⟨b,sk,kd,ds⟩
 |Fc {a b e:af} {sk ds:ao am} {kd:Kd} {r2 re:R} (y:Y.aa[b]? =ac (ac r2)) (y2:r2.ay=.dY) (k:n8 X a e) (x:X.aa[e]? =ac (ac re)) (x2:re.ay=.dY):acG X Y ⟨a,sk,kd,ds⟩ ⟨b,sk,kd,ds⟩
section
variable{cs cs':ao Ct}{bB:av}{p p' q q' t:af}{r r2:R}{sk:ao am}{kd:Kd}{ds:ao am}{o:cF (ao am) dN}{P:cF (ao am) dN→Prop}
def XF(c:r.ay=.dY)(c2:r2.ay=.dY)(h:eM cs bB p r ⟨q,sk,kd,ds⟩=ac o)(k:∀d,eM cs' bB p' r2 ⟨q',sk,kd,ds⟩=ac (.inl d)→P (.inl d)):P o:=by
 refine aw fun kz=>?_
 obtain ⟨op,t,a,b,c',l⟩:=r
 obtain ⟨op2,t2,a2,b2,c2',l2⟩:=r2
 obtain rfl:op=.dY:=c
 obtain rfl:op2=.dY:=c2
 refine kz ?_;try clear kz
 exact ga h fun x hx=>fb hx fun v st e hx'=>ga (P:=fun x=>E6 bB ⟨.dY,t2,a2,b2,c2',l2⟩ sk kd=ac x→P (fJ cs p t sk kd ds x)) hx' (fun w q9 z=>k _ (a7 (qG (fJ cs' p' t2 sk kd ds)) z)) hx
def UI{x:qw}{P:qw→Prop}(c:r.ay.aO=ak)(h:E6 bB r sk kd=ac x)(k:∀st b,P (.bp st b)):P x:=by
 refine aw fun kz=>?_
 obtain ⟨op,t,a,b,c',l⟩:=r
 refine kz ?_;try clear kz
 exact SL (P:=fun op=>E6 bB ⟨op,t,a,b,c',l⟩ sk kd=ac x→P x) c (fun h=>fb h fun v st q9 h=>c5 h (k _ _)) (fun h=>fb h fun v st q9 h=>c5 h (k _ _)) (fun h=>fb h fun v st q9 h=>c5 h (k _ _)) (fun h=>c5 h (k _ _)) h
def adw(c:r.ay.aO=ak)(h:eM cs bB p r ⟨q,sk,kd,ds⟩=ac o)(k:∀b st,eM cs' bB p' {r with t:=t} ⟨q',sk,kd,ds⟩=ac (.inr ⟨cE b t (p'+1),st,kd,ds⟩)→P (.inr ⟨cE b r.t (p+1),st,kd,ds⟩)):P o:=
 ga h fun x hx=>UI (P:=fun x=>E6 bB r sk kd=ac x→P (fJ cs p r.t sk kd ds x)) c hx (fun st b z=>k b st (a7 (qG (fJ cs' p' t sk kd ds)) z)) hx
end
section
variable{X Y:Nc}{aE:av}{h:af→af}
def n8.pK(Ty:dG X h){a b:af}(k:n8 X a b)(z:bb X a):bb X b∧h b=h a:=by
 induction k with
 |bc=>exact ⟨z,ag⟩
 |@dE a b r e c _ ih=>
  obtain ⟨h1,h2⟩:=ih (.bp z e (by refine aq c ?_;rfl))
  exact ⟨h1,h2.trans (rC (P:=fun op=>op.aO=ak→h r.t+op.bO=h a+op.fW) c (Ty.cq _ _ z e).bp ag)⟩
def Dy.eu{p:af}{r:R}(hc:Y.gy=X.gy)(T:Dy X h p r):Dy Y h p r:=⟨T.bO,T.d7,T.bp,hc▸T.cM,hc▸T.gY⟩
def Pk(Ty:dG X h)(ok:fq X aE)(hl:Y.aa.length=X.aa.length)(hc:Y.gy=X.gy)(IH:Y.aZ=X.aZ)(nn:∀q:af,X.aa[q]? ≠ac au)(hr:∀(q:af)(r:R),X.aa[q]? =ac (ac r)→∃r2,Y.aa[q]? =ac (ac r2)∧Thr X r r2):dG Y h∧fq Y aE∧fK X Y:=by
 have AS:∀{q:af}{o:aM R}{P:Prop},Y.aa[q]? =ac o→(∀r r2,o=ac r2→X.aa[q]? =ac (ac r)→Thr X r r2→P)→P:=fun {q o P} e k=>by
  cases z:X.aa[q]? with
  |none=>exact bW (hl▸hH e) (lw.mpr (Z4.mp z))
  |some o'=>induction o' with
   |none=>exact bW z (nn q)
   |some r=>
    refine aw fun kz=>?_
    obtain ⟨r3,h3,h4⟩:=hr q r z
    refine kz ?_;try clear kz
    exact k r r3 (cp (e.symm.trans h3)) z h4
 have RS:∀{q:af},bb Y q→bb X q:=fun {q:af} (hq:bb Y q)=>by
  induction hq with
  |cR hp=>exact .cR (IH▸hp)
  |nS _ e ih=>exact AS e fun q9 q9 z=>bn z
  |d7 _ e k ih=>
   refine AS e fun r r2 z x tt=>?_
   obtain rfl:=cp z
   induction tt with
   |dY=>exact cG k
   |_=>exact .d7 ih x k
  |bp _ e k ih=>
   refine AS e fun r r2 z x tt=>?_
   obtain rfl:=cp z
   induction tt with
   |kt c=>exact bW (c.symm.trans k) mI
   |to c kk=>exact (kk.pK Ty (.bp ih x c)).1
   |dY=>exact cG k
  |cM _ e Xp k ih=>exact AS e fun r r2 z x t=>.cM ih x (hc▸Xp) k
 have wX:dG Y h:=⟨fun p hp=>Ty.cR p (IH▸hp),fun p hp=>hl▸Ty.mW p (RS hp),fun p hp e=>AS e (fun q9 q9 z=>bn z),fun p r2 hp e=>AS e fun r q9 z x t=>by
  obtain rfl:=cp z
  have T:=(Ty.cq p r (RS hp) x).eu hc
  induction t with
  |kt c=>exact T
  |to c k=>exact ⟨T.bO,T.d7,fun q=>(a7 (· +r.ay.bO) (k.pK Ty (.bp (RS hp) x c)).2).trans (T.bp c),T.cM,T.gY⟩
  |dY c k he hre=>
   have g:=k.pK Ty (.bp (RS hp) x (by refine aq c ?_;rfl))
   have q:h _=h p:=g.2.trans (rC (P:=fun op=>op.aO=ak→h r.t+op.bO=h p+op.fW) c T.bp ag)
   exact ⟨q▸rC (P:=fun op=>op.bO≤h _) hre (Ty.cq _ _ g.1 he).bO,(fun z=>cG z),(fun z=>cG z),T.cM,(fun z=>nomatch z)⟩⟩
 have tJ:fq Y aE:=fun q r2 e=>AS e fun r q9 z x t=>by
  obtain rfl:=cp z
  induction t with
  |dY=>rfl
  |kt=>exact ok q _ x
  |to=>exact (show r.bm aE=ak from ok q r x)
 refine ⟨wX,tJ,rh (Rl:=fun q9=>acG X Y) IH wX tJ (fun bB=>⟨fun h=>?_,fun q9 e=>bW e (nn _),fun {s1 s2 r o} hR er ho=>?_⟩) fun bB p kd hp hk=>.py (.bc _)⟩
 ·induction h<;>rfl
 ·induction hR with
  |py k=>induction k with
   |dE e c k=>
    rw [er] at e;cases e
    exact BB c ho (.gK (.bc _) (.py k))
   |bc=>
    refine aw fun kz=>?_
    obtain ⟨r2,h1,h2⟩:=hr _ r er
    refine kz ?_;try clear kz
    induction h2 with
    |kt c=>induction o with
     |inl d=>exact .hZ (.bc _) h1 (hc.symm▸ho)
     |inr s=>obtain ⟨_,_,_,_⟩:=s;exact .dE (.bc _) h1 (hc.symm▸ho) (.bc _) (.py (.bc _))
    |to c k=>exact adw c ho fun b st e=>.dE (.bc _) h1 e (.bc _) (.py (by induction b;exact .bc _;exact k))
    |dY c k he hre=>exact BB c ho (.gK (.bc _) (.Fc h1 ag k he hre))
  |Fc y y2 k x x2=>induction k with
   |dE e c k=>
    rw [er] at e;cases e
    exact BB c ho (.gK (.bc _) (.Fc y y2 k x x2))
   |bc=>
    rw [er] at x;cases x
    exact XF x2 y2 ho fun d hd=>.hZ (.bc _) y hd
def XG(Ty:dG X h)(ok:fq X aE)(hl:Y.aa.length=X.aa.length)(hc:Y.gy=X.gy)(IH:Y.aZ=X.aZ)(hk:∀q:af,bb X q→Y.aa[q]? =X.aa[q]?)(hd:∀q:af,¬bb X q→∀r,Y.aa[q]? ≠ac (ac r)):dG Y h∧fq Y aE∧fK X Y∧(∀q,bb Y q↔bb X q):=by
 have RS:∀q,bb Y q→bb X q:=fun q hq=>by
  induction hq with
  |cR hp=>exact .cR (IH▸hp)
  |nS _ e ih=>exact .nS ih (hk _ ih▸e)
  |d7 _ e k ih=>exact .d7 ih (hk _ ih▸e) k
  |bp _ e k ih=>exact .bp ih (hk _ ih▸e) k
  |cM _ e Xp k ih=>exact .cM ih (hk _ ih▸e) (hc▸Xp) k
 have SR:∀q,bb X q→bb Y q:=fun q hq=>by
  induction hq with
  |cR hp=>exact .cR (IH▸hp)
  |nS hp e ih=>exact .nS ih ((hk _ hp).trans e)
  |d7 hp e k ih=>exact .d7 ih ((hk _ hp).trans e) k
  |bp hp e k ih=>exact .bp ih ((hk _ hp).trans e) k
  |cM hp e Xp k ih=>exact .cM ih ((hk _ hp).trans e) (hc▸Xp) k
 have wX:dG Y h:=⟨fun p hp=>Ty.cR p (IH▸hp),fun p hp=>hl▸Ty.mW p (RS p hp),fun p hp e=>Ty.nS p (RS p hp) (hk _ (RS p hp)▸e),fun p r hp e=>(Ty.cq p r (RS p hp) (hk _ (RS p hp)▸e)).eu hc⟩
 have tJ:fq Y aE:=fun q r e=>(aa8 (bb X q)).elim (fun z=>ok q r (hk q z▸e)) fun z=>bW e (hd q z r)
 refine ⟨wX,tJ,rh (Rl:=fun q9 s1 s2=>s1=s2∧bb X s1.pc) IH wX tJ (fun bB=>⟨fun h=>h.1▸ag,fun {s1 s2} hR e=>⟨_,.qb (hR.1▸(hk _ hR.2).trans e),hR.1▸ag,.nS hR.2 e⟩,fun {s1 s2 r o} hR er ho=>?_⟩) fun bB p kd hp hk=>⟨ag,.cR hp⟩,fun q=>⟨RS q,SR q⟩⟩
 refine aw fun kz=>?_
 obtain ⟨rfl,z⟩:=hR
 refine kz ?_;try clear kz
 induction o with
 |inl d=>exact .hZ (.bc _) ((hk _ z).trans er) (hc.symm▸ho)
 |inr s=>exact .dE (.bc _) ((hk _ z).trans er) (hc.symm▸ho) (.bc _) ⟨ag,Nf z er ho⟩
end
noncomputable def bY(aa:ao (aM R))(p:af):af:=((aa.take p).filterMap id).length
def R.jZ(f:af→af)(r:R):R:=if r.ay.aO then {r with t:=f r.t} else r
noncomputable def Ct.fL(f:af→af)(c:Ct):aM Ct:=if f c.dm<f c.gx then ac {c with dm:=f c.dm,gx:=f c.gx,bC:=f c.bC} else au
def Nc.fL(X:Nc):Nc:=⟨((X.aa.filterMap id).map (R.jZ (bY X.aa))).map ac,X.gy.filterMap (Ct.fL (bY X.aa)),X.aZ.map (bY X.aa)⟩
def abI{aa:ao (aM R)}{p:af}{o:aM R}(h:aa[p]? =ac o):bY aa (p+1)=bY aa p+(o.elim 0 fun q9=>1):=by
 unfold bY
 (refine aq uG ?_;refine aq h ?_;refine aq RA ?_;refine aq dg ?_)
 induction o<;>rfl
def Gx{aa:ao (aM R)}{p:af}(h:aa[p]? =ac au):bY aa (p+1)=bY aa p:=abI h
def su{aa:ao (aM R)}{p:af}{r:R}(h:aa[p]? =ac (ac r)):bY aa (p+1)=bY aa p+1:=abI h
def agp{aa:ao (aM R)}{p q:af}(h:NP aa p q):bY aa p=bY aa q:=by
 induction h with
 |bc=>rfl
 |dE e _ ih=>exact (Gx e).symm.trans ih
def AT(aa:ao (aM R)){p q:af}(h:p≤q):bY aa p≤bY aa q:=by
 obtain ⟨t,ht⟩:aa.take p <+: aa.take q:=List.take_prefix_take_left h
 unfold bY
 (refine iu ht ?_;refine aq RA ?_;refine aq dg ?_)
 exact ff _ _
def adx{aa:ao (aM R)}:∀{p:af}{r:R},aa[p]? =ac (ac r)→(aa.filterMap id)[bY aa p]? =ac r:=by
 induction aa with
 |nil=>exact fun h=>bn h
 |cons o l ih=>
  intro p r h
  induction p with
  |zero=>
   obtain rfl:o=ac r:=cp h
   rfl
  |succ p=>induction o<;>exact ih (p:=p) h
def abJ{aa:ao (aM R)}:∀{i:af}{r:R},(aa.filterMap id)[i]? =ac r→∃p,aa[p]? =ac (ac r)∧bY aa p=i:=by
 induction aa with
 |nil=>exact fun h=>bn h
 |cons o l ih=>
  intro i r h
  induction o with
  |none=>exact (ih h).elim fun p k=>⟨p+1,k⟩
  |some r'=>induction i with
   |zero=>exact ⟨0,a7 ac h,ag⟩
   |succ i=>exact (ih (i:=i) h).elim fun p k=>⟨p+1,k.1,a7 tr k.2⟩
def Mx{aa:ao (aM R)}{p q:af}{r:R}(h:aa[p]? =ac (ac r))(k:p<q):bY aa p<bY aa q:=iN (su h▸je _:bY aa p<bY aa (p+1)) (AT aa k)
def ady{aa:ao (aM R)}{p q:af}{r r':R}(h:aa[p]? =ac (ac r))(k:aa[q]? =ac (ac r'))(e:bY aa p=bY aa q):p=q:=
 wp (vh fun z=>nv (Mx k z) e.symm) (vh fun z=>nv (Mx h z) e)
def zy{aa:ao (aM R)}{p q:af}{r:R}(h:aa[p]? =ac (ac r)):bY aa q≤bY aa p↔q≤p:=⟨fun e=>vh fun z=>lw.mpr e (Mx h z),AT aa⟩
def Pl{aa:ao (aM R)}{p q:af}{r:R}(h:aa[p]? =ac (ac r)):bY aa p<bY aa q↔p<q:=by
 rw [← Nat.not_le,← Nat.not_le,zy h]
section
variable{X:Nc}{aE:av}{h:af→af}
def IM(i:af):X.fL.aa[i]? =((X.aa.filterMap id)[i]?).map fun r=>ac (r.jZ (bY X.aa)):=by
 show (((X.aa.filterMap id).map (R.jZ (bY X.aa))).map ac)[i]? =_
 (refine aq oM ?_;rw [j9]);rfl
def jL{p:af}{r:R}(e:X.aa[p]? =ac (ac r)):X.fL.aa[bY X.aa p]? =ac (ac (r.jZ (bY X.aa))):=by (rewrite [IM];refine aq (adx e) ?_);rfl
def vx{i:af}{o:aM R}(e:X.fL.aa[i]? =ac o):∃p r,X.aa[p]? =ac (ac r)∧bY X.aa p=i∧o=ac (r.jZ (bY X.aa)):=by
 rw [IM] at e
 exact ga (P:=fun o=>∃p r,X.aa[p]? =ac (ac r)∧bY X.aa p=i∧o=ac (r.jZ (bY X.aa))) e fun r h=>have ⟨p,h1,h2⟩:=abJ h;⟨p,r,h1,h2,ag⟩
def CM(i:af):X.fL.aa[i]? ≠ac au:=fun e=>by
 obtain ⟨p,r,_,_,z⟩:=vx e
 exact bn z
def jM(f:af→af)(r:R):(r.jZ f).ay=r.ay:=by unfold R.jZ;split<;>rfl
def XH(f:af→af)(r:R)(b:av):(r.jZ f).bm b=r.bm b:=by unfold R.jZ;split<;>rfl
def v3(f:af→af){r:R}(c:r.ay.aO=ak):(r.jZ f).t=f r.t:=by unfold R.jZ;(refine aq (bD c) ?_;rfl)
def UJ(bB:av)(f:af→af)(r:R)(cn:ao am)(kd:Kd):E6 bB (r.jZ f) cn kd=E6 bB r cn kd:=by unfold R.jZ;split<;>rfl
noncomputable def Ct.My(f:af→af)(c:Ct):Ct:={c with dm:=f c.dm,gx:=f c.gx,bC:=f c.bC}
def Oh{f:af→af}{c c':Ct}(h:c.fL f=ac c'):c'=c.My f:=by
 unfold Ct.fL at h
 split at h
 ·exact (cp h).symm
 ·exact bn h
def u0{p:af}{r:R}(e:X.aa[p]? =ac (ac r))(c:Ct):(c.My (bY X.aa)).bU (bY X.aa p)=c.bU p:=by
 show (dc (bY X.aa c.dm≤bY X.aa p)&&dc (bY X.aa p<bY X.aa c.gx))=(dc (c.dm≤p)&&dc (p<c.gx))
 rw [wq.mpr (zy e),wq.mpr (Pl e)]
def yL{p:af}{r:R}{c c':Ct}(e:X.aa[p]? =ac (ac r))(hc:c.fL (bY X.aa)=ac c'):c'.bU (bY X.aa p)=c.bU p:=Oh hc▸u0 e c
def CN{p:af}{r:R}{c:Ct}(e:X.aa[p]? =ac (ac r))(hc:c.bU p=ak):c.fL (bY X.aa)=ac (c.My (bY X.aa)):=
 d8 hc fun h1 h2=>bD (ni ((zy e).mpr (eX h1)) (Mx e (eX h2)))
def Nh{p:af}{r:R}(e:X.aa[p]? =ac (ac r)):∀(l:ao Ct),(l.filterMap (Ct.fL (bY X.aa))).find? (·.bU (bY X.aa p))=(l.find? (·.bU p)).map (Ct.My (bY X.aa)):=by
 intro l
 induction l with
 |nil=>
  exact ag
 |cons c l ih=>
  (refine aq He ?_;rw [ym])
  cases hc:c.bU p with
  |true=>(refine aq (CN e hc) ?_;rewrite [ym,u0 e];refine aq hc ?_);rfl
  |false=>
   refine iu (ih) ?_
   cases hp:c.fL (bY X.aa) with
   |none=>rfl
   |some c'=>(rewrite [ym];refine aq (yL e hp) ?_;refine aq hc ?_;rfl)
def zz{p:af}{r:R}{c:Ct}{P:Prop}(e:X.aa[p]? =ac (ac r))(hc:c∈X.fL.gy)(hp:c.bU (bY X.aa p)=ak)(k:∀c',c'∈X.gy→c'.bU p=ak→c=c'.My (bY X.aa)→P):P:=by
 obtain ⟨c',h1,h2⟩:=LL.mp hc
 exact k c' h1 ((yL e h2).symm.trans hp) (Oh h2)
def Fd(Ty:dG X h){t:af}(z:bb X t):∃q r,X.aa[q]? =ac (ac r)∧bY X.aa q=bY X.aa t∧bb X q∧h q=h t:=by
 refine aw fun kz=>?_
 obtain ⟨q,r,h1,h2,h3⟩:=CL Ty _ (G7 _ t) z
 refine kz ?_;try clear kz
 exact ⟨q,r,h2,(agp h1).symm,h3⟩
open Classical in
def BC(X:Nc)(h:Nat→Nat)(i:Nat):Nat:=if e:∃p r,X.aa[p]? =some (some r)∧bY X.aa p=i then h e.choose else 0
def CQ{p:af}{r:R}(e:X.aa[p]? =ac (ac r)):BC X h (bY X.aa p)=h p:=by
 have ex:∃p' r',X.aa[p']? =ac (ac r')∧bY X.aa p'=bY X.aa p:=⟨p,r,e,ag⟩
 unfold BC
 refine aq (dif_pos ex) ?_
 obtain ⟨r',h1,h2⟩:=ex.choose_spec
 (refine aq (ady h1 e h2) ?_;rfl)
def pL(Ty:dG X h){t:af}(z:bb X t):BC X h (bY X.aa t)=h t:=by
 obtain ⟨q,r,h1,h2,h3,h4⟩:=Fd Ty z
 (refine iu h2 ?_;refine aq (CQ h1) ?_;refine aq h4 ?_;rfl)
def Ad(Ty:dG X h){i:af}(z:bb X.fL i):∃p r,X.aa[p]? =ac (ac r)∧bY X.aa p=i∧bb X p:=by
 have mk:∀{t j},bb X t→bY X.aa t=j→∃p r,X.aa[p]? =ac (ac r)∧bY X.aa p=j∧bb X p:=fun {t j} ht e=>
  have ⟨q,r,h1,h2,h3,_⟩:=Fd Ty ht
  ⟨q,r,h1,h2.trans e,h3⟩
 induction z with
 |cR hp=>
  refine aw fun kz=>?_
  obtain ⟨s,hs,e⟩:=iO.mp hp
  refine kz ?_;try clear kz
  exact mk (.cR hs) e
 |nS _ e _=>exact bW e (CM _)
 |d7 _ e k ih=>
  refine aw fun kz=>?_
  obtain ⟨p,r,h1,rfl,h3⟩:=ih
  refine kz ?_;try clear kz
  rw [jL h1] at e;cases e
  exact mk (.d7 h3 h1 (jM (bY X.aa) r▸k)) (su h1)
 |bp _ e k ih=>
  refine aw fun kz=>?_
  obtain ⟨p,r,h1,rfl,h3⟩:=ih
  refine kz ?_;try clear kz
  rw [jL h1] at e;cases e
  have k:=jM (bY X.aa) r▸k
  exact mk (.bp h3 h1 k) (v3 _ k).symm
 |cM _ e hc k ih=>
  refine aw fun kz=>?_
  obtain ⟨p,r,h1,rfl,h3⟩:=ih
  refine kz ?_;try clear kz
  exact zz h1 hc k fun c' m k e=>e▸mk (.cM h3 h1 m k) ag
def J0(Ty:dG X h){p:af}(z:bb X p):bb X.fL (bY X.aa p):=by
 induction z with
 |cR hp=>exact .cR (Hf hp)
 |nS _ e ih=>exact Gx e▸ih
 |@d7 p r _ e k ih=>exact su e▸ .d7 ih (jL e) ((a7 Op.c3 (jM _ r)).trans k)
 |@bp p r _ e k ih=>exact v3 (bY X.aa) k▸ .bp ih (jL e) ((a7 Op.aO (jM _ r)).trans k)
 |@cM p r c _ e hc k ih=>exact .cM (c:=c.My (bY X.aa)) ih (jL e) (LL.mpr ⟨c,hc,CN e k⟩) ((u0 e c).trans k)
noncomputable def Kw(f:af→af):cF (ao am) dN→cF (ao am) dN
 |.inl d=>.inl d
 |.inr s=>.inr {s with pc:=f s.pc}
def Ni{bB:av}{p:af}{r:R}{s:dN}{o:cF (ao am) dN}(e:X.aa[p]? =ac (ac r))(ho:eM X.gy bB p r s=ac o)(q:af):
  eM X.fL.gy bB (bY X.aa p) (r.jZ (bY X.aa)) {s with pc:=q}=ac (Kw (bY X.aa) o):=
 ga (P:=fun o=>eM X.fL.gy bB (bY X.aa p) (r.jZ (bY X.aa)) {s with pc:=q}=ac (Kw (bY X.aa) o)) ho fun x hx=>by
  show (E6 bB (r.jZ (bY X.aa)) s.cn s.fZ).map _=_
  (rewrite [UJ];refine aq hx ?_)
  refine a7 ac ?_
  have hk:=B4 hx
  induction x with
  |aS st kd d=>exact a7 (fun n=>Mo (dN.mk n st kd (Ms s.dO d))) (su e).symm
  |bp st b=>induction b with
   |true=>exact a7 (fun n=>Mo (dN.mk n st s.fZ s.dO)) (v3 _ hk.1)
   |false=>exact a7 (fun n=>Mo (dN.mk n st s.fZ s.dO)) (su e).symm
  |hZ d=>rfl
  |gY=>
   refine (a7 (Em s.dO s.cn s.fZ) (Nh e X.gy)).trans ?_
   show _=Kw _ (Em s.dO s.cn s.fZ (X.gy.find? (·.bU p)))
   cases X.gy.find? (·.bU p)<;>rfl
def J1(Ty:dG X h):dG X.fL (BC X h):=by
 refine ⟨fun p hp=>?_,fun i z=>?_,fun i q9 e=>bW e (CM i),fun i r' z e=>?_⟩
 ·refine aw fun kz=>?_
  obtain ⟨s,hs,rfl⟩:=iO.mp hp
  refine kz ?_;try clear kz
  exact (pL Ty (.cR hs)).trans (Ty.cR s hs)
 ·refine aw fun kz=>?_
  obtain ⟨p,r,h1,rfl,_⟩:=Ad Ty z
  refine kz ?_;try clear kz
  exact hH (jL h1)
 ·refine aw fun kz=>?_
  obtain ⟨p,r,h1,rfl,h3⟩:=Ad Ty z
  refine kz ?_;try clear kz
  rw [jL h1] at e;cases e
  have T:=Ty.cq p r h3 h1
  have h0:=CQ (h:=h) h1
  refine ⟨by (rewrite [jM];refine aq h0 ?_);exact T.bO,fun k=>?_,fun k=>?_,fun c hc k=>zz h1 hc k fun c' m k e=>?_,fun z c hc k=>zz h1 hc k fun c' m k e=>?_⟩
  ·rw [jM] at k⊢
   (refine iu (su h1) ?_;refine aq (pL Ty (.d7 h3 h1 k)) ?_;refine aq h0 ?_);exact T.d7 k
  ·rw [jM] at k⊢
   (refine aq (v3 _ k) ?_;refine aq (pL Ty (.bp h3 h1 k)) ?_;refine aq h0 ?_);exact T.bp k
  ·exact e▸(pL Ty (.cM h3 h1 m k)).trans (T.cM c' m k)
  ·rw [jM] at z
   exact h0▸e▸T.gY z c' m k
def Pm{bB:av}:Xn X X.fL bB fun s1 s2=>s2={s1 with pc:=bY X.aa s1.pc} where
 dO h:=by (refine aq h ?_;rfl)
 nS {s1 s2} h e:=⟨s2.pc,.bc _,by (refine aq h ?_;refine aq (Gx e) ?_;rfl)⟩
 cq {s1 s2 r o} h e ho:=by
  subst h
  have k:=Ni e ho (bY X.aa s1.pc)
  induction o with
  |inl d=>exact .hZ (.bc _) (jL e) k
  |inr s'=>exact .dE (.bc _) (jL e) k (.bc _) ag
def UK(Ty:dG X h)(ok:fq X aE):dG X.fL (BC X h)∧fq X.fL aE∧fK X X.fL:=by
 have wX:=J1 Ty
 have tJ:fq X.fL aE:=fun i r' e=>by
  obtain ⟨p,r,h1,_,z⟩:=vx e
  exact cp z▸(XH _ r aE).trans (ok p r h1)
 refine ⟨wX,tJ,(b9 ..).symm,fun i p q h1 h2 bB kd n x hk hx=>?_⟩
 obtain rfl:bY X.aa p=q:=cp ((show (X.aZ.map (bY X.aa))[i]? =ac (bY X.aa p) by (rewrite [j9];refine aq h1 ?_);rfl).symm.trans h2)
 have hm:bY X.aa p∈X.fL.aZ:=Hf (gM h1)
 exact Oe Pm n (c9 n) ag (fun k=>B7 wX tJ k ⟨.cR hm,(wX.cR _ hm).symm,(fun v hv=>bW hv hU),hk⟩) hx
end
structure Cd where
 aa:ao R
 aK:ao Ct
 aZ:ao af
noncomputable def Cd.nc(c:Cd):Nc:=⟨c.aa.map ac,c.aK,c.aZ⟩
def Cd.bQ(c:Cd)(p:af):av:=c.aa.any (fun r=>r.ay.aO&&r.t==p)||c.aK.any (fun k=>k.bC==p)||c.aZ.contains p
def Cd.bL(c:Cd)(aa:ao (aM R)):Cd:=⟨(aa.filterMap id).map (R.jZ (bY aa)),c.aK.filterMap (Ct.fL (bY aa)),c.aZ.map (bY aa)⟩
noncomputable def Cd.lT(c:Cd)(aa:ao (aM R)):Nc:=⟨aa,c.aK,c.aZ⟩
noncomputable abbrev aR:=ao (aM R)
noncomputable def e8(aa:aR)(p:af)(a b:aM R):aR:=(aa.set p a).set (p+1) b
noncomputable def wN(aa:aR)(p:af)(a b c:aM R):aR:=((aa.set p a).set (p+1) b).set (p+2) c
def lU(c:Cd)(aa:aR)(p:af)(f:R→R→aM aR):aR:=match aa[p]?.join,aa[p+1]?.join with
 |some r,ac r'=>if c.bQ (p+1) then aa else (f r r').getD aa
 |_,_=>aa
def ii(c:Cd)(aa:aR)(p:af):aR:=lU c aa p fun r r'=>if r.ay.kh&&r'.ay== .g6 then ac (e8 aa p au au) else au
def ij(c:Cd)(aa:aR)(p:af):aR:=lU c aa p fun r r'=>if r'.ay== .cA then (if r.ay== .cA then ac (e8 aa p au au) else if r.ay== .mD then ac (e8 aa p (ac r) au) else au) else au
def ik(c:Cd)(aa:aR)(p:af):aR:=lU c aa p fun r r'=>if r.ay.aV&&r'.ay== .bp&&r.t==p+2 then ac (e8 aa p (ac (.bk r.ay.fR r'.t r.eZ)) au) else au
def fy(c:Cd)(aa:aR)(p:af):aR:=lU c aa p fun r r'=>if r.ay== .dh then
 (if r'.ay.aV then ac (e8 aa p au (if r'.ay.eD (cS r.a) then ac (.bk .bp r'.t r'.eZ) else au))
  else if r'.ay== .bp then (match c.aa[r'.t]? with
   |some rl=>if rl.ay.aV then ac (e8 aa p au (ac {r' with t:=if rl.ay.eD (cS r.a) then rl.t else r'.t+1})) else au
   |none=>au) else au) else au
def gc(c:Cd)(aa:aR)(p:af):aR:=match aa[p]?.join,aa[p+1]?.join,aa[p+2]?.join with
 |some r,ac r',ac oW=>if r.ay== .mD&&r'.ay.fU&&oW.ay== .g6&& !c.bQ (p+1)&& !c.bQ (p+2) then wN aa p au (ac r') au else aa
 |_,_,_=>aa
noncomputable def cv(c:Cd)(step:Cd→aR→af→aR)(m:af):aR:=(gw m).foldl (step c) (c.aa.map ac)
def eQ(c:Cd):Cd:=c.bL (cv c ii (c.aa.length-1))
def gp(c:Cd):Cd:=c.bL (cv c ij (c.aa.length-1))
def fv(c:Cd):Cd:=c.bL (cv c ik (c.aa.length-1))
def fG(c:Cd):Cd:=c.bL (cv c fy (c.aa.length-1))
def fe(c:Cd):Cd:=c.bL (cv c gc (c.aa.length-2))
def dy(p:af)(r:R):aM R:=if r.ay.aO&&r.t==p+1 then ki r else ac r
def cV(c:Cd):Cd:=c.bL (c.aa.mapIdx dy)
def pM(aa:ao R)(place:af):af→af→af
 | 0,_=>place
 |k+1,f=>match aa[f]? with
  |some r=>if r.ay=.bp then pM aa place k r.t else f
  |none=>f
def pz(aa:ao R)(place:af):af:=pM aa place aa.length place
def io(aa:ao R)(p:af):av:=match aa[p]? with
 |some r=>r.ay== .dY
 |none=>aF
def cO(aa:ao R)(r:R):R:=if r.ay.aO then (if r.ay== .bp&&io aa (pz aa r.t) then .bk .dY 0 r.eZ else {r with t:=pz aa r.t}) else r
def dQ(c:Cd):Cd:=c.bL ((c.aa.map (cO c.aa)).map ac)
def g7{β:Type}{f:β→af→β}{P:af→β→Prop}{x:β}:∀{m:af},P 0 x→(∀i y,i<m→P i y→P (i+1) (f y i))→P m ((gw m).foldl f x):=by
 intro m
 induction m with
 |zero=>
  intro h _
  exact h
 |succ m ih=>
  intro h k
  (refine aq Aw ?_;refine aq yk ?_)
  exact k m _ (je m) (ih h fun i y hi=>k i y (uD hi))
def gN(c:Cd)(aE:av):Prop:=(∃h,dG c.nc h)∧(fq c.nc aE)
section
variable{c:Cd}{aE:av}(s0:gN c aE)
include s0
def gN.ie:∃h,dG c.nc h:=s0.1
def gN.bm:fq c.nc aE:=s0.2
end
def uk(c c':Cd)(aE:av):Prop:=gN c' aE∧fK c.nc c'.nc
section
variable{c:Cd}{aE:av}
def gQ(c:Cd)(aE:av)(i:af)(aa:aR):Prop:=(∃h,dG (c.lT aa) h)∧(fq (c.lT aa) aE)∧(fK c.nc (c.lT aa))∧(aa.length=c.aa.length)∧(∀(q:af)(r:R),aa[q]? =ac (ac r)→r.ay.aO=ak→c.bQ r.t=ak∨∃rl,c.aa[r.t-1]? =ac rl∧rl.ay.aV=ak∧c.bQ (r.t-1)=ak∧1≤r.t)∧(∀(l:af)(rl:R),c.aa[l]? =ac rl→rl.ay.aV=ak→c.bQ l=ak→aa[l]? =ac (ac rl)∨∃r,aa[l]? =ac (ac r)∧r.ay.aV=ak)
section
variable{c:Cd}{aE:av}{i:af}{aa:aR}(s0:gQ c aE i aa)
include s0
def gQ.ie:∃h,dG (c.lT aa) h:=s0.1
def gQ.bm:fq (c.lT aa) aE:=s0.2.1
def gQ.By:fK c.nc (c.lT aa):=s0.2.2.1
def gQ.bh:aa.length=c.aa.length:=s0.2.2.2.1
def gQ.jW:∀(q:af)(r:R),aa[q]? =ac (ac r)→r.ay.aO=ak→c.bQ r.t=ak∨∃rl,c.aa[r.t-1]? =ac rl∧rl.ay.aV=ak∧c.bQ (r.t-1)=ak∧1≤r.t:=s0.2.2.2.2.1
def gQ.bF:∀(l:af)(rl:R),c.aa[l]? =ac rl→rl.ay.aV=ak→c.bQ l=ak→aa[l]? =ac (ac rl)∨∃r,aa[l]? =ac (ac r)∧r.ay.aV=ak:=s0.2.2.2.2.2
end
def oH{q:af}{r:R}(e:c.aa[q]? =ac r)(k:r.ay.aO=ak):c.bQ r.t=ak:=
 qS.mpr (.inl (qS.mpr (.inl (yl.mpr ⟨r,gM e,jY.mpr ⟨k,ug _⟩⟩))))
def cP{q:af}{r:R}:c.nc.aa[q]? =ac (ac r)↔c.aa[q]? =ac r:=by
 show (c.aa.map ac)[q]? =_↔_
 rw [j9]
 cases c.aa[q]? with
 |none=>exact ⟨fun z=>bn z,fun z=>bn z⟩
 |some r'=>exact ⟨fun z=>a7 ac (cp (cp z)),fun z=>a7 ac z⟩
def xm(q:af):c.nc.aa[q]? ≠ac au:=by
 show (c.aa.map ac)[q]? ≠_
 rw [j9]
 cases c.aa[q]? <;>exact fun z=>nomatch z
def rY(ok:gN c aE):gQ c aE 0 (c.aa.map ac):=⟨
 ok.ie,
 ok.bm,
 fK.bc _,
 b9 ..,
 (fun q r e k=>.inl (oH (cP.mp e) k)),
 (fun l rl e k m=>.inl (cP.mpr e))⟩
def oI{aa:aR}{p:af}{r:R}(h:aa[p]?.join=ac r):aa[p]? =ac (ac r):=nR h fun o h1 h2=>h1.trans (a7 ac h2)
def IN{a b:av}(h:(a||b)=aF):a=aF∧b=aF:=Ls.mp h
def adz{α:Type}{l:ao α}{f:α→av}(h:l.any f=aF){x:α}(hx:x∈l)(k:f x=ak){P:Prop}:P:=cG (h.symm.trans (yl.mpr ⟨x,hx,k⟩))
def gQ.pN{i:af}{aa:aR}(F:gQ c aE i aa){l:af}{r rl:R}{P:Prop}(e0:aa[l]? =ac (ac r))(hb:r.ay.aV=aF)(e:c.aa[l]? =ac rl)(k:rl.ay.aV=ak)(m:c.bQ l=ak):P:=by
 refine (F.bF l rl e k m).elim (fun y=>?_) fun ⟨r2,y,y2⟩=>?_
 ·rw [e0] at y;cases y;exact cG (hb.symm.trans k)
 ·rw [e0] at y;cases y;exact cG (hb.symm.trans y2)
def yM(c:Cd)(aa:aR):Prop:=∀(q:af)(r:R),aa[q]? =ac (ac r)→r.ay.aO=ak→c.bQ r.t=ak
def sv{i:af}{aa:aR}(F:gQ c aE i aa){p:af}{r:R}(e0:aa[p]? =ac (ac r))(hb:r.ay.aV=aF∨yM c aa)(hm:c.bQ (p+1)=aF):o8 (c.lT aa) (p+1):=by
 have nm:∀{t:af},c.bQ t=ak→t≠p+1:=fun m z=>cG (hm.symm.trans (z▸m))
 obtain ⟨h0,h3⟩:=IN hm
 refine ⟨fun z=>cG (h3.symm.trans (vi.mpr z)),fun q r' e k=>(F.jW q r' e k).elim nm fun ⟨rl,h1,h2,h3,h4⟩=>hb.elim (fun hb z=>?_) fun S=>nm (S q r' e k),fun c hc z=>adz (IN h0).2 hc (mi.mpr z)⟩
 rw [z] at h1 h3
 exact F.pN e0 hb h1 h2 h3
end
section
variable{c:Cd}{aE:av}
def qx(c:Cd)(t:af):Prop:=c.bQ t=ak∨∃rl,c.aa[t-1]? =ac rl∧rl.ay.aV=ak∧c.bQ (t-1)=ak∧1≤t
def gQ.gK{i:af}{aa:aR}(F:gQ c aE i aa):gQ c aE (i+1) aa:={F with}
def zA{aa:aR}{p q:af}(a b:aM R)(hq:q<p∨p+2≤q):(e8 aa p a b)[q]? =aa[q]? :=(iR (X:=⟨aa.set p a,[],[]⟩) (rX hq (fQ p) (je _))).trans (iR (X:=⟨aa,[],[]⟩) (rX hq (c9 p) (uD (je p))))
def Pn{aa:aR}{p q:af}(a b d:aM R)(hq:q<p∨p+3≤q):(wN aa p a b d)[q]? =aa[q]? :=(iR (X:=⟨e8 aa p a b,[],[]⟩) (rX hq (ff p 2) (je _))).trans (zA a b (hq.imp id ou))
def xQ(aa:aR)(p:af)(a b:aM R):(e8 aa p a b).length=aa.length:=qj.trans qj
def pO{aa:aR}{i q:af}{r r':R}{a b:aM R}{P:af→aM (aM R)→Prop}(e0:aa[i]? =ac (ac r))(e1:aa[i+1]? =ac (ac r'))(k:∀{q},q<i∨i+2≤q→P q aa[q]?)(k0:P i (ac a))(k1:P (i+1) (ac b)):P q (e8 aa i a b)[q]? :=
 (rU i 2 q).elim (fun hw=>(a7 (P q) (zA a b hw)).mpr (k hw)) fun hw=>Fa (P:=fun q=>P q (e8 aa i a b)[q]?) hw.1 hw.2 ((rV (X:=⟨aa,[],[]⟩) a b (hH (X:=⟨aa,[],[]⟩) e0)).symm▸k0) ((rW (X:=⟨aa,[],[]⟩) a b (hH (X:=⟨aa,[],[]⟩) e1)).symm▸k1)
def gQ.HI{i:af}{aa:aR}{r r':R}{a b:aM R}(F:gQ c aE i aa)(e0:aa[i]? =ac (ac r))(e1:aa[i+1]? =ac (ac r'))(hm:c.bQ (i+1)=aF)(G:wM (c.lT aa) (c.lT (e8 aa i a b)) aE)
  (ja:∀r,a=ac r→r.ay.aO=ak→qx c r.t) (jb:∀r,b=ac r→r.ay.aO=ak→qx c r.t) (ka:r.ay.aV=aF∨∃r,a=ac r∧r.ay.aV=ak):gQ c aE (i+1) (e8 aa i a b):=⟨
 G.1,
 G.2.1,
 F.By.aX G.2.2,
 (xQ ..).trans F.bh,
 (fun q r=>pO (P:=fun q o=>o=ac (ac r)→r.ay.aO=ak→qx c r.t) e0 e1 (fun {q} _=>F.jW q r) (fun z=>ja r (cp z)) fun z=>jb r (cp z)),
 (fun l rl=>pO (P:=fun l o=>c.aa[l]? =ac rl→rl.ay.aV=ak→c.bQ l=ak→o=ac (ac rl)∨∃r,o=ac (ac r)∧r.ay.aV=ak) e0 e1 (fun {l} _=>F.bF l rl) (fun e k m=>ka.elim (fun z=>F.pN e0 z e k m) fun jF=>by obtain ⟨r,k1,k2⟩:=jF;exact .inr ⟨r,a7 ac k1,k2⟩) fun q9 q9 m=>cG (hm.symm.trans m))⟩
set_option tactic.hygienic true in
def rZ{aa:aR}{p:Nat}{f:R→R→Option aR}{P:aR→Prop}(h0:P aa)(h:∀r r' gJ,aa[p]? =some (some r)→aa[p+1]? =some (some r')→c.bQ (p+1)=false→f r r'=some gJ→P gJ):P (lU c aa p f):=by
 unfold lU
 split
 ·rename_i r r' h1 h2
  split
  ·exact h0
  ·rename_i hm
   cases hf:f r r' with
   |none=>exact h0
   |some gJ=>exact h r r' gJ (oI h1) (oI h2) (Bool.eq_false_iff.mpr hm) hf
 ·exact h0
def AD{α:Type}{c:Prop}[DQ c]{a b:aM α}{y:α}{P:Prop}(h:(if c then a else b)=ac y)(k1:c→a=ac y→P)(k2:¬c→b=ac y→P):P:=by
 split at h
 ·exact k1 ‹_› h
 ·exact k2 ‹_› h
def lG{α:Type}{c:Prop}[DQ c]{a:aM α}{y:α}{P:Prop}(h:(if c then a else au)=ac y)(k:c→a=ac y→P):P:=AD h k fun q9=>bn
def sx:∀r,(au:aM R)=ac r→r.ay.aO=ak→qx c r.t:=fun q9 z=>bn z
def IO{r:R}(h:r.ay.kh=ak):r.ay.aV=aF:=by
 refine aw fun kz=>?_
 obtain ⟨op,t,a,b,c',l⟩:=r
 refine kz ?_;try clear kz
 induction op<;>first|rfl|exact h.symm
def UL{r:R}(h:r.ay.fU=ak):r.ay.aV=aF:=B9 (P:=fun op=>op.aV=aF) h ag ag ag ag
def u3(ok:gN c aE)(m:af):gQ c aE m (cv c ii m):=
 g7 (P:=gQ c aE) (rY ok) fun i aa hi F=>rZ (P:=gQ c aE (i+1)) F.gK fun r r' gJ e0 e1 hm hf=>lG hf fun hc z=>d8 hc fun h0 h1=>c5 (P:=gQ c aE (i+1)) z (F.ie.elim fun h Ty=>F.HI e0 e1 hm (Pf Ty F.bm e0 e1 h0 (cz h1) (sv F e0 (.inl (IO h0)) hm)) sx sx (.inl (IO h0)))
def HJ{r:R}{op:Op}(c:r.ay=op)(h:op.aV=aF):r.ay.aV=aF:=c▸h
def wZ(ok:gN c aE)(m:af):gQ c aE m (cv c ij m):=
 g7 (P:=gQ c aE) (rY ok) fun i aa hi F=>rZ (P:=gQ c aE (i+1)) F.gK fun r r' gJ e0 e1 hm hf=>lG hf fun h1 hf=>F.ie.elim fun h Ty=>AD hf
  (fun h0 z=>c5 (P:=gQ c aE (i+1)) z (have nb:=HJ (cz h0) ag;F.HI e0 e1 hm (UF Ty F.bm e0 e1 (cz h0) (cz h1) (sv F e0 (.inl nb) hm)) sx sx (.inl nb)))
  fun q9 hf=>lG hf fun h0 z=>c5 (P:=gQ c aE (i+1)) z (have nb:=HJ (cz h0) ag;F.HI e0 e1 hm (Ng Ty F.bm e0 e1 (cz h0) (cz h1) (sv F e0 (.inl nb) hm)) (fun cf z k=>cG ((a7 Op.aO (cz h0)).symm.trans (cp z▸k))) sx (.inl nb))
def J2:yM c (c.aa.map ac):=fun q r e k=>oH (cP.mp e) k
def u5(ok:gN c aE)(m:af):gQ c aE m (cv c ik m)∧yM c (cv c ik m):=
 g7 (P:=fun i aa=>gQ c aE i aa∧yM c aa) ⟨rY ok,J2⟩ fun i aa hi ⟨F,S⟩=>rZ (P:=fun aa=>gQ c aE (i+1) aa∧yM c aa) ⟨F.gK,S⟩ fun r r' gJ e0 e1 hm hf=>lG hf fun hc z=>d8 hc fun hc h2=>d8 hc fun h0 h1=>c5 (P:=fun aa=>gQ c aE (i+1) aa∧yM c aa) z (by
  have hj:c.bQ r'.t=ak:=S _ _ e1 (by refine aq (cz h1) ?_;rfl)
  have hb:(R.bk r.ay.fR r'.t r.eZ).ay.aV=ak:=oS (P:=fun op=>op.fR.aV=ak) h0 ag ag
  refine F.ie.elim fun h Ty=>⟨F.HI e0 e1 hm (Ph Ty F.bm e0 e1 h0 (cz h1) (cz h2) (sv F e0 (.inr S) hm)) (fun cf z k=>c5 (P:=fun r:R=>qx c r.t) z (.inl hj)) sx (.inr ⟨_,ag,hb⟩),fun q cf=>?_⟩
  exact pO (P:=fun q o=>o=ac (ac cf)→cf.ay.aO=ak→c.bQ cf.t=ak) e0 e1 (fun {q} _=>S q cf) (fun z q9=>c5 (P:=fun r:R=>c.bQ r.t=ak) (cp z) hj) fun z=>bn (cp z))
def abK(c:Cd)(aa:aR):Prop:=∀(l:af)(rl:R),c.aa[l]? =ac rl→rl.ay.aV=ak→c.bQ l=ak→aa[l]? =ac (ac rl)
def Fe(c:Cd)(aE:av)(i:af)(aa:aR):Prop:=gQ c aE i aa∧abK c aa∧∀q,i<q→aa[q]? =(c.aa.map ac)[q]?
def Ff{i:af}{aa:aR}{r r':R}{b:aM R}(K:Fe c aE i aa)(e0:aa[i]? =ac (ac r))(e1:aa[i+1]? =ac (ac r'))(hm:c.bQ (i+1)=aF)(nb:r.ay.aV=aF)(G:wM (c.lT aa) (c.lT (e8 aa i au b)) aE)(jb:∀r,b=ac r→r.ay.aO=ak→qx c r.t):Fe c aE (i+1) (e8 aa i au b):=
 ⟨K.1.HI e0 e1 hm G sx jb (.inl nb),fun l rl=>pO (P:=fun l o=>c.aa[l]? =ac rl→rl.ay.aV=ak→c.bQ l=ak→o=ac (ac rl)) e0 e1 (fun {l} _=>K.2.1 l rl) (fun e k m=>K.1.pN e0 nb e k m) (fun q9 q9 m=>cG (hm.symm.trans m)),fun q hq=>(zA _ _ (.inr hq)).trans (K.2.2 q (vg hq))⟩
def vy(ok:gN c aE)(m:af):gQ c aE m (cv c fy m)∧abK c (cv c fy m)∧∀q,m<q→(cv c fy m)[q]? =(c.aa.map ac)[q]? :=
 g7 (P:=Fe c aE) ⟨rY ok,(fun l rl e q9 q9=>cP.mpr e),fun q q9=>ag⟩ fun i aa hi K=>rZ (P:=Fe c aE (i+1)) ⟨K.1.gK,K.2.1,fun q hq=>K.2.2 q (vg hq)⟩ fun r r' gJ e0 e1 hm hf=>lG hf fun h0 hf=>K.1.ie.elim fun h Ty=>by
  have h0:=cz h0
  have e1':c.aa[i+1]? =ac r':=cP.mp ((K.2.2 (i+1) (je i)).symm.trans e1)
  have nb:=HJ h0 ag
  have no:=sv K.1 e0 (.inl nb) hm
  refine AD hf (fun hb z=>c5 z (Ff K e0 e1 hm nb (UG Ty K.1.bm e0 e1 h0 hb no) fun cf z q9=>lG z fun q9 z=>c5 (P:=fun r:R=>qx c r.t) z (.inl (show c.bQ r'.t=ak from oH e1' (vw hb))))) fun q9 hf=>lG hf fun hj hf=>?_
  have hj:=cz hj
  have ml:c.bQ r'.t=ak:=oH e1' (by refine aq hj ?_;rfl)
  cases Tw:c.aa[r'.t]? with
  |none=>rw [Tw] at hf;exact bn hf
  |some rl=>
   rw [Tw] at hf
   refine lG hf fun Tz z=>c5 z (Ff K e0 e1 hm nb (Pi Ty K.1.bm e0 e1 (K.2.1 _ _ Tw Tz ml) h0 hj Tz no) fun cf z q9=>c5 (P:=fun r:R=>qx c r.t) z ?_)
   show qx c (if _ then _ else _)
   split
   ·exact .inl (oH Tw (vw Tz))
   ·exact .inr ⟨rl,Tw,Tz,ml,jG (fC _)⟩
def w0(ok:gN c aE)(m:af):gQ c aE m (cv c fy m):=(vy ok m).1
def vz{aa:aR}{i q:af}{r r' oW:R}{a b d:aM R}{P:af→aM (aM R)→Prop}(e0:aa[i]? =ac (ac r))(e1:aa[i+1]? =ac (ac r'))(e2:aa[i+2]? =ac (ac oW))(k:∀{q},q<i∨i+3≤q→P q aa[q]?)(k0:P i (ac a))(k1:P (i+1) (ac b))(k2:P (i+2) (ac d)):P q (wN aa i a b d)[q]? :=
 (rU i 3 q).elim (fun hw=>(a7 (P q) (Pn a b d hw)).mpr (k hw)) fun hw=>IJ (P:=fun q=>P q (wN aa i a b d)[q]?) hw.1 hw.2 ((Fb (X:=⟨aa,[],[]⟩) a b d (hH (X:=⟨aa,[],[]⟩) e0)).symm▸k0) ((Tq (X:=⟨aa,[],[]⟩) a b d (hH (X:=⟨aa,[],[]⟩) e1)).symm▸k1) ((Tr (X:=⟨aa,[],[]⟩) a b d (hH (X:=⟨aa,[],[]⟩) e2)).symm▸k2)
def IP{a:av}(h:(!a)=ak):a=aF:=by induction a<;>first|rfl|exact cG h
set_option tactic.hygienic true in
def BD{aa:aR}{p:Nat}{P:aR→Prop}(h0:P aa)(h:∀r r' oW,aa[p]? =some (some r)→aa[p+1]? =some (some r')→aa[p+2]? =some (some oW)→r.ay=.mD→r'.ay.fU=true→oW.ay=.g6→c.bQ (p+1)=false→c.bQ (p+2)=false→P (wN aa p none (some r') none)):P (gc c aa p):=by
 unfold gc
 split
 ·rename_i r r' oW j0 j1 j2
  split
  ·rename_i hc
   exact d8 hc fun hc m2=>d8 hc fun hc m1=>d8 hc fun hc h2=>d8 hc fun h0 h1=>h r r' oW (oI j0) (oI j1) (oI j2) (eq_of_beq h0) h1 (eq_of_beq h2) (IP m1) (IP m2)
  ·exact h0
 ·exact h0
def u6(ok:gN c aE)(m:af):gQ c aE m (cv c gc m):=
 g7 (P:=gQ c aE) (rY ok) fun i aa hi F=>BD (P:=gQ c aE (i+1)) F.gK fun r r' oW e0 e1 e2 h0 h1 h2 m1 m2=>F.ie.elim fun h Ty=>
  have G:=Pj Ty F.bm e0 e1 e2 h0 h1 h2 (sv F e0 (.inl (HJ h0 ag)) m1) (sv F e1 (.inl (UL h1)) m2)
  ⟨
   G.1,
   G.2.1,
   F.By.aX G.2.2,
   (qj.trans (xQ ..)).trans F.bh,
   (fun q r=>vz (P:=fun q o=>o=ac (ac r)→r.ay.aO=ak→qx c r.t) e0 e1 e2 (fun {q} _=>F.jW q r) (fun z=>bn (cp z)) (fun z=>F.jW _ r (e1.trans z)) fun z=>bn (cp z)),
   (fun l rl=>vz (P:=fun l o=>c.aa[l]? =ac rl→rl.ay.aV=ak→c.bQ l=ak→o=ac (ac rl)∨∃r,o=ac (ac r)∧r.ay.aV=ak) e0 e1 e2 (fun {l} _=>F.bF l rl) (fun e k m=>F.pN e0 (HJ h0 ag) e k m) (fun q9 q9 m=>cG (m1.symm.trans m)) fun q9 q9 m=>cG (m2.symm.trans m))⟩
end
section
variable{c:Cd}{aE:av}
def sP{aa:aR}(ty:∃h,dG (c.lT aa) h)(ok:fq (c.lT aa) aE)(b:fK c.nc (c.lT aa)):uk c (c.bL aa) aE:=by
 obtain ⟨h,Ty⟩:=ty
 obtain ⟨T',tJ,b'⟩:=UK Ty ok
 exact ⟨⟨⟨_,T'⟩,tJ⟩,b.aX b'⟩
def gQ.fZ{i:af}{aa:aR}(F:gQ c aE i aa):uk c (c.bL aa) aE:=sP F.ie F.bm F.By
def qW(ok:gN c aE):uk c (eQ c) aE:=(u3 ok _).fZ
def CR(ok:gN c aE):uk c (gp c) aE:=(wZ ok _).fZ
def u7(ok:gN c aE):uk c (fe c) aE:=(u6 ok _).fZ
def qX(ok:gN c aE):uk c (fv c) aE:=(u5 ok _).1.fZ
def sQ(ok:gN c aE):uk c (fG c) aE:=(w0 ok _).fZ
noncomputable def ip(c:Cd)(f:af→R→aM R)(i:af):aR:=c.aa.mapIdx fun p r=>if p<i then f p r else ac r
def pP(f:af→R→aM R)(i q:af):(ip c f i)[q]? =(c.aa[q]?).map fun r=>if q<i then f q r else ac r:=uF
def Dz(f:af→R→aM R):ip c f 0=c.aa.map ac:=Au fun q=>(pP f 0 q).trans j9.symm
def ER(f:af→R→aM R):ip c f c.aa.length=c.aa.mapIdx f:=Au fun q=>by
 rw [pP,uF]
 cases h:c.aa[q]? with
 |none=>rfl
 |some r=>exact a7 ac (bD (fM.mp h).1)
def DA(f:af→R→aM R){i:af}{r:R}(e:c.aa[i]? =ac r):ip c f (i+1)=(ip c f i).set i (f i r):=Au fun q=>by
 rw [pP,RM]
 by_cases h:i=q
 ·subst h
  (refine aq (bD ag) ?_;refine aq e ?_;rw [bD (show i<(ip c f i).length from (sL (f:=fun p r=>if p<i then f p r else ac r)).symm▸(fM.mp e).1)])
  exact a7 ac (bD (je i))
 ·(refine aq (cL h) ?_;rw [pP])
  cases c.aa[q]? with
  |none=>rfl
  |some r'=>exact a7 ac (ite_congr (propext ⟨fun z=>DM (uf z) (Hu h),uD⟩) (fun q9=>ag) fun q9=>ag)
def DB(f:af→R→aM R){i:af}{r:R}(e:c.aa[i]? =ac r):(ip c f i)[i]? =ac (ac r):=by
 unfold ip
 (rewrite [uF];refine aq e ?_)
 exact a7 ac (cL (G8 i))
def TA{α:Type}{l:ao α}{i:af}{x:α}(h:l[i]? =ac x):l.set i x=l:=by
 obtain ⟨hi,rfl⟩:=fM.mp h
 exact aac hi
def sR(ok:gN c aE):uk c (cV c) aE:=by
 have key:∀i,i≤c.aa.length→(∃h,dG (c.lT (ip c dy i)) h)∧fq (c.lT (ip c dy i)) aE∧fK c.nc (c.lT (ip c dy i)):=fun i=>by
  induction i with
  |zero=>intro _;rw [Dz];exact ⟨ok.ie,ok.bm,fK.bc _⟩
  |succ i ih=>
   intro hi
   refine aw fun kz=>?_
   obtain ⟨⟨h,Ty⟩,tJ,b⟩:=ih (ou hi)
   refine kz ?_;try clear kz
   have e:c.aa[i]? =ac c.aa[i] :=ed hi
   have e':=DB dy e
   refine aq (DA dy e) ?_
   generalize hx:dy i c.aa[i] =x
   unfold dy at hx
   split at hx
   ·rename_i hc
    refine aw fun kz=>?_
    obtain ⟨h1,h2,h3⟩:=d8 hc fun k1 k2=>UH (X:=c.lT (ip c dy i)) Ty tJ e' k1 (cz k2)
    refine kz ?_;try clear kz
    exact hx▸⟨h1,h2,b.aX h3⟩
   ·(refine iu hx ?_;refine aq (TA e') ?_)
    exact ⟨⟨h,Ty⟩,tJ,b⟩
 refine aw fun kz=>?_
 obtain ⟨h1,h2,h3⟩:=key c.aa.length (c9 _)
 refine kz ?_;try clear kz
 rw [ER] at h1 h2 h3
 exact sP h1 h2 h3
set_option tactic.hygienic true in
def J3(place:Nat):∀(k f:Nat),n8 c.nc place f→n8 c.nc place (pM c.aa place k f):=by
 intro k
 induction k with
 |zero=>
  intro f _
  exact .bc _
 |succ k ih=>
  intro f h
  unfold pM
  split
  ·rename_i r e
   split
   ·rename_i j
    exact ih r.t (h.aX (.dE (cP.mpr e) j (.bc _)))
   ·exact h
  ·exact h
def Fg(place:af):n8 c.nc place (pz c.aa place):=J3 place _ _ (.bc _)
def XI{rs:ao R}{f:R→R}:((rs.map f).map ac).length=(rs.map ac).length:=(b9 ..).trans ((b9 ..).trans (b9 ..).symm)
set_option tactic.hygienic true in
def XJ(r:R):Thr c.nc r (cO c.aa r):=by
 unfold cO
 split
 ·rename_i hj
  split
  ·rename_i hl
   refine d8 hl fun hop hlv=>?_
   unfold io at hlv
   split at hlv
   ·rename_i re he
    exact .dY (eq_of_beq hop) (Fg _) (cP.mpr he) (eq_of_beq hlv)
   ·exact Bool.noConfusion hlv
  ·exact .to hj (Fg _)
 ·rename_i hj
  exact .kt (Bool.eq_false_iff.mpr hj)
def oC(ok:gN c aE):uk c (dQ c) aE:=by
 obtain ⟨h,Ty⟩:=ok.ie
 obtain ⟨h1,h2,h3⟩:=Pk (X:=c.nc) (Y:=c.lT ((c.aa.map (cO c.aa)).map ac)) Ty ok.bm XI ag ag xm fun q r e=>⟨_,(show ((c.aa.map (cO c.aa)).map ac)[q]? =_ by (rewrite [j9,j9];refine aq (cP.mp e) ?_);rfl),XJ r⟩
 exact sP ⟨h,h1⟩ h2 h3
open Classical in
def eR(c:Cd)(p:Nat)(r:R):Option R:=if bb c.nc p then some r else none
def cX(c:Cd):Cd:=c.bL (c.aa.mapIdx (eR c))
def qc{q:af}:(c.aa.mapIdx (eR c))[q]? =(c.aa[q]?).map (eR c q):=uF
def Po(ok:gN c aE){h:af→af}(Ty:dG c.nc h):dG (c.lT (c.aa.mapIdx (eR c))) h∧fq (c.lT (c.aa.mapIdx (eR c))) aE∧fK c.nc (c.lT (c.aa.mapIdx (eR c)))∧∀q,bb (c.lT (c.aa.mapIdx (eR c))) q↔bb c.nc q:=by
 refine XG Ty ok.bm (sL.trans (b9 ..).symm) ag ag (fun q z=>?_) (fun q z r=>?_)
 ·show (c.aa.mapIdx (eR c))[q]? =(c.aa.map ac)[q]?
  (refine aq qc ?_;rw [j9])
  cases c.aa[q]? with
  |none=>rfl
  |some r=>exact a7 ac (bD z)
 ·show (c.aa.mapIdx (eR c))[q]? ≠_
  refine aq qc ?_
  cases c.aa[q]? with
  |none=>exact bn
  |some r=>exact fun e=>bn ((cL z).symm.trans (cp e))
def vA(ok:gN c aE):uk c (cX c) aE∧∀q,q<(cX c).aa.length→bb (cX c).nc q:=by
 refine aw fun kz=>?_
 obtain ⟨h,Ty⟩:=ok.ie
 obtain ⟨h1,h2,h3,h4⟩:=Po ok Ty
 refine kz ?_;try clear kz
 refine ⟨sP ⟨h,h1⟩ h2 h3,fun q hq=>?_⟩
 have hz:(cX c).nc.aa[q]? =ac (ac (cX c).aa[q]):=cP.mpr (ed hq)
 refine aw fun kz=>?_
 obtain ⟨p,r,e1,rfl,e3⟩:=vx (X:=c.lT (c.aa.mapIdx (eR c))) hz
 refine kz ?_;try clear kz
 refine J0 h1 ((h4 p).mpr ?_)
 have e1:(c.aa.mapIdx (eR c))[p]? =ac (ac r):=e1
 rw [qc] at e1
 refine aw fun kz=>?_
 obtain ⟨r',_,z⟩:=xI.mp e1
 refine kz ?_;try clear kz
 unfold eR at z
 split at z
 ·assumption
 ·exact bn z
def jj(c:Cd):Cd:=gp (fe (eQ (cX (cV (fv (fG (dQ c)))))))
def uk.aX{a b d:Cd}(x:uk a b aE)(y:uk b d aE):uk a d aE:=⟨y.1,x.2.aX y.2⟩
def Nj(ok:gN c aE):uk c (jj c) aE:=by
 have k1:=oC ok
 have k2:=sQ k1.1
 have k3:=qX k2.1
 have k4:=sR k3.1
 have k5:=(vA k4.1).1
 have k6:=qW k5.1
 have k7:=u7 k6.1
 have k8:=CR k7.1
 exact k1.aX (k2.aX (k3.aX (k4.aX (k5.aX (k6.aX (k7.aX k8))))))
end
structure j7(c:Cd):Prop where
 jW:∀r∈c.aa,r.ay.aO=ak→r.t≤c.aa.length
 aK:∀k∈c.aK,k.dm<k.gx∧k.gx≤c.aa.length∧k.bC≤c.aa.length
 aZ:∀s∈c.aZ,s≤c.aa.length
 Fh:c.aZ≠ []
def iC(c:Cd):Prop:=∀r∈c.aa,r.ay.aO=ak→r.t<c.aa.length
def Gy(c:Cd):Prop:=∃r,c.aa[c.aa.length-1]? =ac r∧r.ay.c3=ak
def Jn(c:Cd):af:=c.aa.countP (·.ay.aO)
def i0(aa:aR):Prop:=∃q:af,aa[q]? =ac au
def TB(aa:aR):bY aa aa.length=(aa.filterMap id).length:=by unfold bY;(refine aq eG ?_;rfl)
def CS{aa:aR}:i0 aa→(aa.filterMap id).length<aa.length:=by
 induction aa with
 |nil=>exact fun ⟨q,h⟩=>bn h
 |cons o l ih=>induction o with
  |none=>exact fun q9=>Ao (Aq id l)
  |some r=>exact fun ⟨q,h⟩=>by induction q with
   |zero=>exact bn (cp h).symm
   |succ q=>exact Lx (ih ⟨q,h⟩)
def hV(o:aM R):av:=o.any fun r=>r.ay.aO
def Ce{α:Type}{l:ao α}{f:α→α}(h:∀x∈l,f x=x):l.map f=l:=(DT (g:=id) h).trans (List.map_id _)
def DC{α:Type}{l:ao α}{f:α→aM α}(h:∀x∈l,f x=ac x):l.filterMap f=l:=by
 induction l with
 |nil=>rfl
 |cons x l ih=>(refine aq (Rz (h x (fF ..))) ?_;refine aq (ih fun y hy=>h y (jf _ hy)) ?_;rfl)
def Oi(rs:ao R):(rs.map ac).filterMap id=rs:=List.filterMap_map.trans (show aav ac rs=rs from List.filterMap_some)
def TC{a b:av}(h:a=ak→b=ak):(if a=ak then 1 else 0)≤(if b=ak then 1 else 0):=by
 induction a
 ·exact fC _
 ·refine aq (h ag) ?_;exact c9 _
def HK{a o:aM R}(h:hV a=ak→hV o=ak){aa:aR}:∀{p:af},aa[p]? =ac o→(aa.set p a).countP hV≤aa.countP hV:=by
 induction aa with
 |nil=>exact fun e=>bn e
 |cons x l ih=>
  intro p e
  induction p with
  |zero=>
   obtain rfl:x=o:=cp e
   (refine aq List.set_cons_zero ?_;refine aq uH ?_;refine aq uH ?_)
   exact kN (TC h) _
  |succ p=>
   (refine aq DU ?_;refine aq uH ?_;refine aq uH ?_)
   exact qh (ih e) _
section
variable{c:Cd}{aE:av}
def oJ(aa:aR):(c.bL aa).aa.length=(aa.filterMap id).length:=by
 show (LX _ _).length=_
 rw [b9]
def Fi(aa:aR):Jn (c.bL aa)=aa.countP hV:=by
 show (LX (R.jZ (bY aa)) (aa.filterMap id)).countP _=_
 refine aq RQ ?_
 generalize bY aa=f
 induction aa with
 |nil=>rfl
 |cons o l ih=>
  induction o with
  |none=>exact ih
  |some r=>
   (refine aq (Rz (f:=id) (a:=ac r) (b:=r) ag) ?_;refine aq uH ?_;refine aq uH ?_;refine aq ih ?_)
   exact a7 (fun op:Op=>_+if op.aO=ak then 1 else 0) (jM f r)
def Fj{aa:aR}{r:R}{P:Prop}(hr:r∈(c.bL aa).aa)(k:∀(p:af)(r0:R),aa[p]? =ac (ac r0)→r=r0.jZ (bY aa)→P):P:=by
 obtain ⟨i,hi⟩:=ww hr
 obtain ⟨p,r0,h1,_,h3⟩:=vx (X:=c.lT aa) (i:=i) (o:=ac r) (cP.mpr hi)
 exact k p r0 h1 (cp h3)
def u8{aa:aR}(I:j7 c)(hl:aa.length=c.aa.length)(hj:∀(q:af)(r:R),aa[q]? =ac (ac r)→r.ay.aO=ak→r.t≤c.aa.length):j7 (c.bL aa):=by
 have hn:(c.bL aa).aa.length=bY aa c.aa.length:=by (rewrite [oJ];refine iu hl ?_;rw [TB])
 have bu:∀t,t≤c.aa.length→bY aa t≤(c.bL aa).aa.length:=fun t ht=>by refine aq hn ?_;exact AT aa ht
 refine ⟨fun r hr k=>?_,fun k hk=>?_,fun s hs=>?_,?_⟩
 ·refine Fj hr fun p r0 h1 e=>?_
  rw [e,jM] at k
  (refine aq e ?_;refine aq (v3 _ k) ?_)
  exact bu _ (hj p r0 h1 k)
 ·have hk:k∈c.aK.filterMap (Ct.fL (bY aa)):=hk
  refine aw fun kz=>?_
  obtain ⟨k0,h0,hp⟩:=LL.mp hk
  obtain ⟨i1,i2,i3⟩:=I.aK k0 h0
  refine kz ?_;try clear kz
  unfold Ct.fL at hp
  split at hp
  ·rename_i CT
   obtain rfl:=cp hp
   exact ⟨CT,bu _ i2,bu _ i3⟩
  ·exact bn hp
 ·have hs:s∈c.aZ.map (bY aa):=hs
  refine aw fun kz=>?_
  obtain ⟨s0,h0,rfl⟩:=iO.mp hs
  refine kz ?_;try clear kz
  exact bu _ (I.aZ s0 h0)
 ·show c.aZ.map (bY aa)≠ []
  intro h;exact I.Fh (RE.mp h)
def XK(rs:ao R){t:af}(h:t≤rs.length):bY (rs.map ac) t=t:=by
 unfold bY
 (refine iu RU ?_;rewrite [Oi];refine aq DY ?_)
 exact DN h
def yN{rs:ao R}(I:j7 c)(hl:rs.length=c.aa.length)(hj:∀r∈rs,r.ay.aO=ak→r.t≤c.aa.length):c.bL (rs.map ac)=⟨rs,c.aK,c.aZ⟩:=by
 have hf:∀{t},t≤c.aa.length→bY (rs.map ac) t=t:=fun ht=>XK rs (hl.symm▸ht)
 show Cd.mk (((rs.map ac).filterMap id).map (R.jZ (bY (rs.map ac)))) _ _=_
 rw [Oi,Ce fun r hr=>?_,DC fun k hk=>?_,Ce fun s hs=>hf (I.aZ s hs)]
 ·refine aw fun kz=>?_
  obtain ⟨i1,i2,i3⟩:=I.aK k hk
  refine kz ?_;try clear kz
  unfold Ct.fL
  rw [hf (a5 (jH i1) i2),hf i2,hf i3,bD i1]
 ·unfold R.jZ
  split
  ·rename_i k;rw [hf (hj r hr k)]
  ·rfl
def tK(I:j7 c):c.bL (c.aa.map ac)=c:=yN I ag I.jW
def Pp{step:Cd→aR→af→aR}(A:∀(aa:aR)(p:af),step c aa p=aa∨i0 (step c aa p))(m:af):(cv c step m=c.aa.map ac∧∀p<m,step c (c.aa.map ac) p=c.aa.map ac)∨i0 (cv c step m):=
 g7 (P:=fun i aa=>(aa=c.aa.map ac∧∀p<i,step c (c.aa.map ac) p=c.aa.map ac)∨i0 aa) (.inl ⟨ag,fun p hp=>bW hp (yh p)⟩) fun i aa hi h=>(A aa i).elim (fun z=>h.elim (fun h=>.inl ⟨z.trans h.1,fun p hp=>(Rp (uf hp)).elim (h.2 p) fun y=>y▸h.1▸z⟩) fun h=>.inr (z.symm▸h)) .inr
def cW{step:Cd→aR→af→aR}(A:∀(aa:aR)(p:af),(step c aa p).length=aa.length)(m:af):(cv c step m).length=c.aa.length:=
 g7 (P:=fun _ (aa:aR)=>aa.length=c.aa.length) (b9 ..) fun i aa hi h=>(A aa i).trans h
def oK{step:Cd→aR→af→aR}(A:∀(aa:aR)(p:af),step c aa p=aa∨i0 (step c aa p))(B:∀(aa:aR)(p:af),(step c aa p).length=aa.length)(I:j7 c){m:af}(h:(c.bL (cv c step m)).aa.length=c.aa.length):
  c.bL (cv c step m)=c∧∀p<m,step c (c.aa.map ac) p=c.aa.map ac:=
 (Pp A m).elim (fun h=>⟨h.1.symm▸tK I,h.2⟩) fun h1=>bW ((oJ _).symm.trans (h.trans (cW B m).symm)) (nv (CS h1))
def t8{aa:aR}(hl:aa.length=c.aa.length):(c.bL aa).aa.length≤c.aa.length:=by
 (rewrite [oJ];refine iu hl ?_);exact Aq _ _
def Fk{aa:aR}{p:af}{a b:aM R}{r r':R}(e0:aa[p]? =ac (ac r))(e1:aa[p+1]? =ac (ac r'))(h:a=au∨b=au):i0 (e8 aa p a b):=
 h.elim (fun z=>⟨p,z▸rV (X:=⟨aa,[],[]⟩) a b (hH (X:=⟨aa,[],[]⟩) e0)⟩) fun z=>⟨p+1,z▸rW (X:=⟨aa,[],[]⟩) a b (hH (X:=⟨aa,[],[]⟩) e1)⟩
inductive Mz(aa:aR)(p:af)(r r':R):aR→Prop
 |mk {a b:aM R} (n:a=au∨b=au) (ja:hV a=ak→r.ay.aO=ak) (jb:hV b=ak→r'.ay.aO=ak):Mz aa p r r' (e8 aa p a b)
section
variable{aa:aR}{p:af}{f:R→R→aM aR}(hf:∀{r r' gJ},f r r'=ac gJ→Mz aa p r r' gJ)
include hf
def vB:lU c aa p f=aa∨i0 (lU c aa p f):=rZ (P:=fun x=>x=aa∨i0 x) (.inl ag) fun r r' gJ e0 e1 q9 h=>by
 cases hf h with|mk n _ _=>exact .inr (Fk e0 e1 n)
def xR:(lU c aa p f).length=aa.length:=rZ (P:=fun x=>x.length=aa.length) ag fun r r' gJ e0 e1 q9 h=>by
 cases hf h;exact xQ ..
def Fm:(lU c aa p f).countP hV≤aa.countP hV:=rZ (P:=fun x:aR=>x.countP hV≤aa.countP hV) (c9 _) fun r r' gJ e0 e1 q9 h=>by
 cases hf h with|mk _ ja jb=>exact a5 (HK (o:=ac r') jb ((sK (vt p)).trans e1)) (HK (o:=ac r) ja e0)
end
def BE{step:Cd→aR→af→aR}(A:∀(aa:aR)(p:af),(step c aa p).countP hV≤aa.countP hV)(m:af):Jn (c.bL (cv c step m))≤Jn c:=by
 have:(cv c step m).countP hV≤(c.aa.map ac).countP hV:=g7 (P:=fun _ (aa:aR)=>aa.countP hV≤(c.aa.map ac).countP hV) (c9 _) fun i aa hi h=>a5 (A aa i) h
 exact (Fi _).symm▸a5 this (lm (RQ ..))
end
section
variable{c:Cd}{aE:av}
noncomputable abbrev HL(aa:aR)(p:af):R→R→aM aR:=fun r r'=>if r.ay.kh&&r'.ay== .g6 then ac (e8 aa p au au) else au
noncomputable abbrev Eo(aa:aR)(p:af):R→R→aM aR:=fun r r'=>if r'.ay== .cA then (if r.ay== .cA then ac (e8 aa p au au) else if r.ay== .mD then ac (e8 aa p (ac r) au) else au) else au
noncomputable abbrev HM(aa:aR)(p:af):R→R→aM aR:=fun r r'=>if r.ay.aV&&r'.ay== .bp&&r.t==p+2 then ac (e8 aa p (ac (.bk r.ay.fR r'.t r.eZ)) au) else au
noncomputable abbrev jS(c:Cd)(aa:aR)(p:af):R→R→aM aR:=fun r r'=>if r.ay== .dh then
 (if r'.ay.aV then ac (e8 aa p au (if r'.ay.eD (cS r.a) then ac (.bk .bp r'.t r'.eZ) else au))
  else if r'.ay== .bp then (match c.aa[r'.t]? with
   |some rl=>if rl.ay.aV then ac (e8 aa p au (ac {r' with t:=if rl.ay.eD (cS r.a) then rl.t else r'.t+1})) else au
   |none=>au) else au) else au
section
variable{aa:aR}{p:af}{r r':R}{gJ:aR}
def uS{r:R}:hV au=ak→r.ay.aO=ak:=fun z=>cG z
def Cf(h:HL aa p r r'=ac gJ):Mz aa p r r' gJ:=lG h fun q9 z=>c5 z (.mk (.inl ag) uS uS)
def Cg(h:Eo aa p r r'=ac gJ):Mz aa p r r' gJ:=lG h fun q9 h=>AD h (fun q9 z=>c5 z (.mk (.inl ag) uS uS)) fun q9 h=>lG h fun q9 z=>c5 z (.mk (.inr ag) (fun z=>z) uS)
def Ch(h:HM aa p r r'=ac gJ):Mz aa p r r' gJ:=lG h fun hc z=>d8 hc fun hc q9=>d8 hc fun hb q9=>c5 z (.mk (.inr ag) (fun q9=>vw hb) uS)
def zB(h:jS c aa p r r'=ac gJ):Mz aa p r r' gJ:=lG h fun q9 h=>AD h (fun hb z=>c5 z (.mk (.inl ag) uS fun q9=>vw hb)) fun q9 h=>lG h fun hj h=>by
 cases Tw:c.aa[r'.t]? with
 |none=>rw [Tw] at h;exact bn h
 |some rl=>
  rw [Tw] at h
  exact lG h fun q9 z=>c5 z (.mk (.inl ag) uS fun z=>z)
end
section
variable(aa:aR)(p:af)
def Pq:ii c aa p=aa∨i0 (ii c aa p):=vB (f:=HL aa p) Cf
def Pr:ij c aa p=aa∨i0 (ij c aa p):=vB (f:=Eo aa p) Cg
def Ps:ik c aa p=aa∨i0 (ik c aa p):=vB (f:=HM aa p) Ch
def Nk:fy c aa p=aa∨i0 (fy c aa p):=vB (f:=jS c aa p) zB
def Pu:gc c aa p=aa∨i0 (gc c aa p):=BD (P:=fun x=>x=aa∨i0 x) (.inl ag) fun r r' oW e0 q9 q9 q9 q9 q9 q9 q9=>.inr ⟨p,Fb (X:=⟨aa,[],[]⟩) _ _ _ (hH (X:=⟨aa,[],[]⟩) e0)⟩
def rD:(ii c aa p).length=aa.length:=xR (f:=HL aa p) Cf
def ut:(ij c aa p).length=aa.length:=xR (f:=Eo aa p) Cg
def uu:(ik c aa p).length=aa.length:=xR (f:=HM aa p) Ch
def r5:(fy c aa p).length=aa.length:=xR (f:=jS c aa p) zB
def rE:(gc c aa p).length=aa.length:=BD (P:=fun x=>x.length=aa.length) ag fun r r' oW q9 q9 q9 q9 q9 q9 q9 q9=>qj.trans (xQ ..)
def adA:(ii c aa p).countP hV≤aa.countP hV:=Fm (f:=HL aa p) Cf
def adB:(ij c aa p).countP hV≤aa.countP hV:=Fm (f:=Eo aa p) Cg
def adC:(ik c aa p).countP hV≤aa.countP hV:=Fm (f:=HM aa p) Ch
def XL:(fy c aa p).countP hV≤aa.countP hV:=Fm (f:=jS c aa p) zB
def adD:(gc c aa p).countP hV≤aa.countP hV:=BD (P:=fun x:aR=>x.countP hV≤aa.countP hV) (c9 _) fun r r' oW e0 e1 e2 q9 q9 q9 q9 q9=>
 a5 (HK (o:=ac oW) uS ((sK (vt _)).trans ((sK (W8 p)).trans e2))) (a5 (HK (o:=ac r') (fun z=>z) ((sK (vt p)).trans e1)) (HK (o:=ac r) uS e0))
end
def XM{aa:aR}{p:af}{r':R}(e1:aa[p+1]? =ac (ac r')):wN aa p au (ac r') au=(aa.set p au).set (p+2) au:=a7 (fun l:aR=>l.set (p+2) au) (TA ((sK (vt p)).trans e1))
def Oj(I:j7 c){t:af}(h:c.bQ t=ak):t≤c.aa.length:=by
 refine sp h (fun h=>sp h (fun h=>?_) fun h=>?_) fun h=>I.aZ t (vi.mp h)
 ·obtain ⟨r,h1,h2⟩:=yl.mp h
  exact d8 h2 fun j e=>cz e▸I.jW r h1 j
 ·obtain ⟨k,h1,h2⟩:=yl.mp h
  exact cz h2▸(I.aK k h1).2.2
def gQ.lH{i:af}{aa:aR}(F:gQ c aE i aa)(I:j7 c):j7 (c.bL aa):=u8 I F.bh fun q r e k=>(F.jW q r e k).elim (Oj I) fun hz=>hz.elim fun q9 h=>ZR (fM.mp h.1).1
def Ci(ok:gN c aE)(I:j7 c):j7 (eQ c):=(u3 ok _).lH I
def UM(ok:gN c aE)(I:j7 c):j7 (gp c):=(wZ ok _).lH I
def Cj(ok:gN c aE)(I:j7 c):j7 (fe c):=(u6 ok _).lH I
def Ck(ok:gN c aE)(I:j7 c):j7 (fv c):=(u5 ok _).1.lH I
def zC(ok:gN c aE)(I:j7 c):j7 (fG c):=(w0 ok _).lH I
def CU{p:af}{r r0:R}(h:dy p r0=ac r)(k:r.ay.aO=ak):r0=r:=by
 unfold dy at h
 exact AD h (fun q9 h=>lG h fun q9 z=>cG (cp z▸k:(R.bk .g6 0 r0.eZ).ay.aO=ak)) fun q9 h=>cp h
def zD(I:j7 c):j7 (cV c):=u8 I sL fun q r e k=>by
 rw [uF] at e
 obtain ⟨r0,h0,h1⟩:=xI.mp e
 exact I.jW r (gM (CU h1 k▸h0)) k
def Cm(I:j7 c):j7 (cX c):=u8 I sL fun q r e k=>by
 rw [qc] at e
 refine aw fun kz=>?_
 obtain ⟨r0,h0,h1⟩:=xI.mp e
 refine kz ?_;try clear kz
 unfold eR at h1
 split at h1
 ·exact I.jW r (gM (cp h1▸h0)) k
 ·exact bn h1
set_option tactic.hygienic true in
def IQ(S:iC c){place:Nat}(hp:place<c.aa.length):∀(k f:Nat),f<c.aa.length→pM c.aa place k f<c.aa.length:=by
 intro k
 induction k with
 |zero=>
  intro f _
  exact hp
 |succ k ih=>
  intro f h
  unfold pM
  split
  ·rename_i r e
   split
   ·rename_i hj
    exact ih r.t (S r (List.mem_of_getElem? e) (by refine aq hj ?_;rfl))
   ·exact h
  ·exact h
def Kx(S:iC c){r:R}(hr:r∈c.aa)(k:(cO c.aa r).ay.aO=ak):(cO c.aa r).t<c.aa.length:=by
 unfold cO at k⊢
 split
 ·rename_i hj
  rw [bD hj] at k
  split
  ·rename_i hc
   rw [bD hc] at k;exact cG k
  ·exact IQ S (S r hr hj) _ _ (S r hr hj)
 ·rename_i hj
  rw [cL hj] at k
  exact bW k hj
def mx(I:j7 c)(S:iC c):dQ c=⟨c.aa.map (cO c.aa),c.aK,c.aZ⟩:=yN I (b9 ..) fun r hr k=>by
 obtain ⟨r0,h0,rfl⟩:=iO.mp hr
 exact jH (Kx S h0 k)
def tL(I:j7 c)(S:iC c):j7 (dQ c)∧iC (dQ c):=by
 refine aq (mx I S) ?_
 have n:(c.aa.map (cO c.aa)).length=c.aa.length:=b9 ..
 have key:∀r∈c.aa.map (cO c.aa),r.ay.aO=ak→r.t<(c.aa.map (cO c.aa)).length:=fun r hr k=>by
  refine aw fun kz=>?_
  obtain ⟨r0,h0,rfl⟩:=iO.mp hr
  refine kz ?_;try clear kz
  exact n.symm▸Kx S h0 k
 exact ⟨⟨fun r hr k=>jH (key r hr k),n.symm▸I.aK,n.symm▸I.aZ,I.Fh⟩,key⟩
def J4(ok:gN c aE)(I:j7 c)(L:∀q,q<c.aa.length→bb c.nc q):iC c∧Gy c:=by
 obtain ⟨h,Ty⟩:=ok.ie
 have ku:∀{q},bb c.nc q→q<c.aa.length:=fun z=>(show (c.aa.map ac).length=c.aa.length from b9 ..)▸Ty.mW _ z
 refine ⟨fun r hr k=>?_,?_⟩
 ·obtain ⟨i,hi⟩:=ww hr
  exact ku (.bp (L i (fM.mp hi).1) (cP.mpr hi) k)
 ·obtain ⟨s,hs⟩:=List.exists_mem_of_ne_nil _ I.Fh
  have afh:=Lw (ku (.cR hs))
  have hl:=LA afh Lz
  have e:=ed (l:=c.aa) hl
  exact ⟨_,e,Rh fun k=>G8 _ (tg afh▸ku (.d7 (L _ hl) (cP.mpr e) k))⟩
end
section
variable{c:Cd}{aE:av}
def o9(c:Cd)(aa:aR):Prop:=(∀(q:af)(r:R),aa[q]? =ac (ac r)→c.aa[q]? =ac r)∧∀(q:af)(r:R),c.aa[q]? =ac r→r.ay.c3=ak→aa[q]? =ac (ac r)
def o9.gW:o9 c (c.aa.map ac):=⟨fun q r e=>cP.mp e,fun q r e q9=>cP.mpr e⟩
def o9.pN{aa:aR}(S:o9 c aa){p:af}{r cf:R}{P:Prop}(e0:aa[p]? =ac (ac r))(h0:r.ay.c3=aF)(e:c.aa[p]? =ac cf)(k:cf.ay.c3=ak):P:=by
 have z:=e0.symm.trans (S.2 _ _ e k)
 cases z
 exact cG (h0.symm.trans k)
def v5{r:R}{op:Op}(c:r.ay=op)(h:op.c3=aF):r.ay.c3=aF:=c▸h
def o9.fW{aa:aR}{p:af}{r r':R}{a:aM R}(S:o9 c aa)(e0:aa[p]? =ac (ac r))(e1:aa[p+1]? =ac (ac r'))(h0:r.ay.c3=aF)(h1:r'.ay.c3=aF)(ha:a=au∨a=ac r):o9 c (e8 aa p a au):=
 ⟨fun q cf=>pO (P:=fun q o=>o=ac (ac cf)→c.aa[q]? =ac cf) e0 e1 (fun {q} _=>S.1 q cf) (fun e=>ha.elim (fun z=>bn (z▸cp e)) fun z=>S.1 _ _ (e0.trans (z▸e))) fun e=>bn (cp e),
  fun q cf=>pO (P:=fun q o=>c.aa[q]? =ac cf→cf.ay.c3=ak→o=ac (ac cf)) e0 e1 (fun {q} _=>S.2 q cf) (fun e k=>S.pN e0 h0 e k) fun e k=>S.pN e1 h1 e k⟩
def UN(m:af):o9 c (cv c ii m):=g7 (P:=fun q9 aa=>o9 c aa) o9.gW fun i aa hi S=>rZ (P:=o9 c) S fun r r' gJ e0 e1 q9 hf=>lG hf fun hc z=>c5 z (d8 hc fun h0 h1=>S.fW e0 e1 (IK h0).1 (v5 (cz h1) ag) (.inl ag))
def UO(m:af):o9 c (cv c ij m):=g7 (P:=fun q9 aa=>o9 c aa) o9.gW fun i aa hi S=>rZ (P:=o9 c) S fun r r' gJ e0 e1 q9 hf=>lG hf fun h1 hf=>AD hf (fun h0 z=>c5 z (S.fW e0 e1 (v5 (cz h0) ag) (v5 (cz h1) ag) (.inl ag))) fun q9 hf=>lG hf fun h0 z=>c5 z (S.fW e0 e1 (v5 (cz h0) ag) (v5 (cz h1) ag) (.inr ag))
def UP(m:af):o9 c (cv c gc m):=g7 (P:=fun q9 aa=>o9 c aa) o9.gW fun i aa hi S=>BD (P:=o9 c) S fun r r' oW e0 e1 e2 h0 h1 h2 q9 q9=>
 ⟨fun q cf=>vz (P:=fun q o=>o=ac (ac cf)→c.aa[q]? =ac cf) e0 e1 e2 (fun {q} _=>S.1 q cf) (fun e=>bn (cp e)) (fun e=>S.1 _ _ (e1.trans e)) fun e=>bn (cp e),
  fun q cf=>vz (P:=fun q o=>c.aa[q]? =ac cf→cf.ay.c3=ak→o=ac (ac cf)) e0 e1 e2 (fun {q} _=>S.2 q cf) (fun e k=>S.pN e0 (v5 h0 ag) e k) (fun e k=>S.pN e1 (IL h1).e e k) fun e k=>S.pN e2 (v5 h2 ag) e k⟩
def o9.ia{aa:aR}(S:o9 c aa)(hl:aa.length=c.aa.length)(St:iC c)(L:Gy c):iC (c.bL aa)∧Gy (c.bL aa):=by
 obtain ⟨rl,e,k⟩:=L
 have e':=S.2 _ _ e k
 have hn:(c.bL aa).aa.length=bY aa (c.aa.length-1)+1:=by
  (rewrite [oJ,← TB];refine aq hl ?_;refine iu (su e') ?_;rw [tg (show 1≤c.aa.length from Lw (fM.mp e).1)])
 refine ⟨fun r hr kk=>Fj hr fun p r0 h1 h3=>?_,?_⟩
 ·rw [h3,jM] at kk
  (refine aq h3 ?_;refine aq (v3 _ kk) ?_;refine aq hn ?_)
  exact Ao (AT aa (Rn (St r0 (gM (S.1 p r0 h1)) kk)))
 ·exact ⟨rl.jZ (bY aa),by refine aq hn ?_;exact cP.mp (jL (X:=c.lT aa) e'),(a7 Op.c3 (jM _ rl)).trans k⟩
structure mY(c:Cd)(aE:av):Prop where
 bm:gN c aE
 lH:j7 c
 ia:iC c
def sS(G:mY c aE):mY (jj c) aE:=by
 have t:=tL G.lH G.ia
 have k1:=oC G.bm
 have k2:=sQ k1.1
 have i2:=zC k1.1 t.1
 have k3:=qX k2.1
 have i3:=Ck k2.1 i2
 have k4:=sR k3.1
 have i4:=zD i3
 have k5:=vA k4.1
 have i5:=Cm i4
 obtain ⟨s5,l5⟩:=J4 k5.1.1 i5 k5.2
 have k6:=qW k5.1.1
 have i6:=Ci k5.1.1 i5
 obtain ⟨s6,l6⟩:=(UN _).ia (cW rD _) s5 l5
 have k7:=u7 k6.1
 have i7:=Cj k6.1 i6
 obtain ⟨s7,l7⟩:=(UP _).ia (cW rE _) s6 l6
 have k8:=CR k7.1
 have i8:=UM k7.1 i7
 obtain ⟨s8,l8⟩:=(UO _).ia (cW ut _) s7 l7
 exact ⟨k8.1,i8,s8⟩
def xS{a b x y:af}(h1:a≤b)(h2:x≤y)(e:a+x=b+y):a=b∧x=y:=Xx h1 h2 e
def UQ{a b:av}(e:(if a=ak then 1 else 0)=if b=ak then 1 else 0)(h:b=ak):a=ak:=by
 rw [h] at e
 induction a
 ·cases e
 ·rfl
def xT{l:ao R}:∀{f:af→R→aM R},(∀p r,hV (f p r)=ak→r.ay.aO=ak)→(l.mapIdx f).countP hV≤l.countP (·.ay.aO)∧((l.mapIdx f).countP hV=l.countP (·.ay.aO)→∀q r,l[q]? =ac r→r.ay.aO=ak→hV (f q r)=ak):=by
 induction l with
 |nil=>exact fun q9=>⟨c9 _,fun q9 q r h=>bn h⟩
 |cons x l ih=>
  intro f hf
  obtain ⟨h1,h2⟩:=ih (f:=fun i=>f (i+1)) fun p r=>hf (p+1) r
  (refine aq List.mapIdx_cons ?_;refine aq uH ?_;refine aq uH ?_)
  have hx:=TC (hf 0 x)
  refine ⟨tq h1 hx,fun e q r hq k=>?_⟩
  obtain ⟨k1,k2⟩:=xS h1 hx e
  induction q with
  |zero=>
   obtain rfl:x=r:=cp hq
   exact UQ k2 k
  |succ q=>exact h2 k1 q r hq k
def Cn(f:af→R→aM R):Jn (c.bL (c.aa.mapIdx f))=(c.aa.mapIdx f).countP hV:=Fi _
def IR:∀p r,hV (dy p r)=ak→r.ay.aO=ak:=fun p r h=>Mu h fun r' e k=>CU e k▸k
def XN:∀p r,hV (eR c p r)=ak→r.ay.aO=ak:=fun p r h=>by
 unfold eR at h
 split at h
 ·exact h
 ·exact cG h
def adE(r:R)(h:(cO c.aa r).ay.aO=ak):r.ay.aO=ak:=by
 unfold cO at h
 split at h
 ·assumption
 ·exact h
def Nl(I:j7 c)(S:iC c):Jn (dQ c)≤Jn c∧(Jn (dQ c)=Jn c→∀r∈c.aa,r.ay.aO=ak→(cO c.aa r).ay.aO=ak):=by
 have e:Jn (dQ c)=(c.aa.mapIdx fun q9 r=>ac (cO c.aa r)).countP hV:=by
  rw [mx I S,show (c.aa.mapIdx fun q9 r=>ac (cO c.aa r))=(c.aa.map (cO c.aa)).map ac from Au fun q=>by
   rw [uF,j9,j9]
   cases c.aa[q]? <;>rfl]
  exact (show _=(c.aa.map (cO c.aa)).countP (hV ∘ ac) from ag).trans RQ.symm
 obtain ⟨h1,h2⟩:=xT (l:=c.aa) (f:=fun q9 r=>ac (cO c.aa r)) fun q9 r h=>adE r h
 exact ⟨e▸h1,fun h r hr k=>(ww hr).elim fun i hi=>h2 (e▸h) i r hi k⟩
def HN(I:j7 c)(S:iC c):(dQ c).aa.length=c.aa.length:=mx I S▸b9 ..
def Pv(I:j7 c)(h:(eQ c).aa.length=c.aa.length):eQ c=c∧∀p<c.aa.length-1,ii c (c.aa.map ac) p=c.aa.map ac:=oK Pq rD I h
def Pw(I:j7 c)(h:(gp c).aa.length=c.aa.length):gp c=c∧∀p<c.aa.length-1,ij c (c.aa.map ac) p=c.aa.map ac:=oK Pr ut I h
def Px(I:j7 c)(h:(fv c).aa.length=c.aa.length):fv c=c∧∀p<c.aa.length-1,ik c (c.aa.map ac) p=c.aa.map ac:=oK Ps uu I h
def Nm(I:j7 c)(h:(fG c).aa.length=c.aa.length):fG c=c∧∀p<c.aa.length-1,fy c (c.aa.map ac) p=c.aa.map ac:=oK Nk r5 I h
def Py(I:j7 c)(h:(fe c).aa.length=c.aa.length):fe c=c∧∀p<c.aa.length-2,gc c (c.aa.map ac) p=c.aa.map ac:=oK Pu rE I h
def J5{f:af→R→aM R}(h:(c.bL (c.aa.mapIdx f)).aa.length=c.aa.length):∀(q:af)(r:R),c.aa[q]? =ac r→f q r≠au:=fun q r e z=>by
 have:=CS (aa:=c.aa.mapIdx f) ⟨q,by (rewrite [uF];refine aq e ?_);exact a7 ac z⟩
 rw [sL] at this
 exact nv this ((oJ _).symm.trans h)
def Fn{f:af→R→aM R}(h:∀(q:af)(r:R),c.aa[q]? =ac r→f q r=ac r):c.aa.mapIdx f=c.aa.map ac:=Au fun q=>by
 rw [uF,j9]
 cases e:c.aa[q]? with
 |none=>rfl
 |some r=>exact a7 ac (h q r e)
def Pz(I:j7 c)(h:(cX c).aa.length=c.aa.length):cX c=c∧∀q,q<c.aa.length→bb c.nc q:=by
 have MA:∀q,q<c.aa.length→bb c.nc q:=fun q hq=>by
  have:=J5 h q _ (ed hq)
  unfold eR at this
  split at this
  ·assumption
  ·exact bW ag this
 refine ⟨?_,MA⟩
 unfold cX
 rw [Fn (f:=eR c) fun q r e=>bD (MA q (fM.mp e).1)];exact tK I
def Nn(I:j7 c)(h:(cV c).aa.length=c.aa.length)(hj:Jn (cV c)=Jn c):cV c=c∧∀(q:af)(r:R),c.aa[q]? =ac r→r.ay.aO=ak→r.t≠q+1:=by
 have hJ:=(xT (l:=c.aa) (f:=dy) IR).2 ((Cn _).symm.trans hj)
 have no:∀(q:af)(r:R),c.aa[q]? =ac r→r.ay.aO=ak→r.t≠q+1:=fun q r e k z=>by
  have h1:=hJ q r e k
  unfold dy ki at h1
  rw [bD (jY.mpr ⟨k,mi.mpr z⟩)] at h1
  split at h1<;>exact cG h1
 refine ⟨?_,no⟩
 unfold cV
 refine aq (Fn (f:=dy) fun q r e=>cL fun hc=>d8 hc fun k z=>no q r e k (cz z)) ?_;exact tK I
end
def UR{a b n:af}(h:b≤n)(e:b=a-1):a≤n+1:=Nat.le_succ_of_pred_le (a5 (lm e.symm) h)
def IS(n:af):∀(l:ao af),l.Nodup→(∀x∈l,x<n)→l.length≤n:=by
 induction n with
 |zero=>
  intro l _ h
  induction l with
  |nil=>exact c9 _
  |cons x l=>exact bW (h x fF) (yh _)
 |succ n ih=>
   intro l hn h
   have h1:=ih (l.erase n) (hn.erase n) fun x hx=>DM (uf (h x (List.mem_of_mem_erase hx))) fun e=>(List.Nodup.not_mem_erase hn) (e▸hx)
   have h2:=List.length_erase (a:=n) (l:=l)
   split at h2
   ·exact UR h1 h2
   ·exact ti (h2▸h1)
def adF(n:af)(f:af→af)(h:∀i,i≤n→f i<n):∃i j,i<j∧j≤n∧f i=f j:=by
 apply Sq
 intro hno
 have nd:((gw (n+1)).map f).Nodup:=by
  rw [List.Nodup,List.pairwise_map]
  exact afN (R:=(·< ·)) (fun {a b} ha hb hab e=>hno ⟨a,b,hab,uf (qk.mp hb),e⟩) List.pairwise_lt_range
 have:=IS n _ nd fun x hx=>by
  obtain ⟨i,hi,rfl⟩:=iO.mp hx
  exact h i (uf (qk.mp hi))
 rw [b9,sM] at this
 exact Ro n this
section
variable{c:Cd}{aE:av}
def iS(aa:ao R)(p:af):av:=match aa[p]? with
 |some r=>r.ay== .bp
 |none=>aF
noncomputable def IT(aa:ao R)(p:af):af:=match aa[p]? with
 |some r=>r.t
 |none=>p
def oY(aa:ao R):af→af→af
 | 0,p=>p
 |k+1,p=>oY aa k (IT aa p)
def pZ(aa:ao R)(k:af):∀p:af,oY aa (k+1) p=IT aa (oY aa k p):=by
 induction k with
 |zero=>exact fun p=>ag
 |succ k ih=>exact fun p=>ih (IT aa p)
def AU(aa:ao R)(j k p:af):oY aa (j+k) p=oY aa j (oY aa k p):=by
 induction j with
 |zero=>rw [nu];rfl
 |succ j ih=>(rewrite [ZY,pZ];refine aq ih ?_;rw [← pZ])
def CV(aa:ao R)(place k f:af):pM aa place (k+1) f=if iS aa f=ak then pM aa place k (IT aa f) else f:=by
 show (match aa[f]? with|some r=>if r.ay=Op.bp then pM aa place k r.t else f|none=>f)=_
 unfold iS IT
 cases aa[f]? with
 |none=>rfl
 |some r=>exact ite_congr (propext mi.symm) (fun q9=>ag) fun q9=>ag
def zE(aa:ao R)(place k:af):∀f:af,(∀j<k,iS aa (oY aa j f)=ak)→pM aa place k f=place:=by
 induction k with
 |zero=>exact fun q9 q9=>ag
 |succ k ih=>exact fun f h=>((CV ..).trans (bD (h 0 (qI k)))).trans (ih _ fun j hj=>h (j+1) (Lx hj))
def CW(aa:ao R)(place k:af):∀f j:af,j<k→iS aa (oY aa j f)=aF→(∀i<j,iS aa (oY aa i f)=ak)→pM aa place k f=oY aa j f:=by
 induction k with
 |zero=>exact fun f j h=>bW h (yh j)
 |succ k ih=>
  intro f j hj h hb
  rw [CV]
  induction j with
  |zero=>exact cL (wm.mp h)
  |succ j=>exact (bD (hb 0 (qI j))).trans (ih _ j (Rm hj) h fun i hi=>hb (i+1) (Lx hi))
def Gz{p:af}{P:Prop}(h:iS c.aa p=ak)(k:∀r,c.aa[p]? =ac r→r.ay=.bp→IT c.aa p=r.t→P):P:=by
 unfold iS at h
 unfold IT at k
 cases e:c.aa[p]? with
 |none=>rw [e] at h;exact cG h
 |some r=>
  rw [e] at h k
  exact k r ag (cz h) ag
def US{p:af}(h:iS c.aa p=ak):p<c.aa.length:=Gz h fun r e q9 q9=>(fM.mp e).1
def adG(S:iC c){p:af}(h:iS c.aa p=ak):IT c.aa p<c.aa.length:=Gz h fun r e o n=>n▸S r (gM e) (by refine aq o ?_;rfl)
def XO{m i j:af}(Tf:i<j)(hj:j≤m):(m-j)+i<m:=adc Tf hj
def UT(S:iC c){p:af}(h:∀j<c.aa.length,iS c.aa (oY c.aa j p)=ak)(hp:p<c.aa.length):∀j,iS c.aa (oY c.aa j p)=ak:=by
 obtain ⟨i,j,Tf,hj,e⟩:=adF c.aa.length (fun k=>oY c.aa k p) fun i hi=>by
  induction i with
  |zero=>exact hp
  |succ i=>exact pZ c.aa i p▸adG S (h i hi)
 intro m
 induction m using ZW with
 |ind m ih=>
  by_cases hm:m<c.aa.length
  ·exact h m hm
  ·have hjm:=a5 hj (vh hm)
   (refine iu (tg hjm) ?_;rewrite [AU];refine iu e ?_;rw [← AU])
   exact ih _ (XO Tf hjm)
def UU{P:af→av}{j:af}(h:P j=aF):∃j,P j=aF∧∀i<j,P i=ak:=by
 induction j using ZW with
 |ind j ih=>exact (aa8 (∃i,i<j∧P i=aF)).elim (fun jF=>by obtain ⟨i,hi,hq⟩:=jF;exact ih i hi hq) fun q=>⟨j,h,fun i hi=>Rh fun e=>q ⟨i,hi,e⟩⟩
def Fo(S:iC c){p:af}(hp:p<c.aa.length):(∃j,j<c.aa.length∧iS c.aa (oY c.aa j p)=aF∧(∀i<j,iS c.aa (oY c.aa i p)=ak)∧pz c.aa p=oY c.aa j p)∨((∀j,iS c.aa (oY c.aa j p)=ak)∧pz c.aa p=p):=by
 by_cases h:∀j<c.aa.length,iS c.aa (oY c.aa j p)=ak
 ·exact .inr ⟨UT S h hp,zE _ _ _ _ h⟩
 ·left
  obtain ⟨j,hj⟩:∃j,iS c.aa (oY c.aa j p)=aF:=Sq fun hno=>h fun j q9=>Rh fun e=>hno ⟨j,e⟩
  obtain ⟨j,h1,h2⟩:=UU (P:=fun j=>iS c.aa (oY c.aa j p)) hj
  have hj:j<c.aa.length:=Rq fun hle=>h fun i hi=>h2 i (iN hi hle)
  exact ⟨j,hj,h1,h2,CW _ _ _ _ j hj h1 h2⟩
def Fp(nl:∀r∈c.aa,r.ay.aO=ak→(cO c.aa r).ay.aO=ak){r:R}(hr:r∈c.aa):cO c.aa r=if r.ay.aO then {r with t:=pz c.aa r.t} else r:=by
 have:=nl r hr
 unfold cO at this⊢
 split
 ·rename_i hj
  split
  ·rename_i hc
   have:=this hj
   rw [bD hj,bD hc] at this
   exact cG this
  ·rfl
 ·rfl
def PA(S:iC c)(nl:∀r∈c.aa,r.ay.aO=ak→(cO c.aa r).ay.aO=ak){t:af}(ht:t<c.aa.length):pz (c.aa.map (cO c.aa)) (pz c.aa t)=pz c.aa t:=by
 have at1:∀q:af,(c.aa.map (cO c.aa))[q]? =(c.aa[q]?).map (R.jZ (pz c.aa)):=fun q=>by
  rw [j9]
  cases e:c.aa[q]? with
  |none=>rfl
  |some r=>exact a7 ac (Fp nl (gM e))
 have j1:∀q,iS (c.aa.map (cO c.aa)) q=iS c.aa q:=fun q=>by
  unfold iS
  rw [at1]
  cases c.aa[q]? with
  |none=>rfl
  |some r=>exact a7 (· ==Op.bp) (jM _ r)
 show pM (c.aa.map (cO c.aa)) (pz c.aa t) (c.aa.map (cO c.aa)).length (pz c.aa t)=pz c.aa t
 rw [b9]
 rcases Fo S ht with ⟨j,hj,h1,h2,h3⟩|⟨h1,h2⟩
 ·refine aq h3 ?_;exact CW _ _ _ _ 0 (Lw hj) ((j1 _).trans h1) fun i hi=>bW hi (yh i)
 ·have n1:∀k,IT (c.aa.map (cO c.aa)) (oY c.aa k t)=IT c.aa (oY c.aa k t):=fun k=>Gz (h1 k) fun r e o n=>by
   have y:pz c.aa r.t=r.t:=n▸pZ c.aa k t▸zE _ _ _ _ fun j q9=>AU c.aa j (k+1) t▸h1 _
   refine aq n ?_
   unfold IT
   (rewrite [at1];refine aq e ?_)
   exact (v3 _ (by refine aq o ?_;rfl)).trans y
  have i1:∀k,oY (c.aa.map (cO c.aa)) k t=oY c.aa k t:=fun k=>by
   induction k with
   |zero=>rfl
   |succ k ih=>(rewrite [pZ,pZ];refine aq ih ?_;rw [n1])
  refine aq h2 ?_;exact zE _ _ _ _ fun j q9=>i1 j▸(j1 _).trans (h1 j)
def iq(c:Cd)(aE:av):Prop:=(mY c aE)∧(dQ c=c)∧(∀r∈c.aa,r.ay.aO=ak→(cO c.aa r).ay.aO=ak)∧(fG c=c∧∀p<c.aa.length-1,fy c (c.aa.map ac) p=c.aa.map ac)∧(fv c=c∧∀p<c.aa.length-1,ik c (c.aa.map ac) p=c.aa.map ac)∧(cV c=c∧∀(q:af)(r:R),c.aa[q]? =ac r→r.ay.aO=ak→r.t≠q+1)∧(cX c=c∧∀q,q<c.aa.length→bb c.nc q)∧(eQ c=c∧∀p<c.aa.length-1,ii c (c.aa.map ac) p=c.aa.map ac)∧(fe c=c∧∀p<c.aa.length-2,gc c (c.aa.map ac) p=c.aa.map ac)∧(gp c=c∧∀p<c.aa.length-1,ij c (c.aa.map ac) p=c.aa.map ac)
section
variable{c:Cd}{aE:av}(s0:iq c aE)
include s0
def iq.gZ:mY c aE:=s0.1
def iq.Co:dQ c=c:=s0.2.1
def iq.jW:∀r∈c.aa,r.ay.aO=ak→(cO c.aa r).ay.aO=ak:=s0.2.2.1
def iq.MB:fG c=c∧∀p<c.aa.length-1,fy c (c.aa.map ac) p=c.aa.map ac:=s0.2.2.2.1
def iq.Ky:fv c=c∧∀p<c.aa.length-1,ik c (c.aa.map ac) p=c.aa.map ac:=s0.2.2.2.2.1
def iq.SM:cV c=c∧∀(q:af)(r:R),c.aa[q]? =ac r→r.ay.aO=ak→r.t≠q+1:=s0.2.2.2.2.2.1
def iq.PB:cX c=c∧∀q,q<c.aa.length→bb c.nc q:=s0.2.2.2.2.2.2.1
def iq.Kz:eQ c=c∧∀p<c.aa.length-1,ii c (c.aa.map ac) p=c.aa.map ac:=s0.2.2.2.2.2.2.2.1
def iq.KA:fe c=c∧∀p<c.aa.length-2,gc c (c.aa.map ac) p=c.aa.map ac:=s0.2.2.2.2.2.2.2.2.1
def iq.MC:gp c=c∧∀p<c.aa.length-1,ij c (c.aa.map ac) p=c.aa.map ac:=s0.2.2.2.2.2.2.2.2.2
end
def mu(c:Cd):af:=c.aa.length+Jn c
def PD:(cV c).aa.length≤c.aa.length:=t8 sL
def UV:(cX c).aa.length≤c.aa.length:=t8 sL
def XQ:Jn (cV c)≤Jn c:=by
 unfold cV
 rw [Cn];exact (xT IR).1
def adH:Jn (cX c)≤Jn c:=by
 unfold cX
 rw [Cn];exact (xT XN).1
def XR(G:mY c aE)(nl:∀r∈c.aa,r.ay.aO=ak→(cO c.aa r).ay.aO=ak){rs:ao R}(er:rs=c.aa.map (cO c.aa)):∀r∈rs,cO rs r=r:=fun r hr=>by
 rw [er] at hr
 refine aw fun kz=>?_
 obtain ⟨r0,h0,rfl⟩:=iO.mp hr
 refine kz ?_;try clear kz
 refine aq (Fp nl h0) ?_
 split
 ·rename_i hj
  have tw:pz rs (pz c.aa r0.t)=pz c.aa r0.t:=er▸PA G.ia nl (G.ia r0 h0 hj)
  have lv:io rs (pz c.aa r0.t)=ak→io c.aa (pz c.aa r0.t)=ak:=by
   refine aq er ?_
   unfold io
   rw [j9]
   cases ee:c.aa[pz c.aa r0.t]? with
   |none=>exact id
   |some rr=>
    exact fun z=>(a7 (fun r:R=>r.ay==Op.dY) (Fp nl (gM ee))).trans (a7 (· ==Op.dY) (jM _ rr))|>.symm.trans z
  have nlv:¬(r0.ay== .bp&&io rs (pz c.aa r0.t))=ak:=fun hc=>d8 hc fun o hl=>by
   have:=nl r0 h0 hj
   unfold cO at this
   rw [bD hj,bD (jY.mpr ⟨o,lv hl⟩)] at this
   exact cG this
  unfold cO
  dsimp only
  (refine aq (bD hj) ?_;refine aq tw ?_;refine aq (cL nlv) ?_;rfl)
 ·rename_i hj
  exact cL hj
def SN(a b:Cd)(Q:Prop):Prop:=mu b≤mu a∧(mu b=mu a→b=a∧Q)
def p6{a b:Cd}{Q:Prop}(hl:b.aa.length≤a.aa.length)(hj:Jn b≤Jn a)(s:b.aa.length=a.aa.length→Jn b=Jn a→b=a∧Q):SN a b Q:=⟨tq hl hj,fun e=>s (xS hl hj e).1 (xS hl hj e).2⟩
def SN.v6{a b d:Cd}{Q:Prop}{R:Cd→Prop}(h:SN a b Q)(r:mu d<mu b∨(mu d=mu b∧d=b∧R b)):mu d<mu a∨(mu d=mu a∧d=a∧Q∧R a):=
 r.elim (fun z=>.inl (iN z h.1)) fun jF=>by obtain ⟨e,e',r⟩:=jF;exact (Rp h.1).elim (fun z=>.inl (e▸z)) fun z=>.inr ⟨e.trans z,e'.trans (h.2 z).1,(h.2 z).2,(h.2 z).1▸r⟩
noncomputable abbrev HO(c:Cd)(f:Cd→Cd)(step:Cd→aR→af→aR)(k:af):Prop:=f c=c∧∀p<c.aa.length-k,step c (c.aa.map ac) p=c.aa.map ac
def C7(c:Cd):Prop:=HO c gp ij 1∧kD
def C6(c:Cd):Prop:=HO c fe gc 2∧C7 c
def C5(c:Cd):Prop:=HO c eQ ii 1∧C6 c
def C4(c:Cd):Prop:=(cX c=c∧∀q,q<c.aa.length→bb c.nc q)∧C5 c
def C3(c:Cd):Prop:=(cV c=c∧∀(q:af)(r:R),c.aa[q]? =ac r→r.ay.aO=ak→r.t≠q+1)∧C4 c
def C2(c:Cd):Prop:=HO c fv ik 1∧C3 c
def aiD(c:Cd):Prop:=HO c fG fy 1∧C2 c
def AE{Q:Prop}{b:Cd}(h:b=c∧Q):b=c∧b=c∧Q:=⟨h.1,h⟩
def XS(ok:gN c aE)(I:j7 c){d:Cd}(e:d=gp (fe (eQ (cX (cV (fv (fG c))))))):mu d<mu c∨(mu d=mu c∧d=c∧aiD c):=by
 have k2:=sQ ok
 have i2:=zC ok I
 have k3:=qX k2.1
 have i3:=Ck k2.1 i2
 have k4:=sR k3.1
 have i4:=zD i3
 have k5:=(vA k4.1).1
 have i5:=Cm i4
 have k6:=qW k5.1
 have i6:=Ci k5.1 i5
 have i7:=Cj k6.1 i6
 refine (p6 (t8 (cW r5 _)) (BE XL _) fun l q9=>AE (Nm I l)).v6 (R:=C2) ?_
 refine (p6 (t8 (cW uu _)) (BE adC _) fun l q9=>AE (Px i2 l)).v6 (R:=C3) ?_
 refine (p6 PD XQ fun l j=>AE (Nn i3 l j)).v6 (R:=C4) ?_
 refine (p6 UV adH fun l j=>AE (Pz i4 l)).v6 (R:=C5) ?_
 refine (p6 (t8 (cW rD _)) (BE adA _) fun l q9=>AE (Pv i5 l)).v6 (R:=C6) ?_
 refine (p6 (t8 (cW rE _)) (BE adD _) fun l q9=>AE (Py i6 l)).v6 (R:=C7) ?_
 refine (p6 (t8 (cW ut _)) (BE adB _) fun l q9=>AE (Pw i7 l)).v6 (R:=fun c=>kD) ?_
 exact .inr ⟨a7 mu e,e,di⟩
def UW(G:mY c aE):mu (jj c)<mu c∨(mu (jj c)=mu c∧jj c=dQ c∧iq (dQ c) aE):=by
 have t:=tL G.lH G.ia
 have k1:=oC G.bm
 have l1:=HN G.lH G.ia
 have j1:=Nl G.lH G.ia
 have hm:mu (dQ c)≤mu c:=tq (lm l1) j1.1
 refine (XS k1.1 t.1 (d:=jj c) ag).elim (fun z=>.inl (iN z hm)) fun hz=>?_
 obtain ⟨e,e',q1,q2,q3,q4,q5,q6,q7,_⟩:=hz
 refine (Rp hm).elim (fun z=>.inl (ni (lm e) z)) fun z=>.inr ⟨e.trans z,e',⟨k1.1,t.1,t.2⟩,?_,?_,q1,q2,q3,q4,q5,q6,q7⟩
 all_goals
  have key:=XR G (j1.2 (xS (lm l1) j1.1 z).2) (a7 Cd.aa (mx G.lH G.ia))
 ·exact (mx t.1 t.2).trans (a7 (Cd.mk · _ _) (Ce key))
 ·exact fun r hr hj=>(a7 (fun r:R=>r.ay.aO) (key r hr)).trans hj
end
def XT{r:R}{aE:av}(c:r.ay=.dh)(h:r.bm aE=ak):iB r.a=ak:=by
 obtain ⟨op,t,a,b,c',l⟩:=r
 obtain rfl:op=.dh:=c
 exact yJ (yJ h)
def fa(r:R):am:=if r.ay.aO then .ae r.t else r.a
def BF(x y:am):av:=(qs 1 x y).getD aF
def GA(r r':R):av:=r.ay==r'.ay&&(BF (fa r) (fa r')&&(BF r.b r'.b&&BF r.c r'.c))
def jN:ao R→ao R→av
 |[],[] =>ak
 |r::l,r'::l'=>GA r r'&&jN l l'
 |_,_=>aF
def J6:∀{l l':ao R},jN l l'=ak→l.length=l'.length∧l.countP (·.ay.aO)=l'.countP (·.ay.aO):=by
 intro l
 induction l with
 |nil=>
  intro l'
  rcases l' with _|⟨_,_⟩
  ·intro _
   exact ⟨ag,ag⟩
  ·intro h
   exact cG h
 |cons r l ih=>
  intro l'
  rcases l' with _|⟨r',l'⟩
  ·intro h
   exact cG h
  ·intro h
   simp only [jN,G5] at h
   obtain ⟨h1,h2⟩:=ih h.2
   unfold GA at h
   simp only [G5,mi] at h
   (refine aq uH ?_;refine aq uH ?_;refine aq h.1.1 ?_;refine aq o3 ?_;refine aq o3 ?_;refine aq h1 ?_;refine aq h2 ?_)
   exact ⟨ag,ag⟩
def dz:af→Cd→Cd
 | 0,c=>c
 |k+1,c=>if jN (jj c).aa c.aa then jj c else dz k (jj c)
section
variable{c:Cd}{aE:av}
def iq.jj(h:iq c aE):jj c=c:=by
 unfold Mine.jj
 (refine aq h.Co ?_;refine aq h.MB.1 ?_;refine aq h.Ky.1 ?_;refine aq h.SM.1 ?_;refine aq h.PB.1 ?_;refine aq h.Kz.1 ?_;refine aq h.KA.1 ?_;refine aq h.MC.1 ?_;rfl)
def iq.AV(h:iq c aE):∀k,dz k c=c
 | 0=>ag
 |k+1=>by
  unfold dz
  refine aq h.jj ?_
  split
  ·rfl
  ·exact h.AV k
def adI{op:Op}(h:(op==Op.mD)=ak):¬(op==Op.cA)=ak:=by
 refine aq (cz h) ?_;exact mI
def XU(k:af):∀{c:Cd},mY c aE→mu c+1≤k→iq (dz k c) aE∧fK c.nc (dz k c).nc:=by
 induction k with
 |zero=>exact fun q9 h=>bW h (Nat.not_succ_le_zero _)
 |succ k ih=>
  intro c G h
  have kr:=Nj G.bm
  unfold dz
  refine (UW G).elim (fun hm=>?_) fun ⟨hm,hr,R⟩=>?_
  ·split
   ·rename_i hs
    have e:=J6 hs
    exact bW hm (lw.mpr (lm (show c.aa.length+Jn c=(jj c).aa.length+Jn (jj c) from congr (a7 Nat.add e.1.symm) e.2.symm)))
   ·have e:=ih (sS G) (a5 hm (wo h))
    exact ⟨e.1,kr.2.aX e.2⟩
  ·rw [← hr] at R
   split
   ·exact ⟨R,kr.2⟩
   ·rw [R.AV];exact ⟨R,kr.2⟩
def iq.thr(h:iq c aE){r:R}(hr:r∈c.aa):cO c.aa r=r:=by
 have e:=mx h.gZ.lH h.gZ.ia
 rw [h.Co] at e
 have e1:c.aa=c.aa.map (cO c.aa):=a7 Cd.aa e
 obtain ⟨i,hi⟩:=ww hr
 have:=a7 (fun l:ao R=>l[i]?) e1
 rw [j9,hi] at this
 exact (cp this).symm
def iq.pz(h:iq c aE){r:R}(hr:r∈c.aa)(hj:r.ay.aO=ak):pz c.aa r.t=r.t∧(r.ay=.bp→io c.aa r.t=aF):=by
 have e:=h.thr hr
 rw [Fp h.jW hr,bD hj] at e
 have e1:Mine.pz c.aa r.t=r.t:=a7 R.t e
 refine ⟨e1,fun hop=>?_⟩
 cases hl:io c.aa r.t with
 |false=>rfl
 |true=>
  have:=h.jW r hr hj
  unfold cO at this
  rw [bD hj,bD (by (refine aq e1 ?_;refine aq hl ?_;refine aq hop ?_);rfl)] at this
  exact cG this
def Ok{gJ:aR}(h:gJ=c.aa.map ac):¬i0 gJ:=fun ⟨q,e⟩=>by
 rw [h] at e;exact xm q e
def iq.PE(h:iq c aE){p:af}{r r':R}(e0:c.aa[p]? =ac r)(e1:c.aa[p+1]? =ac r')(hm:c.bQ (p+1)=aF):
  (r.ay.kh&&r'.ay== .g6)=aF∧((r.ay== .cA||r.ay== .mD)&&r'.ay== .cA)=aF∧(r.ay== .dh&&r'.ay.aV)=aF∧(r.ay.aV&&r'.ay== .bp&&r.t==p+2)=aF∧
  (r.ay== .dh&&r'.ay== .bp&&(match c.aa[r'.t]? with|some rl=>rl.ay.aV|none=>aF))=aF:=by
 have hp:p<c.aa.length-1:=ZO (fM.mp e1).1
 have n0:(c.aa.map ac)[p]? =ac (ac r):=cP.mpr e0
 have n1:(c.aa.map ac)[p+1]? =ac (ac r'):=cP.mpr e1
 have hit:∀{f:R→R→aM aR}{a b:aM R},lU c (c.aa.map ac) p f=c.aa.map ac→f r r'=ac (e8 (c.aa.map ac) p a b)→(a=au∨b=au)→dj:=fun {f a b} h hf hn=>by
  unfold lU at h
  rw [n0,n1] at h
  refine Ok ((?_:_=_).trans h) (Fk n0 n1 hn)
  show _=if c.bQ (p+1)=ak then _ else (f r r').getD _
  (refine aq hm ?_;refine aq hf ?_);rfl
 refine ⟨wm.mpr fun z=>hit (f:=HL _ p) (h.Kz.2 p hp) (bD z) (.inl ag),wm.mpr fun z=>d8 z fun z1 z2=>sp z1 (fun q=>hit (f:=Eo _ p) (h.MC.2 p hp) ((bD z2).trans (bD q)) (.inl ag)) fun q=>hit (f:=Eo _ p) (h.MC.2 p hp) ((bD z2).trans ((cL (adI q)).trans (bD q))) (.inr ag),wm.mpr fun z=>d8 z fun z1 z2=>hit (f:=jS c _ p) (h.MB.2 p hp) ((bD z1).trans (bD z2)) (.inl ag),wm.mpr fun z=>hit (f:=HM _ p) (h.Ky.2 p hp) (bD z) (.inr ag),?_⟩
 cases e:c.aa[r'.t]? with
 |none=>exact uB _
 |some rl=>exact wm.mpr fun z=>d8 z fun z1 zb=>d8 z1 fun z0 zj=>hit (f:=jS c _ p) (h.MB.2 p hp) ((bD z0).trans ((cL (by refine aq (cz zj) ?_;exact mI)).trans ((bD zj).trans (by refine aq e ?_;exact bD zb)))) (.inl ag)
def iq.adJ(h:iq c aE){p:af}{r r' oW:R}(e0:c.aa[p]? =ac r)(e1:c.aa[p+1]? =ac r')(e2:c.aa[p+2]? =ac oW)(hm:c.bQ (p+1)=aF)(hm2:c.bQ (p+2)=aF):(r.ay== .mD&&r'.ay.fU&&oW.ay== .g6)=aF:=by
 have hp:p<c.aa.length-2:=ZO (fM.mp e2).1
 have n0:(c.aa.map ac)[p]? =ac (ac r):=cP.mpr e0
 refine wm.mpr fun z=>?_
 have s:=h.KA.2 p hp
 unfold gc at s
 rw [n0,show (c.aa.map ac)[p+1]? =ac (ac r') from cP.mpr e1,show (c.aa.map ac)[p+2]? =ac (ac oW) from cP.mpr e2] at s
 exact Ok ((bD (by (refine aq z ?_;refine aq hm ?_;refine aq hm2 ?_);rfl)).symm.trans s) ⟨p,Fb (X:=⟨c.aa.map ac,[],[]⟩) au (ac r') au (hH (X:=⟨c.aa.map ac,[],[]⟩) n0)⟩
end
def ai{α:Type}{o:aM α}{K:α→Prop}{a:α}(h:o=ac a)(k:K a):@Rg α (fun q9=>Prop) dj K o:=h▸k
def ig{t:av}{a b:Prop}(h:t=ak)(k:a):@Lu (fun q9=>Prop) b a t:=h▸k
def dH{t:av}{a b:Prop}(h:t=aF)(k:b):@Lu (fun q9=>Prop) b a t:=h▸k
def bj{t:av}{a b:Prop}(h:t=ak→a)(k:t=aF→b):@Lu (fun q9=>Prop) b a t:=by
 induction t with
 |true=>exact h ag
 |false=>exact k ag
def b8{Q:KE}{v:aC}{σ1 σ2:an}(q:Q v σ2)(h:σ1=σ2):Q v σ1:=h▸q
structure PC(C:bw)(k:af)(args:ao aC)(x:am):Prop where
 eu:∀(σ:an)(Q:KE),Q (.f x) σ→C k args σ Q
def pc{C C':bw}{k:af}{args:ao aC}{x:am}(e:C=C')(h:PC C' k args x){σ:an}{Q:KE}(q:Q (.f x) σ):C k args σ Q:=e▸h.eu σ Q q
def MD{d k:af}{args as:ao aC}{F:cH}{b:bK}{σ:an}{Q:KE}(h:∀C:bw,C=vC a4 d→E5 ⟨a4,C⟩ F b as σ Q)(h1:a4.tZ[k]? =ac F)(h2:F.bA=.bf b)(h3:o7 F args=ac as)(h4:lx k 1000=ak):vC a4 (d+1) k args σ Q:=
 ig h4 (ai h1 (by refine aq h2 ?_;exact ai h3 (h _ ag)))
def pf{d k:af}{args as:ao aC}{F:cH}{b:bK}{x:am}(h1:a4.tZ[k]? =ac F)(h2:F.bA=.bf b)(h3:o7 F args=ac as)(h4:lx k 1000=ak)(h:∀(C:bw),C=vC a4 d→∀(σ:an)(Q:KE),Q (.f x) σ→E5 ⟨a4,C⟩ F b as σ Q):PC (vC a4 (d+1)) k args x:=
 ⟨fun σ Q q=>MD (fun C e=>h C e σ Q q) h1 h2 h3 h4⟩
def agq{γ:Type}{body:bJ→an→KS→Prop}{xs:ao af}{tp:av}{K:KS}(hp:af→an)(lc:af→γ→bJ):∀{items:ao am}{k:af}{g:γ},
  (∀(i:af)(v:am)(g:γ)(N:bJ→an→Prop),items[i]? =ac v→(∀g,N (lc (k+i+1) g) (hp (k+i+1)))→lE (lc (k+i) g) xs tp v fun dw=>body dw (hp (k+i)) (lF N K))→
  (∀g,K .aS (lc (k+items.length) g) (hp (k+items.length)))→lP body xs tp K items (lc k g) (hp k):=by
 intro items
 induction items with
 |nil=>
  intro _ _ _ hK
  exact hK _
 |cons v vs ih=>
  intro k g h hK
  exact h 0 v g _ ag fun g=>ih (k:=k+1) (fun i v g N hi hN=>qT k 1 i▸h (i+1) v g N hi (qT k 1 i▸hN)) (qT k 1 vs.length▸hK)
def abL{γ:Type}{body:bJ→an→KS→Prop}{xs:ao af}{tp:av}{K:KS}(hp:af→an)(lc:af→γ→bJ){items:ao am}{g:γ}
  (h:∀(i:af)(v:am)(g:γ)(N:bJ→an→Prop),items[i]? =ac v→(∀g,N (lc (i+1) g) (hp (i+1)))→lE (lc i g) xs tp v fun dw=>body dw (hp i) (lF N K))
  (hK:∀g,K .aS (lc items.length g) (hp items.length)):lP body xs tp K items (lc 0 g) (hp 0):=
 agq hp lc (k:=0) (fun i=>(nu i).symm▸h i) ((nu items.length).symm▸hK)
def sA{α β:Type}{e:α→β}{l:ao α}{i:af}{v:β}(h:(l.map e)[i]? =ac v):∃a,l[i]? =ac a∧e a=v:=by
 rw [j9] at h
 exact xI.mp h
def t9{α γ:Type}{body:bJ→an→KS→Prop}{xs:ao af}{tp:av}{K:KS}(hp:af→an)(lc:af→γ→bJ){e:α→am}{l:ao α}{g:γ}
  (h:∀(i:af)(v:α)(g:γ)(N:bJ→an→Prop),l[i]? =ac v→(∀g,N (lc (i+1) g) (hp (i+1)))→lE (lc i g) xs tp (e v) fun dw=>body dw (hp i) (lF N K))
  (hK:∀g,K .aS (lc l.length g) (hp l.length)):lP body xs tp K (l.map e) (lc 0 g) (hp 0):=
 abL hp lc (fun i v g N hi hN=>by
  obtain ⟨a,ha,rfl⟩:=sA hi
  exact h i a g N ha hN) (by rw [b9];exact hK)
def Cp{xs:ao am}{i:af}{v:am}(h:(eO xs)[i]? =ac v):∃x,xs[i]? =ac x∧v=.bE [.ae i,x] :=by
 unfold eO at h
 rw [j9,aah] at h
 refine aw fun kz=>?_
 obtain ⟨p,hp,rfl⟩:=xI.mp h
 obtain ⟨x,hx,rfl⟩:=xI.mp hp
 refine kz ?_;try clear kz
 exact ⟨x,hx,by rw [nu]⟩
def IU(xs:ao am):(eO xs).length=xs.length:=by unfold eO;(rewrite [b9];refine aq aak ?_;rfl)
def KB{α γ:Type}{body:bJ→an→KS→Prop}{xs:ao af}{tp:av}{K:KS}(hp:af→an)(lc:af→γ→bJ){e:α→am}{l:ao α}{g:γ}
  (h:∀(i:af)(v:α)(g:γ)(N:bJ→an→Prop),l[i]? =ac v→(∀g,N (lc (i+1) g) (hp (i+1)))→lE (lc i g) xs tp (.bE [.ae i,e v]) fun dw=>body dw (hp i) (lF N K))
  (hK:∀g,K .aS (lc l.length g) (hp l.length)):lP body xs tp K (eO (l.map e)) (lc 0 g) (hp 0):=
 abL hp lc (fun i v g N hi hN=>by
  refine aw fun kz=>?_
  obtain ⟨x,hx,rfl⟩:=Cp hi
  obtain ⟨a,ha,rfl⟩:=sA hx
  refine kz ?_;try clear kz
  exact h i a g N ha hN) (by rw [IU,b9];exact hK)
def adK{γ:Type}{body:bJ→an→KS→Prop}{xs:ao af}{tp:av}{K:KS}(hp:af→an)(lc:af→γ→bJ){n:af}{g:γ}
  (h:∀(i:af)(g:γ)(N:bJ→an→Prop),i<n→(∀g,N (lc (i+1) g) (hp (i+1)))→lE (lc i g) xs tp (.ae i) fun dw=>body dw (hp i) (lF N K))
  (hK:∀g,K .aS (lc n g) (hp n)):lP body xs tp K (cU (n:aN)) (lc 0 g) (hp 0):=by
 have e:cU (n:aN)=(gw n).map fun (i:af)=>am.ae i:=by unfold cU;rw [Ea]
 refine aq e ?_
 exact t9 hp lc (fun i v g N hi hN=>by
  obtain ⟨h1,h2⟩:=fM.mp hi
  rw [sM] at h1
  rw [RK] at h2
  subst h2
  exact h i g N h1 hN) (by refine aq sM ?_;exact hK)
def Cq{α β γ:Type}{body:bJ→an→KS→Prop}{xs:ao af}{tp:av}{e:α→am}{K:KS}(step:β→α→β)(hp:β→an)(lc:γ→bJ):∀{l:ao α}{b:β}{g:γ},
  (∀(b:β)(v:α)(g:γ)(N:bJ→an→Prop),v∈l→(∀g,N (lc g) (hp (step b v)))→lE (lc g) xs tp (e v) fun dw=>body dw (hp b) (lF N K))→
  (∀g,K .aS (lc g) (hp (l.foldl step b)))→lP body xs tp K (l.map e) (lc g) (hp b):=by
 intro l
 induction l with
 |nil=>
  intro _ _ _ hK
  exact hK _
 |cons v vs ih=>
  intro b g h hK
  exact h b v g _ fF fun q9=>ih (fun b u g N hu=>h b u g N (jf _ hu)) hK
def qO{b:av}(h:(!b)=ak):b=aF:=by
 induction b with
 |false=>rfl
 |true=>exact h.symm
def tM{b:av}(h:(!b)=aF):b=ak:=by
 induction b with
 |true=>rfl
 |false=>exact h.symm
def KC{n m:af}(h:n≤m):wI n m=ac ():=bD h
def dJ{α β:Type}{f:α→β}{l:ao α}(h:l.length≤500):wI (l.map f).length 100000=ac ():=(b9 f (as:=l)).symm▸bD (a5 h (by decide))
def adL{α:Type}{g:bJ→an→ao am→KL→Prop}{xs:ao af}{tp:av}{ρ:bJ}{σ:an}(e:α→am)(f:α→ao am):∀{l:ao α}{acc:ao am}{K:KL},
  (∀(v:α)(acc:ao am)(K:KL),v∈l→K (acc++f v) σ→lE ρ xs tp (e v) fun dw=>g dw σ acc K)→K (acc++l.flatMap f) σ→rB g ρ xs tp (l.map e) σ acc K:=by
 intro l
 induction l with
 |nil=>
  intro acc K _ h
  rw [aan,ny] at h;exact h
 |cons v vs ih=>
  intro acc K step h
  exact step v acc _ fF (ih (fun u acc K hu=>step u acc K (jf _ hu)) (by (rewrite [qi];refine iu RN ?_);exact h))
def jC{α:Type}{g:bJ→an→ao am→KL→Prop}{xs:ao af}{tp:av}{ρ:bJ}{σ:an}(e f:α→am){l:ao α}{K:KL}
  (step:∀(v:α)(acc:ao am)(K:KL),v∈l→K (acc++[f v]) σ→lE ρ xs tp (e v) fun dw=>g dw σ acc K) (h:K (l.map f) σ):rB g ρ xs tp (l.map e) σ [] K:=
 adL e (fun v=>[f v]) step (by (rewrite [LN];refine iu List.map_eq_flatMap ?_);exact h)
def nK{α:Type}{g:bJ→an→ao am→KL→Prop}{xs:ao af}{tp:av}{ρ:bJ}{σ:an}(e:α→am)(p:α→av)(f:α→am):∀{l:ao α}{acc:ao am}{K:KL},
  (∀(v:α)(acc:ao am)(K:KL),v∈l→(p v=ak→K (acc++[f v]) σ)→(p v=aF→K acc σ)→lE ρ xs tp (e v) fun dw=>g dw σ acc K)→K (acc++(l.filter p).map f) σ→rB g ρ xs tp (l.map e) σ acc K:=by
 intro l
 induction l with
 |nil=>
  intro acc K _ h
  rw [LO,Hk,ny] at h;exact h
 |cons v vs ih=>
  intro acc K step h
  exact step v acc _ fF
   (fun hp=>ih (fun u acc K hu=>step u acc K (jf _ hu)) (by rw [qi];rw [List.filter_cons_of_pos hp] at h;exact h))
   (fun hp=>ih (fun u acc K hu=>step u acc K (jf _ hu)) (by rw [List.filter_cons_of_neg (by refine aq hp ?_;exact mI)] at h;exact h))
def adM{α β γ:Type}{body:bJ→an→KS→Prop}{xs:ao af}{tp:av}{e:α→am}{K:KS}(step:β→α→β)(P:β→Prop)(lc:β→γ→bJ){σ:an}:∀{l:ao α}{b:β}{g:γ},
  (∀(b:β)(v:α)(g:γ)(N:bJ→an→Prop),v∈l→P b→(P (step b v)→∀g,N (lc (step b v) g) σ)→lE (lc b g) xs tp (e v) fun dw=>body dw σ (lF N K))→
  P b→(P (l.foldl step b)→∀g,K .aS (lc (l.foldl step b) g) σ)→lP body xs tp K (l.map e) (lc b g) σ:=by
 intro l
 induction l with
 |nil=>
  intro _ _ _ hP hK
  exact hK hP _
 |cons v vs ih=>
  intro b g h hP hK
  exact h b v g _ fF hP fun hP' q9=>ih (fun b u g N hu=>h b u g N (jf _ hu)) hP' hK
def AW{body:bJ→an→KS→Prop}{xs:ao af}{tp:av}{K:KS}(I:bJ→an→Prop):∀{items:ao am},
  (∀(v:am)(ρ:bJ)(σ:an)(N:bJ→an→Prop),v∈items→I ρ σ→(∀dw bS,I dw bS→N dw bS)→lE ρ xs tp v fun dw=>body dw σ (lF N K))→
  ∀{ρ:bJ}{σ:an},I ρ σ→(∀ρ σ,I ρ σ→K .aS ρ σ)→lP body xs tp K items ρ σ:=by
 intro items
 induction items with
 |nil=>
  intro _ _ _ h hK
  exact hK _ _ h
 |cons v vs ih=>
  intro step _ _ h hK
  exact step v _ _ _ fF h fun q9 q9 h'=>ih (fun v ρ σ N hv=>step v ρ σ N (jf _ hv)) h' hK
def IV{α:Type}{e:α→am}{l:ao α}{v:am}(h:v∈eO (l.map e)):∃(i:af)(a:α),l[i]? =ac a∧v=.bE [.ae i,e a] :=by
 refine aw fun kz=>?_
 obtain ⟨i,hi⟩:=ww h
 obtain ⟨x,hx,rfl⟩:=Cp hi
 obtain ⟨a,ha,rfl⟩:=sA hx
 refine kz ?_;try clear kz
 exact ⟨i,a,ha,ag⟩
def eJ(r:R):am:=.ic 0 [.ah r.ay.bH,fa r,r.b,r.c,.ae r.eZ]
def iV:aM R→am
 |none=>.aA
 |some r=>eJ r
noncomputable def nD(k:Ct):am:=.ic 1 [k.nA,.ae k.dm,.ae k.gx,.ae k.bC,.ae k.cQ]
structure Hd where
 cx:am
 bq:am
 aQ:am
 gE:am
 ft:ao am
noncomputable def e7(s:af):am:=.ae s
noncomputable abbrev bI(l:ao af):ao am:=l.map e7
def aU(h:Hd)(c:Cd):am:=.ic 2 [h.cx,h.bq,h.aQ,h.gE,.al (c.aa.map eJ),.al (c.aK.map nD),.al h.ft,.al (bI c.aZ),.aA]
def kx{p:Op→av}(h:fx.all p=ak)(op:Op):p op=ak:=ow.mp h op (by induction op<;>first|decide|exact (by decide:Op.gY ()∈fx))
noncomputable def d3(o:aM av)(b:av):av:=match o with
 |some c=>c==b
 |none=>aF
def sT{o:aM av}{b:av}(h:d3 o b=ak):o=ac b:=by
 induction o with
 |none=>exact cG h
 |some c=>(refine aq (cz h) ?_;rfl)
noncomputable def acH(o:aM av):aM av:=o.map (!·)
def rF{σ:an}{l:ao am}{f:Op→av}(h:(fx.all fun op=>d3 (jh (.ah op.bH) l) (f op))=ak)(op:Op):fg a4 σ .fw (.f (.ah op.bH)) (.f (.bE l))=ac (f op):=sT (kx h op)
def ua{σ:an}{l:ao am}{f:Op→av}(h:(fx.all fun op=>d3 (jh (.ah op.bH) l) (f op))=ak)(op:Op):fg a4 σ .fw (.f (.ah op.bH)) (.f (.al l))=ac (f op):=sT (kx h op)
def IW{σ:an}{l:ao am}{f:Op→av}(h:(fx.all fun op=>d3 (jh (.ah op.bH) l) (f op))=ak)(op:Op):fg a4 σ .gm (.f (.ah op.bH)) (.f (.bE l))=ac (!f op):=a7 acH (sT (kx h op))
noncomputable def KD:ao am:=[.ah "jump",.ah "jumpif",.ah "jumpunless",.ah "jumpnil"]
noncomputable def abM:ao am:=[.ah "jump",.ah "leave",.ah "out",.ah "again",.ah "nomatch",.ah "fail"]
noncomputable def TF:ao am:=[.ah "push",.ah "self",.ah "getl",.ah "geti",.ah "getg",.ah "dup",.ah "blockgiven"]
noncomputable def Ol:ao am:=[.ah "setl",.ah "seti",.ah "setg",.ah "setc"]
noncomputable def vD:ao am:=[.ah "jumpif",.ah "jumpunless"]
noncomputable def TG:ao am:=[.ah "jump",.ah "leave",.ah "fail"]
def Om:(fx.all fun op=>d3 (jh (.ah op.bH) KD) op.aO)=ak:=by kernel_rfl
def adN:(fx.all fun op=>d3 (jh (.ah op.bH) abM) op.c3)=ak:=by kernel_rfl
def GC:(fx.all fun op=>d3 (jh (.ah op.bH) TF) op.kh)=ak:=by kernel_rfl
def Cr:(fx.all fun op=>d3 (jh (.ah op.bH) Ol) op.fU)=ak:=by kernel_rfl
def sU:(fx.all fun op=>d3 (jh (.ah op.bH) vD) op.aV)=ak:=by kernel_rfl
def XV:(fx.all fun op=>d3 (jh (.ah op.bH) TG) op.c3)=ak:=by kernel_rfl
def gR(a b:Op):(a.bH==b.bH)=(a==b):=by
 have:=kx (p:=fun a=>fx.all fun b=>(a.bH==b.bH)==(a==b)) (by kernel_rfl) a
 exact cz (kx (p:=fun b=>(a.bH==b.bH)==(a==b)) this b)
section
variable{σ:an}{fz:av}
def rG(op:Op):fg a4 σ .fw (.f (.ah op.bH)) (.f (.bE KD))=ac op.aO:=rF Om op
def J7(op:Op):fg a4 σ .gm (.f (.ah op.bH)) (.f (.bE KD))=ac (!op.aO):=IW Om op
def iw(op:Op):fg a4 σ .fw (.f (.ah op.bH)) (.f (.bE vD))=ac op.aV:=rF sU op
def w5(op:Op):fg a4 σ .gm (.f (.ah op.bH)) (.f (.bE abM))=ac (!op.c3):=IW adN op
def Cs(op:Op):fg a4 σ .fw (.f (.ah op.bH)) (.f (.bE TG))=ac op.c3:=rF XV op
def vF{i n:af}(h:i<n)(hn:n≤100000):iH (i:aN) n=ac i:=by
 unfold iH
 (refine aq (bD (wA i)) ?_;refine aq (bD ⟨nz.mpr h,Mg (nz.mpr (iN h hn)) (by decide)⟩) ?_;rw [Ea])
def Cu{xs:ao am}(h:xs.length≤100000):eP σ fz 0 [.f (.al xs)] =ac (.f (.ae xs.length),σ):=bD h
def eS{α:Type}{f:α→am}{l:ao α}(h:l.length≤500):eP σ fz 0 [.f (.al (l.map f))] =ac (.f (.ae l.length),σ):=by
 have e:=b9 f (as:=l)
 (refine aq (Cu (e▸a5 h (by decide))) ?_;refine aq e ?_;rfl)
def dP(σ:an)(x:aM cD)(l:an):(σ++x::l)[σ.length]? =ac x:=by simp
def mZ(σ:an)(x y:aM cD)(l:an):(σ++x::y::l)[σ.length+1]? =ac y:=by
 rw [nO (fQ _)];simp
def Ep(σ:an)(x y z:aM cD)(l:an):(σ++x::y::z::l)[σ.length+2]? =ac z:=by
 rw [nO (ff _ 2)];simp
def SO(σ:an)(x y z w:aM cD)(l:an):(σ++x::y::z::w::l)[σ.length+3]? =ac w:=by
 rw [nO (ff _ 3)];simp
def my(σ:an)(x a:aM cD)(l:an):(σ++x::l).set σ.length a=σ++a::l:=by
 refine aq (Hc _ _ (c9 _)) ?_;simp
def Er(σ:an)(x y a:aM cD)(l:an):(σ++x::y::l).set (σ.length+1) a=σ++x::a::l:=by
 refine aq (Hc _ _ (fQ _)) ?_;simp
def agr(σ:an)(x y z a:aM cD)(l:an):(σ++x::y::z::l).set (σ.length+2) a=σ++x::y::a::l:=by
 refine aq (Hc _ _ (ff _ 2)) ?_;simp
def abN(σ:an)(x y z w a:aM cD)(l:an):(σ++x::y::z::w::l).set (σ.length+3) a=σ++x::y::z::a::l:=by
 refine aq (Hc _ _ (ff _ 3)) ?_;simp
def kY(σ l:an):(σ++l).take σ.length=σ:=by simp
def ol{xs:ao am}(h:xs.length≤100000):jJ σ ak xs=ac (.f (.al xs),σ):=bD h
def iD{xs:ao am}(h:xs.length≤100000):jJ σ aF xs=ac (.a6 σ.length,σ++[ac (.al xs)]):=by unfold jJ W4;exact bD h
def nU{α:Type}{f:α→am}{l:ao α}(h:l.length≤500):jJ σ ak (l.map f)=ac (.f (.al (l.map f)),σ):=ol (b9 f (as:=l)▸a5 h (by decide))
def ags{α:Type}{f:α→am}{l:ao α}(h:l.length≤500):jJ σ aF (l.map f)=ac (.a6 σ.length,σ++[ac (.al (l.map f))]):=iD (b9 f (as:=l)▸a5 h (by decide))
def UX{α:Type}(x:α):∀n,(mJ n [x]).flatten=mJ n x:=by
 intro n
 induction n with
 |zero=>
  exact ag
 |succ n ih=>
  exact a7 (x:: ·) (ih)
def zF(x:am)(n:af)(h:n≤600):sN σ fz .mR (.f (.al [x])) (.f (.ae n))=jJ σ fz (mJ n x):=
 (bD ⟨a5 h (by decide),dT ag⟩).trans (a7 (jJ σ fz) (UX x n))
def No(x:am)(n:af)(h:n<600):sN σ fz .mR (.f (.al [x])) (.f (.ae (n+1)))=jJ σ fz (mJ (n+1) x):=zF x (n+1) h
def AX{i:af}{o:cD}(h:σ[i]? =ac (ac o)):Bk σ i=ac o:=a7 (lj · id) h
def pd{i:af}{xs:ao am}(h:σ[i]? =ac (ac (.al xs))):jn σ i=ac xs:=a7 (lj · cD.yE) (AX h)
def KF{i:af}{xs:ao am}(h:σ[i]? =ac (ac (.al xs))):mV σ (.a6 i)=ac xs:=pd h
def GD{i:af}{es:ao (cF aN aI×am)}(h:σ[i]? =ac (ac (.dK es))):jn σ i=au:=a7 (lj · cD.yE) (AX h)
def uT{i:af}{es:ao (cF aN aI×am)}(h:σ[i]? =ac (ac (.dK es))):pt σ i=ac es:=a7 (lj · cD.abs) (AX h)
def AY{i c:af}{fs:ao aC}(h:σ[i]? =ac (ac (.lM c fs))):Bl σ i=ac (c,fs):=a7 (lj · cD.abt) (AX h)
def abO{i:af}{xs:ao am}{x:am}(h:σ[i]? =ac (ac (.al xs)))(hn:xs.length≤100000)(hx:xs[xs.length-1]? =ac x):kG a4 σ .g6 (.a6 i) [] =ac (.f x,σ.set i (ac (.al (xs.eraseIdx (xs.length-1))))):=by
 refine (a7 (lj · _) (pd h)).trans ((bD hn).trans ?_)
 refine aq hx ?_;rfl
def agt{i p:af}{k:aN}{xs:ao am}{x:am}(h:σ[i]? =ac (ac (.al xs)))(hn:xs.length≤100000)(hk:iH k xs.length=ac p)(hx:xs[p]? =ac x):kG a4 σ .g6 (.a6 i) [.f (.ae k)] =ac (.f x,σ.set i (ac (.al (xs.eraseIdx p)))):=by
 refine (a7 (lj · _) (pd h)).trans ((a7 (lj · _) hk).trans ((bD hn).trans ?_))
 refine aq hx ?_;rfl
def kP{i:af}{xs:ao am}(h:σ[i]? =ac (ac (.al xs))):acA σ (.a6 i)=ac (.f (.al xs),σ.set i au):=a7 (qG fun xs=>(aC.f (.al xs),σ.set i au)) (pd h)
def KG{i:af}{xs:ao am}(h:σ[i]? =ac (ac (.al xs))){k:af}{x:am}(hk:k<xs.length)(hn:xs.length≤100000):o6 σ (.a6 i) (.f (.ae k)) (.f x)=ac (σ.set i (ac (.al (xs.set k x)))):=by
 show (jn σ i).elim _ _=_
 refine aq (pd h) ?_
 refine (bD (e:=au) (wA k)).trans ?_
 (refine aq (vF hk hn) ?_;rfl)
def jo{i:af}{xs:ao am}(h:σ[i]? =ac (ac (.al xs)))(hn:xs.length≤100000){x:am}:kG a4 σ .eA (.a6 i) [.f x] =ac (.f .aA,σ.set i (ac (.al (xs++[x])))):=by
 show (jn σ i).bind _=_
 refine aq (pd h) ?_
 exact bD hn
def cT{i:af}{xs:ao am}(h:σ[i]? =ac (ac (.al xs))):lB a4 σ (.a6 i) "append"=ac .eA:=by
 show (jn σ i).elim _ _=_
 refine aq (pd h) ?_;rfl
def p7{i:af}{xs:ao am}(h:σ[i]? =ac (ac (.al xs))):lB a4 σ (.a6 i) "pop"=ac .g6:=by
 show (jn σ i).elim _ _=_
 refine aq (pd h) ?_;rfl
def uv{xs:ao am}{k:af}{x:am}(h:xs[k]? =ac x)(hn:xs.length≤100000):lN a4 σ (.f (.al xs)) (.f (.ae k))=ac x:=
 (a7 (lj · (xs[·]?)) (vF (fM.mp h).1 hn)).trans h
def On{xs:ao am}{k:af}{x:am}(h:xs[k]? =ac x)(hn:xs.length≤100000):lN a4 σ (.f (.bE xs)) (.f (.ae k))=ac x:=
 (a7 (lj · (xs[·]?)) (vF (fM.mp h).1 hn)).trans h
def iJ{α:Type}{f:α→am}{l:ao α}{k:af}{x:α}(h:l[k]? =ac x)(hn:l.length≤500):lN a4 σ (.f (.al (l.map f))) (.f (.ae k))=ac (f x):=
 uv (by (rewrite [j9];refine aq h ?_);rfl) (b9 f (as:=l)▸a5 hn (by decide))
def BG{i:af}{xs:ao am}(h:σ[i]? =ac (ac (.al xs))):yF σ (.a6 i)=ac (.al xs):=a7 (qG am.al) (pd h)
def Es{i:af}{xs:ao am}{k:af}{x:am}(h:σ[i]? =ac (ac (.al xs)))(hk:xs[k]? =ac x)(hn:xs.length≤100000):lN a4 σ (.a6 i) (.f (.ae k))=ac x:=by
 show (yF σ (.a6 i)).elim _ _=_
 refine aq (BG h) ?_
 show (iH k xs.length).bind _=_
 rw [vF (fM.mp hk).1 hn]
 exact hk
def yO{i:af}{xs:ao am}(h:σ[i]? =ac (ac (.al xs)))(hn:xs.length≤100000):eP σ fz 0 [.a6 i] =ac (.f (.ae xs.length),σ):=by
 show (yF σ (.a6 i)).bind _=_
 refine aq (BG h) ?_
 exact bD hn
end
def fh{r:R}(h:r.ay.aO=ak):fa r=.ae r.t:=by unfold fa;(refine aq (bD h) ?_;rfl)
def sV(l:ao af)(p:af):bI l++[.ae p] =bI (l++[p]):=by simp [bI,e7]
def XW{d:af}(o:aM R)(l:ao am)(f:Op→av)(h:(fx.all fun op=>d3 (jh (.ah op.bH) l) (f op))=ak):PC (vC a4 (d+1)) 19 [.f (iV o),.f (.bE l)] (.aG (match o with|some r=>f r.ay|none=>aF)):=pf ag ag ag ag fun C e σ Q hq=>by
 induction o with
 |none=>exact b8 (Q:=Q) hq eG
 |some r=>
  apply ai;exact rF h r.ay
  exact b8 (Q:=Q) hq eG
def XX{d:af}(v:am)(hv:iB v=ak):PC (vC a4 (d+1)) 20 [.f v] (.aG (cS v)):=pf ag ag ag ag fun C e σ Q hq=>by
 cases v with
 |aA=>exact b8 (Q:=Q) hq eG
 |aG b=>induction b<;>exact b8 (Q:=Q) hq eG
 |ae i=>exact b8 (Q:=Q) hq eG
 |ah x=>exact b8 (Q:=Q) hq eG
 |_=>exact cG hv
noncomputable def IX(n:af)(m:af→av):cD:=.al ((gw n).map fun p=>.aG (m p))
def UY(N t:af)(m:af→av):((gw N).map fun p=>am.aG (m p)).set t (.aG ak)=(gw N).map fun p=>am.aG (m p||t==p):=by
 apply Au
 intro q
 rw [RM,j9,j9]
 by_cases h:t=q
 ·subst h
  by_cases k:t<N
  ·simp [k]
  ·simp [k]
 ·refine aq (cL h) ?_
  cases e:(gw N)[q]? with
  |none=>rfl
  |some q'=>
   obtain ⟨h1,h2⟩:=fM.mp e
   rw [RK] at h2
   subst h2
   have:(t==q)=aF:=Rw h
   (rewrite [Lp,Lp];refine aq this ?_;rw [Am])
def GF(n:af)(m:af→av):((gw n).map fun p=>am.aG (m p)).length=n:=by (rewrite [b9];refine aq sM ?_;rfl)
def Oo{n p:af}{m:af→av}(h:p<n):((gw n).map fun p=>am.aG (m p))[p]? =ac (.aG (m p)):=by
 rw [j9,RF h];rfl
def Oq{σ:an}{i n t:af}{m:af→av}(h:σ[i]? =ac (ac (IX n m)))(ht:t<n)(hn:n≤1000):o6 σ (.a6 i) (.f (.ae t)) (.f (.aG ak))=ac (σ.set i (ac (IX n fun p=>m p||t==p))):=by
 have l:=GF n m
 (refine aq (KG h (l.symm▸ht) (l.symm▸a5 hn (by decide))) ?_;rw [UY]);rfl
noncomputable def AZ(b:av)(t:af)(m:af→av):af→av:=fun p=>m p||(b&&t==p)
def adO(t:af)(m:af→av):AZ aF t m=m:=rj fun p=>by unfold AZ;rw [ZH,Am]
def GG{α:Type}(b:α→av)(t:α→af):∀(l:ao α)(m:af→av),l.foldl (fun m a=>AZ (b a) (t a) m) m=fun p=>m p||l.any fun a=>b a&&t a==p:=by
 intro l
 induction l with
 |nil=>
  intro m
  exact rj fun p=>(Am _).symm
 |cons a l ih=>
  intro m
  (refine aq LP ?_;rw [ih]);funext p;(refine aq LU ?_;rw [← ZJ]);rfl
def XY(c:Cd):c.aZ.foldl (fun m s=>AZ ak s m) (c.aK.foldl (fun m k=>AZ ak k.bC m) (c.aa.foldl (fun m r=>AZ r.ay.aO r.t m) fun q9=>aF))=c.bQ:=by
 rw [GG (fun r:R=>r.ay.aO) (·.t),GG (fun q9=>ak) Ct.bC,GG (fun _:af=>ak) (fun s=>s)]
 funext p
 unfold Cd.bQ
 refine aq List.contains_eq_any_beq ?_
 simp [ZJ,Sw (a:=p)]
section
variable{d:af}{σ:an}{fz:av}
def Os{n:af}(h:n≤600):jJ σ aF (mJ n (am.aG aF))=ac (.a6 σ.length,σ++[ac (IX n fun q9=>aF)]):=by
 unfold IX;rw [iD (by refine aq RB ?_;exact a5 h (by decide)),aar,sM]
def XZ(h:Hd)(c:Cd)(I:j7 c)(hn:c.aa.length≤500)(hk:c.aK.length≤500)(hs:c.aZ.length≤500):PC (vC a4 (d+1)) 21 [.f (aU h c)] (.al ((gw (c.aa.length+1)).map fun p=>.aG (c.bQ p))):=pf ag ag ag ag fun C q9 σ Q hq=>by
 let hp:(af→av)→an:=fun m=>σ++[ac (IX (c.aa.length+1) m)]
 have Ik:∀{m t},t≤c.aa.length→o6 (hp m) (.a6 σ.length) (.f (.ae t)) (.f (.aG ak))=ac (hp (AZ ak t m)):=fun {m t} ht=>by
  (refine aq (Oq (dP _ _ _) (Ao ht) (by lia)) ?_;rw [my]);rfl
 apply ai;exact eS hn
 apply ai;exact (No _ _ (by lia)).trans (Os (by lia))
 apply ai;exact dJ hn
 refine Cq (fun m r=>AZ r.ay.aO r.t m) hp (fun x=>[ac (.f (aU h c)),ac (.a6 σ.length),x,au,au]) (fun m r x N hr hN=>?_) fun x=>?_
 ·apply ai;exact rG _
  refine bj (fun hj=>?_) fun hj=>?_
  ·apply ai;refine aq (fh hj) ?_;exact Ik (I.jW r hr hj)
   rw [hj] at hN;exact hN _
  ·rw [hj,adO] at hN;exact hN _
 apply ai;exact dJ hk
 refine Cq (fun m k=>AZ ak k.bC m) hp (fun y=>[ac (.f (aU h c)),ac (.a6 σ.length),x,y,au]) (fun m k y N hr hN=>?_) fun y=>?_
 ·apply ai;exact Ik (I.aK k hr).2.2
  exact hN _
 apply ai;exact dJ hs
 refine Cq (fun m s=>AZ ak s m) hp (fun z=>[ac (.f (aU h c)),ac (.a6 σ.length),x,y,z]) (fun m s z N hr hN=>?_) fun z=>?_
 ·apply ai;exact Ik (I.aZ s hr)
  exact hN _
 apply ai;exact kP (dP _ _ _)
 rw [XY]
 exact b8 (Q:=Q) hq (by rw [my,kY])
def sB(o a b c l:am):PC (vC a4 (d+1)) 1000 [.f o,.f a,.f b,.f c,.f l] (.ic 0 [o,a,b,c,l]):=⟨fun σ Q hq=>b8 (Q:=Q) hq eG⟩
def Fq(o a b c l:am):PC (vC a4 (d+1)) 1001 [.f o,.f a,.f b,.f c,.f l] (.ic 1 [o,a,b,c,l]):=⟨fun σ Q hq=>b8 (Q:=Q) hq eG⟩
def IY(k n p s r c ch st:am):PC (vC a4 (d+1)) 1002 [.f k,.f n,.f p,.f s,.f r,.f c,.f ch,.f st] (.ic 2 [k,n,p,s,r,c,ch,st,.aA]):=⟨fun σ Q hq=>b8 (Q:=Q) hq eG⟩
def oE(r:R)(t:am):PC (vC a4 (d+2)) 1 [.f (eJ r),.f t] (.ic 0 [.ah r.ay.bH,t,r.b,r.c,.ae r.eZ]):=pf ag ag ag ag fun C e σ Q hq=>pc e (sB ..) (b8 (Q:=Q) hq eG)
def u9(h:Hd)(c:Cd)(rs cs ss ch:am):PC (vC a4 (d+2)) 5 [.f (aU h c),.f rs,.f cs,.f ss,.f ch] (.ic 2 [h.cx,h.bq,h.aQ,h.gE,rs,cs,ch,ss,.aA]):=pf ag ag ag ag fun C e σ Q hq=>pc e (IY ..) (b8 (Q:=Q) hq eG)
def IZ(k:Ct)(p:af):PC (vC a4 (d+1)) 3 [.f (nD k),.f (.ae p)] (.aG (k.bU p)):=pf ag ag ag ag fun C e σ Q hq=>by
 have e:k.bU p=(dc ((k.dm:aN)≤p)&&dc ((p:aN)<k.gx)):=by
  unfold Ct.bU
  rw [wq.mpr (tC (m:=k.dm) (n:=p)),wq.mpr (nz (n:=p) (m:=k.gx))]
 rw [e] at hq
 refine bj (fun g=>?_) fun g=>?_<;>(rw [g] at hq;exact b8 (Q:=Q) hq eG)
def Fr(f:af→af)(r:R)(h:r.ay.aO=ak):eJ (r.jZ f)=.ic 0 [.ah r.ay.bH,.ae (f r.t),r.b,r.c,.ae r.eZ] :=by
 unfold R.jZ eJ fa
 simp only [h,if_true]
def PF(f:af→af)(r:R)(h:r.ay.aO=aF):r.jZ f=r:=by unfold R.jZ;rw [cL (by refine aq h ?_;decide)]
def KI(aa:aR)(n:af):ao am:=(gw n).map fun p=>.ae (bY aa p)
def X0(aa:aR)(n:af):(KI aa n).length=n:=by unfold KI;(rewrite [b9];refine aq sM ?_;rfl)
def X2{aa:aR}{n p:af}(h:p<n):(KI aa n)[p]? =ac (.ae (bY aa p)):=by
 unfold KI
 rw [j9,RF h];rfl
def I0(aa:aR)(n:af):KI aa n++[.ae (bY aa n)] =KI aa (n+1):=by
 unfold KI
 (refine aq Aw ?_;refine aq qJ ?_);rfl
def kp(aa:aR)(i:af):ao am:=((aa.take i).filterMap id).map eJ
def KJ(aa:aR)(i:af):(kp aa i).length=bY aa i:=b9 ..
def X3{aa:aR}{i:af}(h:aa[i]? =ac au):kp aa (i+1)=kp aa i:=by unfold kp;(refine aq uG ?_;refine aq h ?_);simp
def X4{aa:aR}{i:af}{r:R}(h:aa[i]? =ac (ac r)):kp aa (i+1)=kp aa i++[eJ r] :=by unfold kp;(refine aq uG ?_;refine aq h ?_);simp
def agu(aa:aR)(i:af):bY aa i≤aa.length:=a5 (Aq _ _) (wx ..)
def uU{x:aM cD}{xs:ao am}(h:xs.length≤100000):jJ (σ++[x]) aF xs=ac (.a6 (σ.length+1),σ++[x,ac (.al xs)]):=by (refine aq (iD h) ?_;rewrite [qi];refine aq dg ?_);rfl
def X5{x y:aM cD}{xs:ao am}(h:xs.length≤100000):jJ (σ++[x,y]) aF xs=ac (.a6 (σ.length+2),σ++[x,y,ac (.al xs)]):=by (refine aq (iD h) ?_;rewrite [qi];refine aq dg ?_);rfl
def X6{x y z:aM cD}{xs:ao am}(h:xs.length≤100000):jJ (σ++[x,y,z]) aF xs=ac (.a6 (σ.length+3),σ++[x,y,z,ac (.al xs)]):=by (refine aq (iD h) ?_;rewrite [qi];refine aq dg ?_);rfl
def rH{xs:ao am}{l:an}{v:am}(h:xs.length≤100000):kG a4 (σ++ac (.al xs)::l) .eA (.a6 σ.length) [.f v] =ac (.f .aA,σ++ac (.al (xs++[v]))::l):=by (refine aq (jo (dP _ _ _) h) ?_;rw [my])
def abP{xs:ao am}{x:aM cD}{l:an}{v:am}(h:xs.length≤100000):kG a4 (σ++x::ac (.al xs)::l) .eA (.a6 (σ.length+1)) [.f v] =ac (.f .aA,σ++x::ac (.al (xs++[v]))::l):=by (refine aq (jo (mZ _ _ _ _) h) ?_;rw [Er])
def agv{xs:ao am}{x y z:aM cD}{l:an}{v:am}(h:xs.length≤100000):kG a4 (σ++x::y::z::ac (.al xs)::l) .eA (.a6 (σ.length+3)) [.f v] =ac (.f .aA,σ++x::y::z::ac (.al (xs++[v]))::l):=by (refine aq (jo (SO _ _ _ _ _ _) h) ?_;rw [abN])
end
section
variable{d:af}{σ:an}{fz:av}
def ck(c:Cd)(aa:aR)(i:af):ao am:=((c.aK.take i).filterMap (Ct.fL (bY aa))).map nD
def X7{c:Cd}{aa:aR}{i:af}{k:Ct}(h:c.aK[i]? =ac k):ck c aa (i+1)=ck c aa i++(match k.fL (bY aa) with|some k'=>[nD k'] |none=>[]):=by
 unfold ck
 (refine aq uG ?_;refine aq h ?_;refine aq RA ?_;refine aq qJ ?_;rewrite [Re];refine aq He ?_;refine aq List.filterMap_nil ?_)
 cases k.fL (bY aa)<;>rfl
def adP(c:Cd)(aa:aR)(i:af):(ck c aa i).length≤c.aK.length:=by
 unfold ck
 rw [b9]
 exact a5 (Aq _ _) (wx ..)
def UZ{aa:aR}{n:af}(hj:∀(q:af)(r:R),aa[q]? =ac (ac r)→r.ay.aO=ak→r.t≤n):∀r∈aa.filterMap id,r.ay.aO=ak→r.t≤n:=fun r hr k=>by
 obtain ⟨i,hi⟩:=ww hr
 obtain ⟨q,h1,_⟩:=abJ hi
 exact hj q r h1 k
def vG(h:Hd)(c:Cd)(aa:aR)(I:j7 c)(hl:aa.length=c.aa.length)(hj:∀(q:af)(r:R),aa[q]? =ac (ac r)→r.ay.aO=ak→r.t≤c.aa.length)(hn:c.aa.length≤500)(hk:c.aK.length≤500)(hs:c.aZ.length≤500):
  PC (vC a4 (d+3)) 22 [.f (aU h c),.f (.al (aa.map iV))] (aU h (c.bL aa)):=pf ag ag ag ag fun C e σ Q hq=>by
 have hr:aa.length≤500:=hl▸hn
 have big:∀{n:af},n≤501→n≤100000:=fun h=>a5 h (by decide)
 have kb:∀i,(kp aa i).length≤100000:=fun i=>big (KJ aa i▸a5 (agu aa i) (ti hr))
 have pb:∀{i},i≤aa.length+1→(KI aa i).length≤100000:=fun {i} hi=>big ((X0 aa i).symm▸a5 hi (jG hr))
 apply ai;exact iD (fC _)
 apply ai;exact uU (fC _)
 apply ai;exact dJ hr
 refine t9 (fun i=>σ++[ac (.al (KI aa i)),ac (.al (kp aa i))]) (fun q9 x=>[ac (.f (aU h c)),ac (.f (.al (aa.map iV))),x,ac (.a6 (σ.length+1)),au,au,ac (.a6 σ.length),au,au,au,au]) (e:=iV) (l:=aa) (fun i o x N hi hN=>?_) fun x=>?_
 ·have CT:=(fM.mp hi).1
  apply ai;exact cT (dP _ _ _)
  apply ai;exact yO (mZ _ _ _ _) (kb i)
  apply ai;exact rH (pb (ti (jH CT)))
  rw [KJ,I0]
  induction o with
  |none=>exact X3 hi▸hN _
  |some r=>
   apply ai;exact cT (mZ _ _ _ _)
   apply ai;exact abP (kb i)
   exact X4 hi▸hN _
 apply ai;exact cT (dP _ _ _)
 apply ai;exact yO (mZ _ _ _ _) (kb _)
 apply ai;exact rH (pb (fQ _))
 rw [KJ,I0]
 have PG:∀{t:af}{l:an},t≤c.aa.length→lN a4 (σ++ac (.al (KI aa (aa.length+1)))::l) (.a6 σ.length) (.f (.ae t))=ac (.ae (bY aa t)):=fun {t l} ht=>Es (dP _ _ _) (X2 (hl▸Ao ht)) (pb (c9 _))
 have fm:(aa.filterMap id).length≤500:=a5 (Aq _ _) hr
 apply ai;exact kP (mZ _ _ _ _)
 rw [Er,show kp aa aa.length=(aa.filterMap id).map eJ by unfold kp;(refine aq eG ?_;rfl)]
 apply ai;exact dJ fm
 refine jC eJ (fun r=>eJ (r.jZ (bY aa))) (fun r acc K hr hK=>?_) ?_
 ·apply ai;exact rG _
  refine bj (fun g=>?_) fun g=>?_
  ·apply ai;refine aq (fh g) ?_;exact PG (UZ hj r hr g)
   refine pc e (oE ..) ?_
   rw [Fr _ _ g] at hK;exact hK
  ·rw [PF _ _ g] at hK;exact hK
 apply ai;exact X5 (by rw [b9];exact a5 fm (by decide))
 apply ai;exact X6 (fC _)
 apply ai;exact dJ hk
 refine t9 (fun i=>σ++[ac (.al (KI aa (aa.length+1))),au,ac (.al ((aa.filterMap id).map fun r=>eJ (r.jZ (bY aa)))),ac (.al (ck c aa i))]) (fun _ (g:aM aC×aM aC×aM aC)=>[ac (.f (aU h c)),ac (.f (.al (aa.map iV))),x,ac (.a6 (σ.length+2)),ac (.a6 (σ.length+3)),g.1,ac (.a6 σ.length),g.2.1,g.2.2,au,au]) (g:=(au,au,au)) (fun i k g N hi hN=>?_) fun g=>?_
 ·refine aw fun kz=>?_
  obtain ⟨i1,i2,i3⟩:=I.aK k (gM hi)
  refine kz ?_;try clear kz
  apply ai;exact PG (a5 (jH i1) i2)
  apply ai;exact PG i2
  rw [X7 hi] at hN
  refine bj (fun g=>?_) fun g=>?_
  ·have e1:k.fL (bY aa)=ac _:=bD (nz.mp (eX g))
   rw [e1] at hN
   apply ai;exact cT (SO _ _ _ _ _ _)
   apply ai;exact PG i3
   refine pc e (Fq ..) ?_
   apply ai;exact agv (a5 (adP c aa i) (a5 hk (by decide)))
   exact hN (_,_,_)
  ·have e1:k.fL (bY aa)=au:=cL fun q=>yi g (nz.mpr q)
   rw [e1,ny] at hN
   exact hN (_,_,_)
 apply ai;exact kP (Ep _ _ _ _ _)
 rw [agr]
 apply ai;exact kP (SO _ _ _ _ _ _)
 rw [abN]
 apply ai;exact dJ hs
 refine jC e7 (fun s=>e7 (bY aa s)) (fun s acc K hs hK=>?_) ?_
 ·apply ai;exact PG (I.aZ s hs)
  exact hK
 apply ai;exact nU hs
 refine pc e (u9 ..) (b8 (Q:=Q) ?_ (kY _ _))
 rw [show ck c aa c.aK.length=(c.aK.filterMap (Ct.fL (bY aa))).map nD by unfold ck;(refine aq eG ?_;rfl)]
 unfold aU Cd.bL at hq
 rw [oM] at hq
 unfold bI at hq
 rw [oM] at hq
 exact hq
end
def qy(op:Op):(op.bH==("jump":aI))=(op== .bp):=gR op .bp
def I3(op:Op):(op.bH==("leave":aI))=(op== .dY):=gR op .dY
def jq{n:af}(h:n≤100000):uQ aF (.f (.ae n))=ac (cU n):=by
 unfold uQ;refine aq (cL (by decide)) ?_;exact bD (a5 h (by decide))
def nV(n:af):(cU (n:aN)).length=n:=by unfold cU;(rewrite [b9];refine aq sM ?_;rw [Ea])
def iK{σ:an}{c:Cd}{p:af}{r:R}(e:c.aa[p]? =ac r)(hn:c.aa.length≤500):lN a4 σ (.f (.al (c.aa.map eJ))) (.f (.ae p))=ac (eJ r):=iJ e hn
section
variable{d:af}{σ:an}{fz:av}
def U0{C:bw}(h:Hd)(c:Cd)(S:iC c)(hn:c.aa.length≤500){place:af}{K:KS}{v:af}(h1:∀ρ,K (.a9 (.f (.ae v))) ρ σ)(h2:v=place→∀f x,K .aS [ac (.f (aU h c)),ac (.f (.ae place)),ac (.f (.ae f)),x] σ):∀{items:ao am}{f:af}{x:aM aC},f<c.aa.length→v=pM c.aa place items.length f→
  lP (fI ⟨a4,C⟩ qu) [3] aF K items [ac (.f (aU h c)),ac (.f (.ae place)),ac (.f (.ae (f:af))),x] σ:=by
 intro items
 induction items with
 |nil=>
  intro f x hf e
  exact h2 e _ _
 |cons i items ih=>
  intro f x hf e
  have er:c.aa[f]? =ac c.aa[f] :=ed hf
  rw [o3] at e
  unfold pM at e
  simp only [er] at e
  apply ai;exact iK er hn
  refine bj (fun g=>?_) fun g=>?_<;>rw [qy] at g
  ·rw [cL (by intro z;rw [z] at g;exact cG g)] at e
   exact e▸h1 _
  ·have g:c.aa[f].ay=.bp:=by
    cases z:c.aa[f].ay== .bp with
    |true=>exact cz z
    |false=>rw [z] at g;exact cG g
   rw [bD g] at e
   have gj:c.aa[f].ay.aO=ak:=by refine aq g ?_;rfl
   apply ai;exact iK er hn
   have:=ih (x:=ac (.f i)) (S _ (Av hf) gj) e
   rw [← fh gj] at this
   exact this
def agw(h:Hd)(c:Cd)(S:iC c){place:af}(hp:place<c.aa.length)(hn:c.aa.length≤500):PC (vC a4 (d+1)) 23 [.f (aU h c),.f (.ae place)] (.ae (pz c.aa place)):=pf ag ag ag ag fun C e σ Q hq=>by
 have hq':=b8 (Q:=Q) hq (eG (l:=σ))
 apply ai;exact eS hn
 apply ai;exact jq (a5 hn (by decide))
 refine U0 h c S hn (v:=pz c.aa place) (fun q9=>hq') (fun z q9 q9=>?_) hp (by rw [nV];rfl)
 rw [z] at hq';exact hq'
def I5(rs:ao R):(rs.map ac).map iV=rs.map eJ:=oM
def KM(r:R)(t:af)(h:r.ay.aO=ak):eJ {r with t:=t}=.ic 0 [.ah r.ay.bH,.ae t,r.b,r.c,.ae r.eZ] :=Fr (fun q9=>t) r h▸by unfold R.jZ;(refine aq (bD h) ?_;rfl)
def CX(h:Hd)(c:Cd)(I:j7 c)(S:iC c)(hn:c.aa.length≤500)(hk:c.aK.length≤500)(hs:c.aZ.length≤500):PC (vC a4 (d+4)) 24 [.f (aU h c)] (aU h (dQ c)):=pf ag ag ag ag fun C e σ Q hq=>by
 apply ai;exact iD (fC _)
 apply ai;exact dJ hn
 refine t9 (fun i=>σ++[ac (.al (((c.aa.take i).map (cO c.aa)).map eJ))]) (fun _ (g:aM aC×aM aC)=>[ac (.f (aU h c)),ac (.a6 σ.length),g.1,g.2]) (g:=(au,au)) (fun i r g N hi hN=>?_) fun g=>?_
 ·have hm:=gM hi
  have kb:(((c.aa.take i).map (cO c.aa)).map eJ).length≤100000:=by
   rw [b9,b9];exact a5 (wx ..) (a5 hn (by decide))
  rw [uG,hi,Re,qJ,qJ,aal,aal] at hN
  apply ai;exact J7 _
  refine bj (fun g=>?_) fun g=>?_
  ·have hj:r.ay.aO=aF:=qO g
   have e1:cO c.aa r=r:=by unfold cO;rw [cL (by refine aq hj ?_;decide)]
   apply ai;exact cT (dP _ _ _)
   apply ai;exact rH kb
   exact e1▸hN (_,_)
  ·have hj:r.ay.aO=ak:=tM g
   have ht:=S r hm hj
   have CT:=IQ S ht c.aa.length r.t ht
   have er:c.aa[pz c.aa r.t]? =ac c.aa[pz c.aa r.t] :=ed CT
   have pe:PC C 23 [.f (aU h c),.f (fa r)] (.ae (pz c.aa r.t)):=by refine aq (fh hj) ?_;exact e▸agw h c S ht hn
   refine pc ag pe ?_
   have fJ:∀{b:av},(r.ay== .bp&&io c.aa (pz c.aa r.t))=b→cO c.aa r=if b then .bk .dY 0 r.eZ else {r with t:=pz c.aa r.t}:=fun {b} hb=>by
    unfold cO;(refine aq (bD hj) ?_;refine aq hb ?_;rfl)
   have lv:io c.aa (pz c.aa r.t)=(c.aa[pz c.aa r.t].ay== .dY):=by unfold io;simp only [er]
   refine bj (fun g=>?_) fun g=>?_
   ·rw [qy] at g
    apply ai;exact iK er hn
    refine bj (fun g2=>?_) fun g2=>?_<;>rw [I3] at g2
    ·rw [fJ (b:=ak) (by (refine aq g ?_;refine aq lv ?_;refine aq g2 ?_);rfl)] at hN
     apply ai;exact cT (dP _ _ _)
     refine pc e (sB ..) ?_
     apply ai;exact rH kb
     exact hN (_,_)
    ·rw [fJ (b:=aF) (by (refine aq g ?_;refine aq lv ?_;refine aq g2 ?_);rfl),cL (by decide),KM _ _ hj] at hN
     apply ai;exact cT (dP _ _ _)
     refine pc e (oE ..) ?_
     apply ai;exact rH kb
     exact hN (_,_)
   ·refine dH g ?_
    rw [qy] at g
    rw [fJ (b:=aF) (by refine aq g ?_;rfl),cL (by decide),KM _ _ hj] at hN
    apply ai;exact cT (dP _ _ _)
    refine pc e (oE ..) ?_
    apply ai;exact rH kb
    exact hN (_,_)
 apply ai;exact kP (dP _ _ _)
 (rewrite [my];refine aq eG ?_;rw [← I5])
 refine pc e (vG h c ((c.aa.map (cO c.aa)).map ac) I (by rw [b9,b9]) (fun q r e k=>?_) hn hk hs) (b8 (Q:=Q) hq (kY _ _))
 refine aw fun kz=>?_
 obtain ⟨r1,e1,e2⟩:=sA e
 refine kz ?_;try clear kz
 obtain rfl:=cp e2
 refine aw fun kz=>?_
 obtain ⟨r0,e0,e2⟩:=sA e1
 refine kz ?_;try clear kz
 subst e2
 exact jH (Kx S (gM e0) k)
end
section
def A0{test:bJ→an→(av→an→Prop)→Prop}{body:bJ→an→KS→Prop}{K:KS}(I:af→bJ→an→Prop)
  (step:∀(m:af)(ρ:bJ)(σ:an)(N:bJ→an→Prop),I m ρ σ→(∀(m':af)(dw:bJ)(bS:an),m'<m→I m' dw bS→N dw bS)→test ρ σ (kWh body N K ρ)):∀{n m:af}{ρ:bJ}{σ:an},I m ρ σ→m<n→t6 test body K n ρ σ:=by
 intro n
 induction n with
 |zero=>
  intro _ _ _ _ h
  exact bW h (yh _)
 |succ n ih=>
  intro m ρ σ hI h
  exact step m ρ σ _ hI fun q9 q9 q9 lt hI'=>ih hI' (iN lt (uf h))
noncomputable def A1(n:af)(m:af→av):af:=(gw n).countP fun p=>!m p
def GH(n:af)(m:af→av):A1 n m≤n:=by
 have:=aad (p:=fun p=>!m p) (l:=gw n)
 rw [sM] at this;exact this
def I6{n t:af}{m:af→av}(ht:t<n)(h:m t=aF):A1 n (fun p=>m p||t==p)+1=A1 n m:=by
 unfold A1
 induction n with
 |zero=>lia
 |succ n ih=>
  (refine aq Aw ?_;refine aq LM ?_;refine aq LM ?_;refine aq LH ?_;refine aq LH ?_)
  by_cases e:t=n
  ·subst e
   have:(gw t).countP (fun p=>!(m p||t==p))=(gw t).countP fun p=>!m p:=by
    refine List.countP_congr fun p hp=>?_
    have:=qk.mp hp
    have:(t==p)=aF:=by simp;lia
    simp [this]
   (refine aq this ?_;refine aq h ?_)
   simp
  ·have:=ih (by lia)
   have e2:(t==n)=aF:=by simp;exact e
   simp only [e2,Am] at this⊢
   lia
open Classical in
def lV(c:Cd)(p:Nat):Bool:=decide (bb c.nc p)
def n9(c:Cd)(p:af):lV c p=ak↔bb c.nc p:=by simp [lV]
def vH(c:Cd)(m:af→av)(l:ao af):Prop:=(∀p,m p=ak→bb c.nc p)∧(∀p∈l,bb c.nc p)∧(∀p∈c.aZ,m p=ak∨p∈l)∧(∀(p:af)(r:R),m p=ak→c.aa[p]? =ac r→(r.ay.aO=ak→m r.t=ak∨r.t∈l)∧(r.ay.c3=aF→m (p+1)=ak∨p+1∈l)∧∀k∈c.aK,k.bU p=ak→m k.bC=ak∨k.bC∈l)
section
variable{c:Cd}{m:af→av}{l:ao af}(s0:vH c m l)
include s0
def vH.tN:∀p,m p=ak→bb c.nc p:=s0.1
def vH.vI:∀p∈l,bb c.nc p:=s0.2.1
def vH.aZ:∀p∈c.aZ,m p=ak∨p∈l:=s0.2.2.1
def vH.dE:∀(p:af)(r:R),m p=ak→c.aa[p]? =ac r→(r.ay.aO=ak→m r.t=ak∨r.t∈l)∧(r.ay.c3=aF→m (p+1)=ak∨p+1∈l)∧∀k∈c.aK,k.bU p=ak→m k.bC=ak∨k.bC∈l:=s0.2.2.2
end
def vH.qz{c:Cd}{m:af→av}(h:vH c m []):∀p,m p=lV c p:=fun p=>by
 rw [Al,n9]
 refine ⟨h.tN p,fun z=>?_⟩
 induction z with
 |cR hp=>exact (h.aZ _ hp).resolve_right (by simp)
 |nS _ e _=>exact bW e (xm _)
 |d7 _ e k ih=>exact ((h.dE _ _ ih (cP.mp e)).2.1 k).resolve_right (by simp)
 |bp _ e k ih=>exact ((h.dE _ _ ih (cP.mp e)).1 k).resolve_right (by simp)
 |cM _ e hc k ih=>exact ((h.dE _ _ ih (cP.mp e)).2.2 _ hc k).resolve_right (by simp)
def vH.cC{c:Cd}{m:af→av}{l:ao af}{p:af}(h:vH c m (l++[p]))(hp:m p=ak):vH c m l:=by
 have key:∀q,m q=ak∨q∈l++[p] →m q=ak∨q∈l:=fun q hq=>by
  rcases hq with hq|hq
  ·exact .inl hq
  ·rcases pD.mp hq with hq|hq
   ·exact .inr hq
   ·simp at hq;subst hq;exact .inl hp
 exact ⟨h.tN,fun q hq=>h.vI q (rM _ hq),fun q hq=>key q (h.aZ q hq),fun q r h1 h2=>by obtain ⟨a,b,cc⟩:=h.dE q r h1 h2;exact ⟨fun k=>key _ (a k),fun k=>key _ (b k),fun k hk z=>key _ (cc k hk z)⟩⟩
def jk(c:Cd)(p:af)(r:R):ao af:=(if r.ay.aO then [r.t] else [])++(if r.ay.c3 then [] else [p+1])++(c.aK.filter (·.bU p)).map (·.bC)
def PJ(c:Cd)(p:af)(r:R):(jk c p r).length≤2+c.aK.length:=by
 unfold jk
 have:=wv (fun k:Ct=>k.bU p) c.aK
 (refine aq dg ?_;refine aq dg ?_;rw [b9])
 split<;>split<;>simp<;>lia
def vH.A2{c:Cd}{m:af→av}{l:ao af}{p:af}{r:R}(h:vH c m (l++[p]))(hr:c.aa[p]? =ac r):vH c (fun q=>m q||p==q) (l++jk c p r):=by
 have rp:bb c.nc p:=h.vI p (by simp)
 have key:∀q,m q=ak∨q∈l++[p] →(m q||p==q)=ak∨q∈l++jk c p r:=fun q hq=>by
  rcases hq with hq|hq
  ·left;simp [hq]
  ·rcases pD.mp hq with hq|hq
   ·exact .inr (rM _ hq)
   ·simp at hq;subst hq;left;simp
 have nx:∀q,q∈jk c p r→bb c.nc q:=fun q hq=>by
  unfold jk at hq
  rcases pD.mp hq with hq|hq
  ·rcases pD.mp hq with hq|hq
   ·split at hq
    ·rename_i k;simp at hq;subst hq;exact .bp rp (cP.mpr hr) k
    ·cases hq
   ·split at hq
    ·cases hq
    ·rename_i k;simp at hq;subst hq;exact .d7 rp (cP.mpr hr) (by simpa using k)
  ·refine aw fun kz=>?_
   obtain ⟨k,hk,rfl⟩:=iO.mp hq
   obtain ⟨h1,h2⟩:=o5.mp hk
   refine kz ?_;try clear kz
   exact .cM rp (cP.mpr hr) h1 h2
 refine ⟨fun q hq=>?_,fun q hq=>?_,fun q hq=>key q (h.aZ q hq),fun q r' h1 h2=>?_⟩
 ·simp only [Rj,mi] at hq
  rcases hq with hq|rfl
  ·exact h.tN q hq
  ·exact rp
 ·rcases pD.mp hq with hq|hq
  ·exact h.vI q (rM _ hq)
  ·exact nx q hq
 ·simp only [Rj,mi] at h1
  rcases h1 with h1|rfl
  ·refine aw fun kz=>?_
   obtain ⟨a,b,cc⟩:=h.dE q r' h1 h2
   refine kz ?_;try clear kz
   exact ⟨fun k=>key _ (a k),fun k=>key _ (b k),fun k hk z=>key _ (cc k hk z)⟩
  ·rw [hr] at h2;obtain rfl:=cp h2
   refine ⟨fun k=>.inr (qU _ ?_),fun k=>.inr (qU _ ?_),fun k hk z=>.inr (qU _ ?_)⟩
   ·unfold jk;refine aq (bD k) ?_;simp
   ·unfold jk;refine aq k ?_;simp
   ·unfold jk
    exact qU _ (iO.mpr ⟨k,o5.mpr ⟨hk,z⟩,ag⟩)
def adQ{α:Type}{f:α→am}{σ:an}{l:ao α}(h:l.length≤500):eP σ aF 1 [.f (.al (l.map f))] =ac (.a6 σ.length,σ++[ac (.al (l.map f))]):=ags h
def X8{α:Type}{f:α→am}{σ:an}{x:aM cD}{l:ao α}(h:l.length≤500):eP (σ++[x]) aF 1 [.f (.al (l.map f))] =ac (.a6 (σ.length+1),σ++[x,ac (.al (l.map f))]):=
 uU (b9 f (as:=l)▸a5 h (by decide))
def xU{l:ao af}(h:l.length≤1100):(bI l).length≤100000:=b9 e7 (as:=l)▸a5 h (by decide)
def abQ{σ:an}{x:aM cD}{l:ao af}{p:af}{t:an}(h:(l++[p]).length≤1100):kG a4 (σ++x::ac (.al (bI (l++[p])))::t) .g6 (.a6 (σ.length+1)) [] =ac (.f (.ae p),σ++x::ac (.al (bI l))::t):=by
 have hl:=xU h
 have e:(bI (l++[p])).length=l.length+1:=by (rewrite [b9];refine aq dg ?_);rfl
 have e2:bI (l++[p])=bI l++[p].map e7:=qJ
 have g:(bI l++[p].map e7)[l.length]? =ac (.ae p):=by
  rw [nO (by rw [b9];exact c9 _),b9,nZ];rfl
 rw [abO (mZ _ _ _ _) hl (by (refine aq e ?_;rewrite [Lv];refine aq e2 ?_);exact g),Er,e,Lv,e2,Ry (by rw [b9];exact c9 _),b9,nZ]
 (refine aq (show ([p].map e7).eraseIdx 0=[] from ag) ?_;rw [ny])
section
variable{d:af}{σ:an}{fz:av}
def ME{x:aM cD}{l:ao af}{p:af}{t:an}(h:l.length≤1100):kG a4 (σ++x::ac (.al (bI l))::t) .eA (.a6 (σ.length+1)) [.f (.ae p)] =ac (.f .aA,σ++x::ac (.al (bI (l++[p])))::t):=by
 (refine aq (abP (xU h)) ?_;rw [sV])
def X9{σ:an}{i n t:af}{m:af→av}(h:σ[i]? =ac (ac (IX n m)))(ht:t<n)(hn:n≤1000):lN a4 σ (.a6 i) (.f (.ae t))=ac (.aG (m t)):=
 Es h (Oo ht) (by rw [GF];exact a5 hn (by decide))
def abR{x:aM cD}{l:ao af}{t:an}(h:l.length≤1100):eP (σ++x::ac (.al (bI l))::t) fz 0 [.a6 (σ.length+1)] =ac (.f (.ae l.length),σ++x::ac (.al (bI l))::t):=by
 (refine aq (yO (mZ _ _ _ _) (xU h)) ?_;rw [b9])
def KN{a b m:af}(h:a+1+b≤m):m-1<m∧a+b≤m-1:=
 have h':a+b<m:=iN (Nat.add_lt_add_right (je a) b) h
 ⟨LA (Lw h') Lz,Rn h'⟩
def adR{a x y k k2 m:af}(h:a+1+k≤m)(e:k=k2+(3+y))(n:x≤2+y):a+x+k2≤m-1:=ac9 h e n
def PK(h:Hd)(c:Cd){aE:av}(ok:gN c aE)(hn:c.aa.length≤20)(hk:c.aK.length≤8)(hs:c.aZ.length≤8):PC (vC a4 (d+2)) 25 [.f (aU h c)] (.al ((gw c.aa.length).map fun p=>.aG (lV c p))):=pf ag ag ag ag fun C e σ Q hq=>by
 obtain ⟨hh,Ty⟩:=ok.ie
 have ku:∀q,bb c.nc q→q<c.aa.length:=fun q z=>by
  have:=Ty.mW q z
  unfold Cd.nc at this;rw [b9] at this;exact this
 have hn5:c.aa.length≤500:=a5 hn (by decide)
 apply ai;exact eS hn5
 apply ai;exact (zF _ _ (a5 hn (by decide))).trans (Os (a5 hn (by decide)))
 apply ai;exact X8 (a5 hs (by decide))
 have mb:c.aZ.length+(3+c.aK.length)*c.aa.length≤500:=by
  exact a5 (tq hs (Ly (kN hk 3) hn)) (by decide)
 refine A0 (fun m ρ bS=>∃(f:af→av)(l:ao af)(x y z:aM aC),ρ=[ac (.f (aU h c)),ac (.a6 σ.length),ac (.a6 (σ.length+1)),x,y,z] ∧bS=σ++[ac (IX c.aa.length f),ac (.al (bI l))] ∧vH c f l∧l.length+(3+c.aK.length)*A1 c.aa.length f≤m∧m≤500) (fun m ρ bS N hI hN=>?_)
  ⟨_,c.aZ,_,_,_,ag,ag,⟨fun p hp=>(by exact cG hp),fun p hp=>.cR hp,fun p hp=>.inr hp,fun p r hp=>(by exact cG hp)⟩,kN (uC _ (GH _ _)) _,mb⟩ (ni mb (by decide))
 refine aw fun kz=>?_
 obtain ⟨f,l,x,y,z,rfl,rfl,W9,hm,hl⟩:=hI
 refine kz ?_;try clear kz
 have lb:l.length≤500:=a5 (ff _ _) (a5 hm hl)
 have up:∀{n:af},n≤600→n≤1100:=fun h=>a5 h (by decide)
 apply ai;exact abR (up (a5 lb (by decide)))
 refine bj (fun g=>?_) fun g=>?_
 ·have g:=eX g
  rcases aae l with rfl|⟨l',p,rfl⟩
  ·exact bW g (by decide)
  rw [aaf] at*
  rw [dg,zm] at lb hm
  have hp:=ku p (W9.vI p (qU _ fF))
  have er:c.aa[p]? =ac c.aa[p] :=ed hp
  apply ai;exact p7 (mZ _ _ _ _)
  apply ai;exact abQ (by (refine aq dg ?_;refine aq zm ?_);exact up (a5 lb (by decide)))
  apply ai;exact X9 (dP _ _ _) hp (a5 hn (by decide))
  refine bj (fun hfp=>?_) fun hfp=>?_
  ·exact hN (m-1) _ _ (KN hm).1 ⟨f,l',_,_,_,ag,ag,W9.cC hfp,(KN hm).2,a5 (DP m 1) hl⟩
  apply ai;exact Oq (dP _ _ _) hp (a5 hn (by decide))
  rw [my]
  apply ai;exact iK er hn5
  have nxl:=PJ c p c.aa[p]
  have dn:=I6 hp hfp
  have fJ:∀(l2:ao af)(x y z:aM aC),l2=l'++jk c p c.aa[p] →N [ac (.f (aU h c)),ac (.a6 σ.length),ac (.a6 (σ.length+1)),x,y,z] (σ++[ac (IX c.aa.length fun q=>f q||p==q),ac (.al (bI l2))]):=fun l2 x y z e2=>by
   subst e2
   refine hN (m-1) _ _ (KN hm).1 ⟨_,_,_,_,_,ag,ag,W9.A2 er,?_,a5 (DP m 1) hl⟩
   refine aq dg ?_
   have e3:(3+c.aK.length)*A1 c.aa.length f=(3+c.aK.length)*A1 c.aa.length (fun q=>f q||p==q)+(3+c.aK.length):=by (refine iu dn ?_;rw [DO])
   exact adR hm e3 nxl
  have gx:∀(l1:ao af)(K:KS)(z:aM aC),l1.length≤600→(∀z,K .aS [ac (.f (aU h c)),ac (.a6 σ.length),ac (.a6 (σ.length+1)),ac (.f (.ae p)),ac (.f (eJ c.aa[p])),z] (σ++[ac (IX c.aa.length fun q=>f q||p==q),ac (.al (bI (l1++(c.aK.filter (·.bU p)).map (·.bC))))]))→
    lP (fI ⟨a4,C⟩ oz) [5] aF K (c.aK.map nD) [ac (.f (aU h c)),ac (.a6 σ.length),ac (.a6 (σ.length+1)),ac (.f (.ae p)),ac (.f (eJ c.aa[p])),z] (σ++[ac (IX c.aa.length fun q=>f q||p==q),ac (.al (bI l1))]):=fun l1 K z hl1 hK=>by
   have:=t9 (K:=K) (body:=fI ⟨a4,C⟩ oz) (xs:=[5]) (tp:=aF) (e:=nD) (l:=c.aK) (g:=z) (fun i=>σ++[ac (IX c.aa.length fun q=>f q||p==q),ac (.al (bI (l1++((c.aK.take i).filter (·.bU p)).map (·.bC))))]) (fun q9 z=>[ac (.f (aU h c)),ac (.a6 σ.length),ac (.a6 (σ.length+1)),ac (.f (.ae p)),ac (.f (eJ c.aa[p])),z]) (fun i k z N hi hN=>?_) (by refine aq eG ?_;exact hK)
   ·rw [RR,LO,Hk,ny] at this
    exact this
   refine pc e (IZ k p) ?_
   rw [uG,hi,Re,List.filter_append,qJ,← qi] at hN
   refine bj (fun g=>?_) fun g=>?_
   ·apply ai;exact cT (mZ _ _ _ _)
    have hle:((c.aK.take i).filter (·.bU p)).length≤c.aK.length:=a5 (wv _ _) (wx ..)
    apply ai;exact ME (by (refine aq dg ?_;rw [b9]);exact a5 (tq hl1 (a5 hle hk)) (by decide))
    have e3:([k].filter (·.bU p)).map (·.bC)=[k.bC] :=by simp only [aao,g,if_true,LO];rfl
    rw [e3] at hN
    exact hN _
   ·have e3:([k].filter (·.bU p)).map (·.bC)=[] :=by simp only [aao,g,Bool.false_eq_true,if_false,LO];rfl
    rw [e3,ny] at hN
    exact hN _
  have after:∀(l1:ao af)(K:KS)(z:aM aC),l1.length≤600→l1++(c.aK.filter (·.bU p)).map (·.bC)=l'++jk c p c.aa[p] →lP (fI ⟨a4,C⟩ oz) [5] aF (Ih (fI ⟨a4,C⟩ .ab) (lF N K)) (c.aK.map nD) [ac (.f (aU h c)),ac (.a6 σ.length),ac (.a6 (σ.length+1)),ac (.f (.ae p)),ac (.f (eJ c.aa[p])),z] (σ++[ac (IX c.aa.length fun q=>f q||p==q),ac (.al (bI l1))]):=fun l1 K z hl1 e1=>
   gx l1 _ z hl1 fun z=>fJ _ _ _ _ e1
  have l8:wI (c.aK.map nD).length 100000=ac ():=dJ (a5 hk (by decide))
  unfold jk at after
  apply ai;exact rG _
  refine bj (fun hj=>?_) fun hj=>?_<;>rw [hj] at after
  ·apply ai;exact cT (mZ _ _ _ _)
   apply ai;refine aq (fh hj) ?_;exact ME (up (a5 (ou lb) (by decide)))
   apply ai;exact w5 _
   refine bj (fun he=>?_) fun he=>?_
   ·rw [qO he] at after
    apply ai;exact cT (mZ _ _ _ _)
    apply ai;exact ME (by (refine aq dg ?_;refine aq zm ?_);exact up (a5 lb (by decide)))
    apply ai;exact l8
    exact after _ _ _ (by simp only [dg,zm];exact a5 (jG (a5 (by first|exact lb|exact Nat.le_of_succ_le lb) (by decide:500≤598))) (by decide)) (by simp)
   ·rw [tM he] at after
    apply ai;exact l8
    exact after _ _ _ (by simp only [dg,zm];exact a5 (jG (a5 (by first|exact lb|exact ou lb) (by decide:500≤598))) (by decide)) (by simp)
  ·apply ai;exact w5 _
   refine bj (fun he=>?_) fun he=>?_
   ·rw [qO he] at after
    apply ai;exact cT (mZ _ _ _ _)
    apply ai;exact ME (up (a5 (ou lb) (by decide)))
    apply ai;exact l8
    exact after _ _ _ (by simp only [dg,zm];exact a5 (jG (a5 (by first|exact lb|exact ou lb) (by decide:500≤598))) (by decide)) (by simp)
   ·rw [tM he] at after
    apply ai;exact l8
    exact after _ _ _ (a5 (ou lb) (by decide)) (by simp)
 ·have g:=yi g
  have:l=[] :=List.eq_nil_of_length_eq_zero (by lia)
  subst this
  apply ai;exact kP (dP _ _ _)
  rw [my]
  have ef:f=lV c:=rj W9.qz
  subst ef
  exact b8 (Q:=Q) hq (kY _ _)
end
end
def PL(n k:af):cU ((n:aN)-k)=cU ((n-k:af):aN):=by
 unfold cU
 rw [Int.toNat_sub,Ea]
def J8{n k:af}(h:n≤500)(hk:k≤500):uQ aF (.f (.ae ((n:aN)-k)))=ac (cU ((n-k:af):aN)):=by
 unfold uQ;(refine aq (cL (by decide)) ?_;rw [← PL]);exact bD (afT h hk)
noncomputable def CY(o:aM R)(f:Op→av):av:=match o with
 |some r=>f r.ay
 |none=>aF
def zG{d:af}(o:aM R){l:ao am}{f:Op→av}(h:(fx.all fun op=>d3 (jh (.ah op.bH) l) (f op))=ak):PC (vC a4 (d+1)) 19 [.f (iV o),.f (.bE l)] (.aG (CY o f)):=XW o l f h
def abS:(fx.all fun op=>d3 (jh (.ah op.bH) [.ah "pop"]) (op== .g6))=ak:=by kernel_rfl
def abT:(fx.all fun op=>d3 (jh (.ah op.bH) [.ah "dup"]) (op== .mD))=ak:=by kernel_rfl
def TH:(fx.all fun op=>d3 (jh (.ah op.bH) [.ah "swap"]) (op== .cA))=ak:=by kernel_rfl
def adS:(fx.all fun op=>d3 (jh (.ah op.bH) [.ah "push"]) (op== .dh))=ak:=by kernel_rfl
def TJ:(fx.all fun op=>d3 (jh (.ah op.bH) [.ah "jump"]) (op== .bp))=ak:=by kernel_rfl
def U1(aa:aR)(p:af)(a:aM R):(aa.map iV).set p (iV a)=(aa.set p a).map iV:=List.map_set.symm
def HP(c:Cd):am:=.al ((gw (c.aa.length+1)).map fun p=>.aG (c.bQ p))
section
variable{d:af}{σ:an}{fz:av}
def rI{c:Cd}{p:af}(h:p≤c.aa.length)(hn:c.aa.length≤500):lN a4 σ (.f (HP c)) (.f (.ae p))=ac (.aG (c.bQ p)):=
 uv (Oo (Ao h)) (by rw [GF];exact a5 (jG hn) (by decide))
def om{aa:aR}{p:af}{l:an}(h:p<aa.length)(hn:aa.length≤500):lN a4 (σ++ac (.al (aa.map iV))::l) (.a6 σ.length) (.f (.ae p))=ac (iV aa[p]):=
 Es (dP _ _ _) (by rw [j9,ed h];rfl) (by rw [b9];exact a5 hn (by decide))
def uV{aa:aR}{p:af}{l:an}(a:aM R)(h:p<aa.length)(hn:aa.length≤500):o6 (σ++ac (.al (aa.map iV))::l) (.a6 σ.length) (.f (.ae p)) (.f (iV a))=ac (σ++ac (.al ((aa.set p a).map iV))::l):=by
 rw [KG (dP _ _ _) (by rw [b9];exact h) (by rw [b9];exact a5 hn (by decide)),my,U1]
def iT{aa:aR}{p:af}{l:an}(h:p<aa.length)(hn:aa.length≤500):o6 (σ++ac (.al (aa.map iV))::l) (.a6 σ.length) (.f (.ae p)) (.f .aA)=ac (σ++ac (.al ((aa.set p au).map iV))::l):=uV au h hn
def A3{c:Cd}{aa:aR}{p:af}{f:R→R→aM aR}(h:p+1<aa.length):lU c aa p f=match aa[p],aa[p+1] with|some r,ac r'=>if c.bQ (p+1) then aa else (f r r').getD aa|_,_=>aa:=by
 unfold lU
 rw [ed h,ed (vg h)]
 rfl
def aiE(h:Hd)(c:Cd)(C:bw)(σ:an)(L:bK)(nx k:af)(step:aR→af→aR)(P:af→aR→Prop):Prop:=∀(aa:aR)(p:af)(ex:bJ)(N:bJ→an→Prop)(K:KS),ex.length=nx→aa.length=c.aa.length→p+k<c.aa.length→P p aa→
 (∀Xq:bJ,Xq.length=nx→N (ac (.f (aU h c))::ac (.f (.ae p))::ac (.a6 σ.length)::ac (.f (HP c))::Xq) (σ++[ac (.al ((step aa p).map iV))]))→
 fI ⟨a4,C⟩ L (ac (.f (aU h c))::ac (.f (.ae p))::ac (.a6 σ.length)::ac (.f (HP c))::ex) (σ++[ac (.al (aa.map iV))]) (lF N K)
def BH{C:bw}(eC:C=vC a4 (d+3))(h:Hd)(c:Cd){step:Cd→aR→af→aR}{L:bK}{k nx:af}(I:j7 c)(hn:c.aa.length≤500)(hk:c.aK.length≤500)(hs:c.aZ.length≤500)(hk2:k≤2)(B:∀(aa:aR)(p:af),(step c aa p).length=aa.length)
  {P:af→aR→Prop} (P0:P 0 (c.aa.map ac)) (PS:∀i aa,i<c.aa.length-k→P i aa→P (i+1) (step c aa i)) (hj:∀(q:af)(r:R),(cv c step (c.aa.length-k))[q]? =ac (ac r)→r.ay.aO=ak→r.t≤c.aa.length)
  (T:aiE h c C σ L nx k (step c) P) (Q:KE) (hq:Q (.f (aU h (c.bL (cv c step (c.aa.length-k))))) σ):
  fI ⟨a4,C⟩ (.O (.dS [2,3] (.O (.aD aF (.aJ 9) (.O (.aB (.az 0) "rows") .ab)) (.O (.aD ak (.aJ 27) (.O (.az 0) .ab)) .ab)))
   (.O (.fY [1] aF (.gD (.d6 ak .fA (.aD ak (.aJ 12) (.O (.az 2) .ab)) (.ae k))) L) (.O (.a9 (.aD ak (.aJ 25) (.O (.az 0) (.O (.tG (.az 2)) .ab)))) .ab)))
   (ac (.f (aU h c))::au::au::au::mJ nx au) σ (oA aF σ.length Q):=by
 apply ai;exact adQ hn
 refine pc eC (XZ h c I hn hk hs) ?_
 rw [← I5]
 have fl:∀i,(cv c step i).length=c.aa.length:=fun i=>cW B i
 have l5:((c.aa.map ac).map iV).length≤100000:=by rw [b9,b9];exact a5 hn (by decide)
 apply ai;exact yO (dP _ _ _) l5
 rw [b9,b9]
 apply ai;exact J8 hn (a5 hk2 (by decide))
 have fP:∀i,i≤c.aa.length-k→P i (cv c step i):=fun i hi=>by
  induction i with
  |zero=>exact P0
  |succ i ih=>
   have e:cv c step (i+1)=step c (cv c step i) i:=by
    unfold cv;(refine aq Aw ?_;refine aq yk ?_);rfl
   exact e▸PS i _ hi (ih (ou hi))
 have go:=adK (K:=Ih (fI ⟨a4,C⟩ (.O (.a9 (.aD ak (.aJ 25) (.O (.az 0) (.O (.tG (.az 2)) .ab)))) .ab)) (oA aF σ.length Q)) (body:=fI ⟨a4,C⟩ L) (xs:=[1]) (tp:=aF) (n:=c.aa.length-k) (fun i=>σ++[ac (.al ((cv c step i).map iV))]) (fun i (g:aM aC×{ex:bJ // ex.length=nx})=>ac (.f (aU h c))::g.1::ac (.a6 σ.length)::ac (.f (HP c))::g.2.1) (g:=(au,⟨mJ nx au,RB⟩)) (fun i g N hi hN=>?_) (fun g=>?_)
 ·exact go
 ·refine T (cv c step i) i g.2.1 N _ g.2.2 (fl i) (ZP hi) (fP i (jH hi)) fun Xq he=>?_
  have e:cv c step (i+1)=step c (cv c step i) i:=by
   unfold cv;(refine aq Aw ?_;refine aq yk ?_);rfl
  refine iu e ?_
  exact hN (_,⟨Xq,he⟩)
 ·apply ai;exact kP (dP _ _ _)
  rw [my]
  exact pc eC (vG h c (cv c step (c.aa.length-k)) I (fl _) hj hn hk hs) (b8 (Q:=Q) hq (kY _ _))
def uw{c:Cd}{aE:av}{i:af}{aa:aR}(F:gQ c aE i aa)(I:j7 c)(q:af)(r:R)(e:aa[q]? =ac (ac r))(k:r.ay.aO=ak):r.t≤c.aa.length:=(F.jW q r e k).elim (Oj I) fun hz=>hz.elim fun rl h=>ZR (fM.mp h.1).1
def KO{α:Type}{l:ao α}(h:l.length=0):l=[] :=Z6.mp h
def Ya{c:Cd}{aa:aR}{p:af}(h:p+1<aa.length):ii c aa p=bif CY aa[p] Op.kh&&(CY aa[p+1] (· == .g6)&& !c.bQ (p+1)) then e8 aa p au au else aa:=by
 unfold ii
 refine aq (A3 h) ?_
 cases aa[p] with
 |none=>rfl
 |some r=>cases aa[p+1] with
  |none=>cases g:r.ay.kh<;>simp only [CY,g] <;>rfl
  |some r'=>simp only [CY];cases c.bQ (p+1)<;>cases r.ay.kh<;>cases r'.ay== .g6<;>rfl
def I7(h:Hd)(c:Cd){aE:av}(ok:gN c aE)(I:j7 c)(hn:c.aa.length≤500)(hk:c.aK.length≤500)(hs:c.aZ.length≤500):PC (vC a4 (d+4)) 27 [.f (aU h c)] (aU h (eQ c)):=pf ag ag ag ag fun C e σ Q hq=>by
 refine BH (nx:=0) (k:=1) e h c (step:=ii) I hn hk hs (by decide) rD (P:=fun q9 q9=>kD) di (fun q9 q9 q9 q9=>di) (uw (u3 ok _) I) (fun aa p ex N K hx hl hp q9 hN=>?_) Q hq
 obtain rfl:=KO hx
 have ux:p+1<aa.length:=hl▸hp
 have zH:p<aa.length:=vg ux
 have m4:aa.length≤500:=hl▸hn
 rw [Ya ux] at hN
 apply ai;exact om zH m4
 refine pc e (zG aa[p] GC) ?_
 refine bj (fun g=>?_) fun g=>?_
 ·rw [g] at hN
  apply ai;exact om ux m4
  refine pc e (zG aa[p+1] abS) ?_
  refine bj (fun g=>?_) fun g=>?_
  ·rw [g] at hN
   apply ai;exact rI (jH hp) hn
   refine bj (fun g=>?_) fun g=>?_
   ·rw [qO g] at hN
    apply ai;exact iT zH m4
    apply ai;exact iT (aa:=aa.set p au) (p:=p+1) (by refine aq qj ?_;exact ux) (by refine aq qj ?_;exact m4)
    exact hN [] ag
   ·rw [tM g] at hN;exact hN [] ag
  ·rw [g] at hN;exact dH g (hN [] ag)
 ·rw [g] at hN;exact dH g (hN [] ag)
end
def ES{aa:aR}{p:af}{r:R}(hp:p<aa.length)(h:aa[p] =ac r):aa.set p (ac r)=aa:=by
 refine iu h ?_;exact aac hp
def Yb{c:Cd}{aa:aR}{p:af}(h:p+1<aa.length):ij c aa p=bif CY aa[p+1] (· == .cA)&& !c.bQ (p+1) then (bif CY aa[p] (· == .cA) then e8 aa p au au else bif CY aa[p] (· == .mD) then aa.set (p+1) au else aa) else aa:=by
 have h0:=vg h
 unfold ij
 refine aq (A3 h) ?_
 cases e:aa[p] with
 |none=>cases CY aa[p+1] (· == .cA)&& !c.bQ (p+1)<;>rfl
 |some r=>
  have es:e8 aa p (ac r) au=aa.set (p+1) au:=by unfold e8;(refine aq (ES h0 e) ?_;rfl)
  cases aa[p+1] with
  |none=>rfl
  |some r'=>simp only [CY,es];cases c.bQ (p+1)<;>cases r.ay== .cA<;>cases r.ay== .mD<;>cases r'.ay== .cA<;>rfl
def U2{c:Cd}{aa:aR}{p:af}(h:p+2<aa.length):gc c aa p=bif CY aa[p] (· == .mD)&&(CY aa[p+1] Op.fU&&CY aa[p+2] (· == .g6)) then (bif !c.bQ (p+1)&& !c.bQ (p+2) then (aa.set p au).set (p+2) au else aa) else aa:=by
 have h1:p+1<aa.length:=vg h
 have h0:p<aa.length:=vg h1
 unfold gc
 (rewrite [ed h,ed h1,ed h0];refine aq Rf ?_;refine aq Rf ?_;refine aq Rf ?_)
 cases aa[p] with
 |none=>rfl
 |some r=>
  cases e1:aa[p+1] with
  |none=>cases g:r.ay== .mD<;>simp only [CY,g] <;>rfl
  |some r'=>
   have es:=XM (aa:=aa) (p:=p) (r':=r') (by (rewrite [ed h1];refine aq e1 ?_;rfl))
   cases aa[p+2] with
   |none=>simp only [CY];cases r.ay== .mD<;>cases r'.ay.fU<;>rfl
   |some oW=>simp only [CY,es];cases c.bQ (p+1)<;>cases c.bQ (p+2)<;>cases r.ay== .mD<;>cases r'.ay.fU<;>cases oW.ay== .g6<;>rfl
section
variable{d:af}{σ:an}{fz:av}
def Ot(h:Hd)(c:Cd){aE:av}(ok:gN c aE)(I:j7 c)(hn:c.aa.length≤500)(hk:c.aK.length≤500)(hs:c.aZ.length≤500):PC (vC a4 (d+4)) 33 [.f (aU h c)] (aU h (gp c)):=pf ag ag ag ag fun C e σ Q hq=>by
 refine BH (nx:=0) (k:=1) e h c (step:=ij) I hn hk hs (by decide) ut (P:=fun q9 q9=>kD) di (fun q9 q9 q9 q9=>di) (uw (wZ ok _) I) (fun aa p ex N K hx hl hp q9 hN=>?_) Q hq
 obtain rfl:=KO hx
 have ux:p+1<aa.length:=hl▸hp
 have zH:p<aa.length:=vg ux
 have m4:aa.length≤500:=hl▸hn
 rw [Yb ux] at hN
 apply ai;exact om ux m4
 refine pc e (zG aa[p+1] TH) ?_
 refine bj (fun g=>?_) fun g=>?_
 ·rw [qO g] at hN
  exact ig g (hN [] ag)
 ·rw [tM g] at hN
  apply ai;exact rI (jH hp) hn
  refine bj (fun g=>?_) fun g=>?_
  ·rw [g] at hN;exact hN [] ag
  ·rw [g] at hN
   apply ai;exact om zH m4
   refine pc e (zG aa[p] TH) ?_
   refine bj (fun g=>?_) fun g=>?_
   ·rw [g] at hN
    apply ai;exact iT zH m4
    apply ai;exact iT (aa:=aa.set p au) (p:=p+1) (by refine aq qj ?_;exact ux) (by refine aq qj ?_;exact m4)
    exact hN [] ag
   ·rw [g] at hN
    apply ai;exact om zH m4
    refine pc e (zG aa[p] abT) ?_
    refine bj (fun g=>?_) fun g=>?_
    ·rw [g] at hN
     apply ai;exact iT ux m4
     exact hN [] ag
    ·rw [g] at hN;exact hN [] ag
def I8(h:Hd)(c:Cd){aE:av}(ok:gN c aE)(I:j7 c)(hn:c.aa.length≤500)(hk:c.aK.length≤500)(hs:c.aZ.length≤500):PC (vC a4 (d+4)) 28 [.f (aU h c)] (aU h (fe c)):=pf ag ag ag ag fun C e σ Q hq=>by
 refine BH (nx:=0) (k:=2) e h c (step:=gc) I hn hk hs (by decide) rE (P:=fun q9 q9=>kD) di (fun q9 q9 q9 q9=>di) (uw (u6 ok _) I) (fun aa p ex N K hx hl hp q9 hN=>?_) Q hq
 obtain rfl:=KO hx
 have hp2:p+2<aa.length:=hl▸hp
 have ux:p+1<aa.length:=vg hp2
 have zH:p<aa.length:=vg ux
 have m4:aa.length≤500:=hl▸hn
 rw [U2 hp2] at hN
 apply ai;exact om zH m4
 refine pc e (zG aa[p] abT) ?_
 refine bj (fun g=>?_) fun g=>?_<;>rw [g] at hN
 ·apply ai;exact om ux m4
  refine pc e (zG aa[p+1] Cr) ?_
  refine bj (fun g=>?_) fun g=>?_<;>rw [g] at hN
  ·apply ai;exact om hp2 m4
   refine pc e (zG aa[p+2] abS) ?_
   refine bj (fun g=>?_) fun g=>?_<;>rw [g] at hN
   ·apply ai;exact rI (jH (vg hp)) hn
    refine bj (fun g=>?_) fun g=>?_
    ·rw [qO g] at hN
     apply ai;exact rI (jH hp) hn
     refine bj (fun g=>?_) fun g=>?_
     ·rw [qO g] at hN
      apply ai;exact iT zH m4
      apply ai;exact iT (aa:=aa.set p au) (p:=p+2) (by refine aq qj ?_;exact hp2) (by refine aq qj ?_;exact m4)
      exact hN [] ag
     ·rw [tM g] at hN;exact hN [] ag
    ·rw [tM g] at hN;exact dH g (hN [] ag)
   ·exact hN [] ag
  ·exact dH g (hN [] ag)
 ·exact dH g (hN [] ag)
end
def Fs(op:Op):(op.bH==("jumpif":aI))=(op== .iU):=gR op .iU
def xn(a b:af):((a:aN)==(b:aN))=(a==b):=by
 rw [Al,mi,mi];exact aaV
def MF(c:Cd)(aa:aR)(p:af):aM R→aM R→aR
 |some r,ac r'=>bif r.ay.aV&&(r'.ay== .bp&&(r.t==p+2&& !c.bQ (p+1))) then e8 aa p (ac (.bk r.ay.fR r'.t r.eZ)) au else aa
 |_,_=>aa
def I9{c:Cd}{aa:aR}{p:af}{r r':R}:MF c aa p (ac r) (ac r')=bif r.ay.aV&&(r'.ay== .bp&&(r.t==p+2&& !c.bQ (p+1))) then e8 aa p (ac (.bk r.ay.fR r'.t r.eZ)) au else aa:=ag
def Yc{c:Cd}{aa:aR}{p:af}(h:p+1<aa.length):ik c aa p=MF c aa p aa[p] aa[p+1] :=by
 unfold ik MF
 refine aq (A3 h) ?_
 cases aa[p] with
 |none=>rfl
 |some r=>cases aa[p+1] with
  |none=>rfl
  |some r'=>cases c.bQ (p+1)<;>cases h1:r.ay.aV<;>cases h2:r'.ay== .bp<;>cases h3:r.t==p+2<;>simp only [h1,h2,h3] <;>rfl
def U3{op:Op}(h:op.aV=ak)(t:af)(l:aN):iV (ac (R.bk op.fR t l))=.ic 0 [.ah op.fR.bH,.ae t,.aA,.aA,.ae l] :=by
 exact oS (P:=fun op=>iV (ac (R.bk op.fR t l))=.ic 0 [.ah op.fR.bH,.ae t,.aA,.aA,.ae l]) h ag ag
section
variable{d:af}{σ:an}{fz:av}
def Ja(h:Hd)(c:Cd){aE:av}(ok:gN c aE)(I:j7 c)(hn:c.aa.length≤500)(hk:c.aK.length≤500)(hs:c.aZ.length≤500):PC (vC a4 (d+4)) 31 [.f (aU h c)] (aU h (fv c)):=pf ag ag ag ag fun C e σ Q hq=>by
 refine BH (nx:=3) (k:=1) e h c (step:=ik) I hn hk hs (by decide) uu (P:=fun q9 q9=>kD) di (fun q9 q9 q9 q9=>di) (uw (u5 ok _).1 I) (fun aa p ex N K hx hl hp q9 hN=>?_) Q hq
 refine aw fun kz=>?_
 obtain ⟨x,y,z,rfl⟩:=ade hx
 refine kz ?_;try clear kz
 have ux:p+1<aa.length:=hl▸hp
 have zH:p<aa.length:=vg ux
 have m4:aa.length≤500:=hl▸hn
 rw [Yc ux] at hN
 apply ai;exact om zH m4
 apply ai;exact om ux m4
 refine pc e (zG aa[p] sU) ?_
 generalize aa[p] =o0 at hN⊢
 generalize aa[p+1] =o1 at hN⊢
 induction o0 with
 |none=>exact hN [_,_,_] ag
 |some r=>
 refine bj (fun hb=>?_) fun hb=>?_
 ·refine pc e (zG o1 TJ) ?_
  induction o1 with
  |none=>exact hN [_,_,_] ag
  |some r'=>
  rw [I9,show r.ay.aV=ak from hb] at hN
  refine bj (fun hj=>?_) fun hj=>?_<;>rw [show (r'.ay== .bp)=_ from hj] at hN
  ·have hbj:r.ay.aO=ak:=(vw hb)
   have acI:fa r'=.ae r'.t:=fh (by refine aq (cz (show (r'.ay== .bp)=ak from hj)) ?_;rfl)
   apply ai (o:=fg a4 _ .bN (.f (fa r)) _) (a:=r.t==p+2);refine aq (fh hbj) ?_;exact a7 ac (xn r.t (p+2))
   refine bj (fun ht=>?_) fun ht=>?_<;>rw [ht] at hN
   ·apply ai;exact rI (jH hp) hn
    refine bj (fun g=>?_) fun g=>?_
    ·rw [qO g] at hN
     have fJ:∀(x:aI),r.ay.fR.bH=x→PC C 1000 [.f (.ah x),.f (fa r'),.f .aA,.f .aA,.f (.ae r.eZ)] (iV (ac (R.bk r.ay.fR r'.t r.eZ))):=fun x hx=>by
      (rewrite [U3 hb];refine aq hx ?_;refine aq acI ?_;refine aq e ?_);exact sB ..
     refine bj (fun g=>?_) fun g=>?_<;>rw [Fs] at g
     ·refine pc ag (fJ "jumpunless" (by refine aq (cz g) ?_;rfl)) ?_
      apply ai;exact uV _ zH m4
      apply ai;exact iT (p:=p+1) (by refine aq qj ?_;exact ux) (by refine aq qj ?_;exact m4)
      exact hN [_,_,_] ag
     ·have q:r.ay=.eY:=(oS (P:=fun op=>op=.iU∨op=.eY) hb (.inl ag) (.inr ag)).resolve_left fun q=>by rw [q] at g;exact cG g
      refine pc ag (fJ "jumpif" (by refine aq q ?_;rfl)) ?_
      apply ai;exact uV _ zH m4
      apply ai;exact iT (p:=p+1) (by refine aq qj ?_;exact ux) (by refine aq qj ?_;exact m4)
      exact hN [_,_,_] ag
    ·rw [tM g] at hN;exact hN [_,_,_] ag
   ·exact dH ht (hN [_,_,_] ag)
  ·exact dH hj (hN [_,_,_] ag)
 ·have e1:MF c aa p (ac r) o1=aa:=by
   induction o1 with
   |none=>rfl
   |some r'=>(refine aq I9 ?_;refine aq (show r.ay.aV=aF from hb) ?_);rfl
  rw [e1] at hN
  exact dH hb (hN [_,_,_] ag)
end
def Ft(c:Cd)(aa:aR)(p:af):aM R→aM R→aR
 |some r,ac r'=>bif c.bQ (p+1) then aa else (jS c aa p r r').getD aa
 |_,_=>aa
def U4{c:Cd}{aa:aR}{p:af}(h:p+1<aa.length):fy c aa p=Ft c aa p aa[p] aa[p+1] :=by
 unfold fy Ft
 refine aq (A3 h) ?_
 cases aa[p] with
 |none=>rfl
 |some r=>cases aa[p+1] with
  |none=>rfl
  |some r'=>cases c.bQ (p+1)<;>rfl
def Fu{c:Cd}{aa:aR}{p:af}{r r':R}:Ft c aa p (ac r) (ac r')=bif c.bQ (p+1) then aa else (jS c aa p r r').getD aa:=ag
def U5{c:Cd}{aa:aR}{p:af}{r r':R}(h:(r.ay== .dh)=ak)(hb:r'.ay.aV=ak):(jS c aa p r r').getD aa=e8 aa p au (if r'.ay.eD (cS r.a) then ac (.bk .bp r'.t r'.eZ) else au):=by
 unfold jS;(refine aq (bD h) ?_;refine aq (bD hb) ?_);rfl
def U6{c:Cd}{aa:aR}{p:af}{r r':R}(hb:r'.ay.aV=aF)(hj:(r'.ay== .bp)=aF):(jS c aa p r r').getD aa=aa:=by
 unfold jS;rw [cL (c:=r'.ay.aV=ak) (by refine aq hb ?_;decide),cL (c:=(r'.ay== .bp)=ak) (by refine aq hj ?_;decide)];split<;>rfl
def U7{c:Cd}{aa:aR}{p:af}{r r' rl:R}(h:(r.ay== .dh)=ak)(hb:r'.ay.aV=aF)(hj:(r'.ay== .bp)=ak)(el:c.aa[r'.t]? =ac rl):(jS c aa p r r').getD aa=if rl.ay.aV then e8 aa p au (ac {r' with t:=if rl.ay.eD (cS r.a) then rl.t else r'.t+1}) else aa:=by
 unfold jS;rw [bD h,cL (c:=r'.ay.aV=ak) (by refine aq hb ?_;decide),bD hj];simp only [el];cases rl.ay.aV<;>rfl
def U8{c:Cd}{aa:aR}{p:af}{r r':R}(h:(r.ay== .dh)=aF):(jS c aa p r r').getD aa=aa:=by
 unfold jS;rw [cL (by refine aq h ?_;decide)];rfl
section
variable{d:af}{σ:an}{fz:av}
def CZ(r:R)(v:am)(hv:iB v=ak):PC (vC a4 (d+2)) 29 [.f (eJ r),.f v] (.aG (r.ay.eD (cS v))):=pf ag ag ag ag fun C e σ Q hq=>by
 refine pc e (XX v hv) ?_
 exact b8 (Q:=Q) (by rw [Fs];exact hq) eG
def Ou(h:Hd)(c:Cd){aE:av}(ok:gN c aE)(I:j7 c)(S:iC c)(hn:c.aa.length≤500)(hk:c.aK.length≤500)(hs:c.aZ.length≤500):PC (vC a4 (d+4)) 30 [.f (aU h c)] (aU h (fG c)):=pf ag ag ag ag fun C e σ Q hq=>by
 refine BH (nx:=5) (k:=1) e h c (step:=fy) I hn hk hs (by decide) r5 (P:=fun i aa=>aa=cv c fy i) ag (fun i aa q9 e=>by subst e;unfold cv;(refine aq Aw ?_;refine aq yk ?_);rfl) (uw (w0 ok _) I) (fun aa p ex N K hx hl hp hP hN=>?_) Q hq
 refine aw fun kz=>?_
 obtain ⟨x,y,z,w,u,rfl⟩:=adf hx
 obtain ⟨F,KX,La⟩:=vy ok p
 refine kz ?_;try clear kz
 rw [← hP] at F KX La
 have ux:p+1<aa.length:=hl▸hp
 have zH:p<aa.length:=vg ux
 have m4:aa.length≤500:=hl▸hn
 have h1':(aa.set p au).length≤500:=by refine aq qj ?_;exact m4
 have h2':p+1<(aa.set p au).length:=by refine aq qj ?_;exact ux
 rw [U4 ux] at hN
 have er0:aa[p]? =ac aa[p] :=ed zH
 have er1:ac aa[p+1] =(c.aa.map ac)[p+1]? :=(ed ux).symm.trans (La (p+1) (je p))
 apply ai;exact om zH m4
 apply ai;exact om ux m4
 refine pc e (zG aa[p] adS) ?_
 generalize aa[p] =o0 at hN er0⊢
 generalize aa[p+1] =o1 at hN er1⊢
 induction o0 with
 |none=>exact hN [_,_,_,_,_] ag
 |some r=>
 refine bj (fun hb=>?_) fun hb=>?_
 ·have e1:Ft c aa p (ac r) o1=aa:=by
   induction o1 with
   |none=>rfl
   |some r'=>(refine aq Fu ?_;refine aq (U8 (qO hb)) ?_);cases c.bQ (p+1)<;>rfl
  rw [e1] at hN
  exact ig hb (hN [_,_,_,_,_] ag)
 have hpu:(r.ay== .dh)=ak:=tM hb
 induction o1 with
 |none=>exact hN [_,_,_,_,_] ag
 |some r'=>
 rw [Fu] at hN
 apply ai;exact rI (jH hp) hn
 refine bj (fun g=>?_) fun g=>?_<;>rw [g] at hN
 ·exact hN [_,_,_,_,_] ag
 have hN:∀Xq,Xq.length=5→N (ac (.f (aU h c))::ac (.f (.ae p))::ac (.a6 σ.length)::ac (.f (HP c))::Xq) (σ++[ac (.al (((jS c aa p r r').getD aa).map iV))]):=hN
 have gv:iB r.a=ak:=XT (cz hpu) (F.bm p r er0)
 have hra:fa r=r.a:=by unfold fa;refine aq (cz hpu) ?_;rfl
 have aiF:c.aa[p+1]? =ac r':=cP.mp er1.symm
 apply ai;exact iw _
 refine bj (fun hb=>?_) fun hb=>?_
 ·rw [U5 hpu hb] at hN
  have acI:fa r'=.ae r'.t:=fh (vw hb)
  have tk:PC C 29 [.f (eJ r'),.f (fa r)] (.aG (r'.ay.eD (cS r.a))):=by (refine aq hra ?_;refine aq e ?_);exact CZ r' r.a gv
  refine pc ag tk ?_
  apply ai;exact iT zH m4
  refine bj (fun ht=>?_) fun ht=>?_<;>rw [ht] at hN
  ·have nr:PC C 1000 [.f (.ah "jump"),.f (fa r'),.f .aA,.f .aA,.f (.ae r'.eZ)] (iV (ac (R.bk .bp r'.t r'.eZ))):=by (refine aq acI ?_;refine aq e ?_);exact sB ..
   refine pc ag nr ?_
   apply ai;exact uV _ h2' h1'
   exact hN [_,_,_,_,_] ag
  ·apply ai;exact iT h2' h1'
   exact hN [_,_,_,_,_] ag
 refine bj (fun hj=>?_) fun hj=>?_
 ·have hj2:(r'.ay== .bp)=ak:=qy _▸hj
  have Xr:r'.ay.aO=ak:=by refine aq (cz hj2) ?_;rfl
  have CT:=S r' (gM aiF) Xr
  have el:c.aa[r'.t]? =ac c.aa[r'.t] :=ed CT
  rw [U7 hpu hb hj2 el] at hN
  have ix:∀σ,lN a4 σ (.f (.al (c.aa.map eJ))) (.f (fa r'))=ac (eJ c.aa[r'.t]):=fun σ=>by refine aq (fh Xr) ?_;exact iK el hn
  apply ai;exact ix _
  apply ai;exact iw _
  refine bj (fun Tz=>?_) fun Tz=>?_<;>rw [Tz] at hN
  ·apply ai;exact ix _
   have tk:PC C 29 [.f (eJ c.aa[r'.t]),.f (fa r)] (.aG (c.aa[r'.t].ay.eD (cS r.a))):=by (refine aq hra ?_;refine aq e ?_);exact CZ _ r.a gv
   refine pc ag tk ?_
   have wt:∀t:af,PC C 1 [.f (eJ r'),.f (.ae t)] (iV (ac {r' with t:=t})):=fun t=>by
    have:=oE (d:=d+1) r' (.ae t)
    rw [← KM r' t Xr,← e] at this;exact this
   refine bj (fun ht=>?_) fun ht=>?_<;>rw [ht] at hN
   ·apply ai;exact iT zH m4
    have wt':PC C 1 [.f (eJ r'),.f (fa c.aa[r'.t])] (iV (ac {r' with t:=c.aa[r'.t].t})):=by refine aq (fh (vw Tz)) ?_;exact wt _
    refine pc ag wt' ?_
    apply ai;exact uV _ h2' h1'
    exact hN [_,_,_,_,_] ag
   ·have ad:∀σ,sN σ ak .ci (.f (fa r')) (.f (.ae 1))=ac (.f (.ae ((r'.t+1:af):aN)),σ):=fun σ=>by refine aq (fh Xr) ?_;rfl
    apply ai;exact ad _
    apply ai;exact iT zH m4
    refine pc ag (wt _) ?_
    apply ai;exact uV _ h2' h1'
    exact hN [_,_,_,_,_] ag
  ·exact hN [_,_,_,_,_] ag
 ·rw [U6 hb (qy _▸hj)] at hN
  exact dH hj (hN [_,_,_,_,_] ag)
end
def qd{α:Type}{f:α→am}{l:ao α}(h:l.length≤500):Bw ak (.f (.al (l.map f)))=ac (eO (l.map f)):=by
 unfold Bw;refine aq (bD ag) ?_;exact bD (by rw [b9];exact a5 h (by decide))
section
variable{d:af}{σ:an}{fz:av}
def Jb(h:Hd)(c:Cd)(I:j7 c)(hn:c.aa.length≤500)(hk:c.aK.length≤500)(hs:c.aZ.length≤500):PC (vC a4 (d+4)) 32 [.f (aU h c)] (aU h (cV c)):=pf ag ag ag ag fun C e σ Q hq=>by
 apply ai;exact iD (fC _)
 apply ai;exact qd hn
 refine KB (fun i=>σ++[ac (.al (((c.aa.mapIdx dy).take i).map iV))]) (fun _ (g:aM aC×aM aC)=>[ac (.f (aU h c)),ac (.a6 σ.length),g.1,g.2]) (g:=(au,au)) (fun i r g N hi hN=>?_) fun g=>?_
 ·have kb:(((c.aa.mapIdx dy).take i).map iV).length≤100000:=by
   rw [b9];exact a5 (wx ..) (by refine aq sL ?_;exact a5 hn (by decide))
  rw [uG,uF,hi,qJ] at hN
  have hN:N [ac (.f (aU h c)),ac (.a6 σ.length),ac (.f (.ae i)),ac (.f (eJ r))] (σ++[ac (.al (((c.aa.mapIdx dy).take i).map iV++[iV (dy i r)]))]):=hN (_,_)
  apply ai;exact rG _
  refine bj (fun hj=>?_) fun hj=>?_
  ·apply ai (o:=fg a4 _ .bN (.f (fa r)) _) (a:=r.t==i+1);refine aq (fh hj) ?_;exact a7 ac (xn r.t (i+1))
   refine bj (fun ht=>?_) fun ht=>?_
   ·rw [show dy i r=ki r by unfold dy;(refine aq hj ?_;refine aq ht ?_);rfl] at hN
    apply ai;exact cT (dP _ _ _)
    apply ai;exact iw _
    refine bj (fun hb=>?_) fun hb=>?_
    ·rw [show ki r=ac (.bk .g6 0 r.eZ) by unfold ki;refine aq hb ?_;rfl] at hN
     refine pc e (sB ..) ?_
     apply ai;exact rH kb
     exact hN
    ·rw [show ki r=au by unfold ki;refine aq hb ?_;rfl] at hN
     apply ai;exact rH kb
     exact hN
   ·rw [show dy i r=ac r by unfold dy;(refine aq hj ?_;refine aq ht ?_);rfl] at hN
    apply ai;exact cT (dP _ _ _)
    apply ai;exact rH kb
    exact hN
  ·rw [show dy i r=ac r by unfold dy;refine aq hj ?_;rfl] at hN
   refine dH hj ?_
   apply ai;exact cT (dP _ _ _)
   apply ai;exact rH kb
   exact hN
 apply ai;exact kP (dP _ _ _)
 rw [my,Hb (by refine aq sL ?_;exact c9 _)]
 refine pc e (vG h c (c.aa.mapIdx dy) I sL (fun q r e k=>?_) hn hk hs) (b8 (Q:=Q) hq (kY _ _))
 rw [uF] at e
 refine aw fun kz=>?_
 obtain ⟨r0,h0,h1⟩:=xI.mp e
 refine kz ?_;try clear kz
 unfold dy at h1
 split at h1
 ·unfold ki at h1
  split at h1
  ·cases h1;exact cG k
  ·exact bn h1
 ·cases h1;exact I.jW r (gM h0) k
def Yd(c:Cd)(m:af→av):jB (c.aa.map eJ) ((gw c.aa.length).map fun p=>.aG (m p))=c.aa.zipIdx.map fun q=>am.bE [eJ q.1,.aG (m q.2)] :=by
 unfold jB
 (refine aq List.zip_map ?_;refine aq oM ?_;refine aq List.zipIdx_eq_zip_range' ?_;refine iu List.range_eq_range' ?_)
 exact DT fun q9 q9=>ag
def U9(c:Cd):c.aa.zipIdx.map (fun q=>iV (eR c q.2 q.1))=(c.aa.mapIdx (eR c)).map iV:=by
 (refine aq List.mapIdx_eq_zipIdx_map ?_;refine aq oM ?_);rfl
def PM{α β:Type}{f:α→am}{g:β→am}{l:ao α}{m:ao β}(h:l.length≤500):Mq ak (.f (.al (l.map f))) (.f (.al (m.map g)))=ac (jB (l.map f) (m.map g)):=by
 unfold Mq;refine aq (bD ag) ?_;exact bD (by rw [b9];exact a5 h (by decide))
def TK(h:Hd)(c:Cd){aE:av}(ok:gN c aE)(I:j7 c)(hn:c.aa.length≤20)(hk:c.aK.length≤8)(hs:c.aZ.length≤8):PC (vC a4 (d+4)) 26 [.f (aU h c)] (aU h (cX c)):=pf ag ag ag ag fun C e σ Q hq=>by
 have hn5:c.aa.length≤500:=a5 hn (by decide)
 refine pc e (PK h c ok hn hk hs) ?_
 apply ai;exact PM hn5
 rw [Yd]
 refine jC (fun q:R×af=>am.bE [eJ q.1,.aG (lV c q.2)]) (fun q=>iV (eR c q.2 q.1)) (fun q acc K hq hK=>?_) ?_
 ·refine bj (fun g=>?_) fun g=>?_
  ·rw [show eR c q.2 q.1=ac q.1 by unfold eR;(refine aq (bD ((n9 c _).mp g)) ?_;rfl)] at hK
   exact hK
  ·rw [show eR c q.2 q.1=au by unfold eR;rw [cL fun z=>by rw [(n9 c _).mpr z] at g;cases g]] at hK
   exact hK
 rw [U9]
 apply ai;exact nU (by refine aq sL ?_;exact hn5)
 refine pc e (vG h c (c.aa.mapIdx (eR c)) I sL (fun q r e k=>?_) hn5 (a5 hk (by decide)) (a5 hs (by decide))) (b8 (Q:=Q) hq eG)
 rw [qc] at e
 refine aw fun kz=>?_
 obtain ⟨r0,h0,h1⟩:=xI.mp e
 refine kz ?_;try clear kz
 unfold eR at h1
 split at h1
 ·cases h1;exact I.jW r (gM h0) k
 ·exact bn h1
end
def Bd(c:Cd):Prop:=(c.aa.length≤20)∧(c.aK.length≤8)∧(c.aZ.length≤8)
section
variable{c:Cd}(s0:Bd c)
include s0
def Bd.aa:c.aa.length≤20:=s0.1
def Bd.aK:c.aK.length≤8:=s0.2.1
def Bd.aZ:c.aZ.length≤8:=s0.2.2
end
def Bd.bL{c:Cd}(b:Bd c){aa:aR}(hl:aa.length=c.aa.length):Bd (c.bL aa):=⟨
 a5 (t8 hl) b.aa,
 a5 (Aq _ _) b.aK,
 (by show (c.aZ.map _).length≤8;rw [b9];exact b.aZ)⟩
def zI{x y:am}(hx:gI x=ak)(hy:gI y=ak)(k:af):qs (k+1) x y=ac (BF x y):=by
 unfold BF
 cases x<;>cases hx<;>cases y<;>cases hy<;>rfl
def Va{v:am}(h:iB v=ak):gI v=ak:=by
 unfold iB at h
 split at h<;>first|rfl|exact cG h
def gU{v:am}(h:c8 v=ak):gI v=ak:=by refine aq (jz h) ?_;rfl
def xo{x:aI}{v:am}(h:oj x v=ak):gI v=ak:=by refine aq (lR h) ?_;rfl
def Ov{x:aN}{v:am}(h:v1 x v=ak):gI v=ak:=by refine aq (pJ h) ?_;rfl
def Vb{v:am}(h:wL v=ak):gI v=ak:=by rcases xN h with e|e<;>refine aq e ?_<;>rfl
def KP{aE:av}{r:R}(h:r.bm aE=ak):gI (fa r)=ak∧gI r.b=ak∧gI r.c=ak:=by
 refine aw fun kz=>?_
 obtain ⟨op,t,a,b,c,l⟩:=r
 refine kz ?_;try clear kz
 induction op<;>refine d8 (show _=ak from h) fun h h3=>d8 h fun h1 h2=>?_
 all_goals first
  |exact ⟨Va h1,gU h2,gU h3⟩
  |exact ⟨Ov h1,Vb h2,gU h3⟩
  |exact ⟨xo h1,gU h2,gU h3⟩
  |exact ⟨xo h1,xo h2,gU h3⟩
  |exact ⟨gU h1,gU h2,gU h3⟩
  |exact ⟨Ov (jY.mp h1).2,gU h2,gU h3⟩
  |exact ⟨ag,gU h2,gU h3⟩
  |exact ⟨sp h1 xo xo,gU h2,gU h3⟩
def Ye(n:af)(a b:ao am):qs (n+1) (.bE a) (.bE b)=if a.length=b.length then wE (qs n) a b else au:=ag
def shR(r:R):am:=.bE [.ah r.ay.bH,fa r,r.b,r.c]
noncomputable abbrev kQ(rs:ao R):ao am:=rs.map shR
def Np{aE:av}:∀{l l':ao R},(∀r∈l,r.bm aE=ak)→(∀r∈l',r.bm aE=ak)→l.length=l'.length→wE (qs 11) (kQ l) (kQ l')=ac (jN l l'):=by
 intro l
 induction l with
 |nil=>
  intro l'
  rcases l' with _|⟨_,_⟩
  ·intro _ _ _
   exact ag
  ·intro _ _ h
   cases h
 |cons r l ih=>
  intro l'
  rcases l' with _|⟨r',l'⟩
  ·intro _ _ h
   cases h
  ·intro h h' hl
   have ih:=ih (l':=l') (fun q hq=>h q (jf _ hq)) (fun q hq=>h' q (jf _ hq)) (by simpa using hl)
   refine aw fun kz=>?_
   obtain ⟨a1,a2,a3⟩:=KP (h r fF)
   obtain ⟨b1,b2,b3⟩:=KP (h' r' fF)
   refine kz ?_;try clear kz
   have e:qs 11 (shR r) (shR r')=ac (GA r r'):=by
    unfold shR
    (rewrite [Ye];refine aq (bD (by simp)) ?_)
    show (qs 10 (.ah r.ay.bH) (.ah r'.ay.bH)).bind _=_
    simp only [wE,zI a1 b1,zI a2 b2,zI a3 b3,ri,Lp,Rk]
    show ac ((r.ay.bH==r'.ay.bH)&&_)=_
    rw [gR];rfl
   show (qs 11 _ _).bind _=_
   (refine aq e ?_;rw [ri])
   show (wE (qs 11) (kQ l) (kQ l')).map _=_
   refine aq ih ?_;rfl
def ET:∀{l l':ao R},l.length≠l'.length→jN l l'=aF:=by
 intro l
 induction l with
 |nil=>
  intro l'
  rcases l' with _|⟨_,_⟩
  ·intro h
   exact bW ag h
  ·intro _
   exact ag
 |cons r l ih=>
  intro l'
  rcases l' with _|⟨r',l'⟩
  ·intro _
   exact ag
  ·intro h
   unfold jN
   (refine aq (ih (by simpa using h)) ?_;rw [uB])
def PN{aE:av}{σ:an}{l l':ao R}(h:∀r∈l,r.bm aE=ak)(h':∀r∈l',r.bm aE=ak):fg a4 σ .bN (.f (.al (kQ l))) (.f (.al (kQ l')))=ac (jN l l'):=by
 show oy (.al (kQ l)) (.al (kQ l'))=_
 unfold oy
 show (if (kQ l).length=(kQ l').length then wE (qs 11) (kQ l) (kQ l') else ac aF)=_
 by_cases e:l.length=l'.length
 ·(refine aq (bD (by simp [kQ,e])) ?_;refine aq (Np h h' e) ?_;rfl)
 ·(refine aq (cL (by simpa [kQ] using e)) ?_;refine aq (ET e) ?_;rfl)
def Ow{c:Cd}{aE:av}(ok:gN c aE):∀r∈c.aa,r.bm aE=ak:=fun r hr=>by
 obtain ⟨i,hi⟩:=ww hr
 exact ok.bm i r (cP.mpr hi)
section
variable{d:af}{σ:an}{aE:av}
def Ox(h:Hd)(c:Cd)(b:Bd c):PC (vC a4 (d+1)) 34 [.f (aU h c)] (.al (kQ c.aa)):=pf ag ag ag ag fun C e σ Q hq=>by
 have hn:c.aa.length≤500:=a5 b.aa (by decide)
 apply ai;exact dJ hn
 refine jC eJ shR (fun r acc K hr hK=>hK) ?_
 apply ai;exact nU hn
 exact b8 (Q:=Q) hq eG
def va{c:Cd}(G:mY c aE)(b:Bd c):Bd (jj c):=by
 unfold jj
 refine Bd.bL (Bd.bL (Bd.bL (Bd.bL (Bd.bL (Bd.bL (Bd.bL (Bd.bL b ?_) ?_) ?_) ?_) ?_) ?_) ?_) ?_
 ·simp
 ·exact cW r5 _
 ·exact cW uu _
 ·exact sL
 ·exact sL
 ·exact cW rD _
 ·exact cW rE _
 ·exact cW ut _
def Bd.jA{c:Cd}(b:Bd c):c.aa.length≤500∧c.aK.length≤500∧c.aZ.length≤500:=⟨a5 b.aa (by decide),a5 b.aK (by decide),a5 b.aZ (by decide)⟩
def PO{C:bw}(e:C=vC a4 (d+4))(h:Hd){c:Cd}(G:mY c aE)(b:Bd c){i:am}{x y z w:aM aC}{K:KS}{N:bJ→an→Prop}(hR:jN (jj c).aa c.aa=ak→∀ρ,K (.a9 (.f (aU h (jj c)))) ρ σ)(hN:jN (jj c).aa c.aa=aF→∀x y z w,N [ac (.f (aU h (jj c))),x,y,z,w] σ):
  lE [ac (.f (aU h c)),x,y,z,w] [1] aF i fun ρ=>fI ⟨a4,C⟩ jK ρ σ (lF N K):=by
 have t:=tL G.lH G.ia
 have k1:=oC G.bm
 have b1:Bd (dQ c):=b.bL (by rw [b9,b9])
 have k2:=sQ k1.1
 have i2:=zC k1.1 t.1
 have b2:Bd (fG (dQ c)):=b1.bL (cW r5 _)
 have k3:=qX k2.1
 have i3:=Ck k2.1 i2
 have b3:Bd (fv (fG (dQ c))):=b2.bL (cW uu _)
 have k4:=sR k3.1
 have i4:=zD i3
 have b4:Bd (cV (fv (fG (dQ c)))):=b3.bL sL
 have k5:=vA k4.1
 have i5:=Cm i4
 have b5:Bd (cX (cV (fv (fG (dQ c))))):=b4.bL sL
 have k6:=qW k5.1.1
 have i6:=Ci k5.1.1 i5
 have b6:Bd (eQ (cX (cV (fv (fG (dQ c)))))):=b5.bL (cW rD _)
 have k7:=u7 k6.1
 have i7:=Cj k6.1 i6
 have b7:Bd (fe (eQ (cX (cV (fv (fG (dQ c))))))):=b6.bL (cW rE _)
 have Gr:=sS G
 have br:=va G b
 refine pc e (Ox h c b) ?_
 refine pc e (CX h c G.lH G.ia b.jA.1 b.jA.2.1 b.jA.2.2) ?_
 refine pc e (Ou h _ k1.1 t.1 t.2 b1.jA.1 b1.jA.2.1 b1.jA.2.2) ?_
 refine pc e (Ja h _ k2.1 i2 b2.jA.1 b2.jA.2.1 b2.jA.2.2) ?_
 refine pc e (Jb h _ i3 b3.jA.1 b3.jA.2.1 b3.jA.2.2) ?_
 refine pc e (TK h _ k4.1 i4 b4.aa b4.aK b4.aZ) ?_
 refine pc e (I7 h _ k5.1.1 i5 b5.jA.1 b5.jA.2.1 b5.jA.2.2) ?_
 refine pc e (I8 h _ k6.1 i6 b6.jA.1 b6.jA.2.1 b6.jA.2.2) ?_
 have sw:PC (vC a4 (d+4)) 33 _ (aU h (jj c)):=Ot h _ k7.1 i7 b7.jA.1 b7.jA.2.1 b7.jA.2.2
 generalize jj c=c' at sw Gr br hR hN
 refine pc e sw ?_
 refine pc e (Ox h c' br) ?_
 apply ai;exact PN (l:=c'.aa) (l':=c.aa) (Ow Gr.bm) (Ow G.bm)
 exact bj (fun g=>hR g _) fun g=>hN g _ _ _ _
def PP{C:bw}(e:C=vC a4 (d+4))(h:Hd){K:KS}{v:Cd}(h1:∀ρ,K (.a9 (.f (aU h v))) ρ σ)(h2:∀x y z w,K .aS [ac (.f (aU h v)),x,y,z,w] σ)(items:ao am):∀{c:Cd}{x y z w:aM aC},mY c aE→Bd c→v=dz items.length c→
  lP (fI ⟨a4,C⟩ jK) [1] aF K items [ac (.f (aU h c)),x,y,z,w] σ:=by
 induction items with
 |nil=>exact fun {c x y z w} G b ev=>(show v=c from ev)▸h2 x y z w
 |cons i items ih=>
  intro c x y z w G b ev
  rw [o3,dz] at ev
  have Gr:=sS G
  have br:=va G b
  refine PO (N:=lP (fI ⟨a4,C⟩ jK) [1] aF K items) e h G b (fun g ρ=>?_) fun g x y z w=>?_
  ·rw [bD g] at ev
   refine iu ev ?_;exact h1 ρ
  ·rw [cL (by refine aq g ?_;exact mI)] at ev
   exact ih Gr br ev
def Vc(h:Hd){c:Cd}(G:mY c aE)(b:Bd c):PC (vC a4 (d+5)) 35 [.f (aU h c)] (aU h (dz 24 c)):=pf ag ag ag ag fun C e σ Q hq=>by
 have hq':=b8 (Q:=Q) hq (eG (l:=σ))
 exact PP e h (v:=dz 24 c) (fun q9=>hq') (fun q9 q9 q9 q9=>hq') (cU 24) (x:=au) G b ag
end
abbrev sG:=Hd×Cd
def d0(k:sG):am:=aU k.1 k.2
def yP(k:sG):Prop:=(mY k.2 aF)∧(Bd k.2)∧(k.1.ft=[])
section
variable{k:sG}(s0:yP k)
include s0
def yP.gZ:mY k.2 aF:=s0.1
def yP.bd:Bd k.2:=s0.2.1
def yP.aA:k.1.ft=[] :=s0.2.2
end
def Il(k:sG):Prop:=(iq k.2 aF)∧(Bd k.2)∧(k.1.ft=[])
section
variable{k:sG}(s0:Il k)
include s0
def Il.on:iq k.2 aF:=s0.1
def Il.bd:Bd k.2:=s0.2.1
def Il.aA:k.1.ft=[] :=s0.2.2
end
def i9(k:sG):sG:=(k.1,dz 24 k.2)
noncomputable def Hd.wk(h:Hd)(l:ao am):Hd:={h with ft:=l}
def Hd.GI{h:Hd}{l:ao am}(e:h.ft=l):h.wk l=h:=by subst e;rfl
def GJ{aE:av}:∀(k:af){c:Cd},mY c aE→Bd c→Bd (dz k c):=by
 intro k
 induction k with
 |zero=>
  intro c _ b
  exact b
 |succ k ih=>
  intro c G b
  have br:=va G b
  unfold dz
  split
  ·exact br
  ·exact ih (sS G) br
section
variable{d:af}{σ:an}{aE:av}
def Fv{α:Type}(h:Hd){c:Cd}(G:mY c aE)(b:Bd c)(c6:ao α)(f g:α→am)(hl:c6.length≤500)(hk:∀k∈c6,PC (vC a4 (d+5)) 36 [.f (f k)] (g k)):
  PC (vC a4 (d+6)) 36 [.f (aU (h.wk (c6.map f)) c)] (aU (h.wk (c6.map g)) (dz 24 c)):=pf ag ag ag ag fun C e σ Q hq=>by
 have tv:=Vc (d:=d) (h.wk (c6.map f)) G b
 generalize dz 24 c=c' at tv hq
 refine pc e tv ?_
 apply ai;exact dJ (f:=f) (l:=c6) hl
 refine jC f g (fun k acc K hm hK=>pc e (hk k hm) hK) ?_
 apply ai;exact nU hl
 exact pc e (u9 (h.wk (c6.map f)) c' ..) (b8 (Q:=Q) hq eG)
def Vd(k:sG)(ok:yP k):PC (vC a4 (d+6)) 36 [.f (d0 k)] (d0 (i9 k)):=by
 have:=Fv (d:=d) k.1 ok.gZ ok.bd ([] :ao jE) (fun q9=>.aA) (fun q9=>.aA) (fC _) (fun q9 h=>bW h hU)
 rw [Hk,Hd.GI ok.aA] at this
 have e:d0 (i9 k)=aU k.1 (dz 24 k.2):=by unfold d0 i9;with_reducible rfl
 rewrite [e]
 exact this
def TL(h:Hd){c:Cd}(G:mY c aE)(b:Bd c){c6:ao sG}(hl:c6.length≤500)(hk:∀k∈c6,yP k):
  PC (vC a4 (d+7)) 36 [.f (aU (h.wk (c6.map d0)) c)] (aU (h.wk (c6.map fun k=>d0 (i9 k))) (dz 24 c)):=
 Fv (d:=d+1) h G b c6 d0 _ hl fun k hm=>Vd k (hk k hm)
noncomputable def lW:ao (aI×af):=[("threaded",24),("known branches",30),("turned branches",31),("short jumps",32),("dead rows",26),("pushes",27),("copies",28),("swaps",33)]
def lX{nm:aI}{k:af}(h:∀(σ:an)(Q:KE),vC a4 (d+1) 37 [.f (.ah nm)] σ Q=Q (.f (.fn k)) (σ.take σ.length)):PC (vC a4 (d+1)) 37 [.f (.ah nm)] (.fn k):=⟨fun σ Q hq=>by
 (rewrite [h];refine aq eG ?_);exact hq⟩
def w6{P:aI×af→Prop}{p:aI×af}(hp:p∈lW)(h:P ("threaded",24)∧P ("known branches",30)∧P ("turned branches",31)∧P ("short jumps",32)∧P ("dead rows",26)∧P ("pushes",27)∧P ("copies",28)∧P ("swaps",33)):P p:=by
 simp only [lW,eH,hU,LD] at hp
 rcases hp with rfl|rfl|rfl|rfl|rfl|rfl|rfl|rfl
 ·exact h.1
 ·exact h.2.1
 ·exact h.2.2.1
 ·exact h.2.2.2.1
 ·exact h.2.2.2.2.1
 ·exact h.2.2.2.2.2.1
 ·exact h.2.2.2.2.2.2.1
 ·exact h.2.2.2.2.2.2.2
def Yf(p:aI×af)(hp:p∈lW):PC (vC a4 (d+1)) 37 [.f (.ah p.1)] (.fn p.2):=
 w6 (P:=fun p=>PC (vC a4 (d+1)) 37 [.f (.ah p.1)] (.fn p.2)) hp ⟨lX (by intro σ Q;kernel_rfl),lX (by intro σ Q;kernel_rfl),lX (by intro σ Q;kernel_rfl),lX (by intro σ Q;kernel_rfl),lX (by intro σ Q;kernel_rfl),lX (by intro σ Q;kernel_rfl),lX (by intro σ Q;kernel_rfl),lX (by intro σ Q;kernel_rfl)⟩
def PQ(h:Hd){c:Cd}(R:iq c aE)(b:Bd c)(p:aI×af)(hp:p∈lW):lx p.2 1000=ak∧PC (vC a4 (d+4)) p.2 [.f (aU h c)] (aU h c):=by
 obtain ⟨q1,q2,q3⟩:=b.jA
 have ok:=R.gZ.bm
 have I:=R.gZ.lH
 have S:=R.gZ.ia
 refine w6 (P:=fun p=>lx p.2 1000=ak∧PC (vC a4 (d+4)) p.2 [.f (aU h c)] (aU h c)) hp ⟨⟨ag,?_⟩,⟨ag,?_⟩,⟨ag,?_⟩,⟨ag,?_⟩,⟨ag,?_⟩,⟨ag,?_⟩,⟨ag,?_⟩,⟨ag,?_⟩⟩
 ·have:=CX (d:=d) h c I S q1 q2 q3;rw [R.Co] at this;exact this
 ·have:=Ou (d:=d) h c ok I S q1 q2 q3;rw [R.MB.1] at this;exact this
 ·have:=Ja (d:=d) h c ok I q1 q2 q3;rw [R.Ky.1] at this;exact this
 ·have:=Jb (d:=d) h c I q1 q2 q3;rw [R.SM.1] at this;exact this
 ·have:=TK (d:=d) h c ok I b.aa b.aK b.aZ;rw [R.PB.1] at this;exact this
 ·have:=I7 (d:=d) h c ok I q1 q2 q3;rw [R.Kz.1] at this;exact this
 ·have:=I8 (d:=d) h c ok I q1 q2 q3;rw [R.KA.1] at this;exact this
 ·have:=Ot (d:=d) h c ok I q1 q2 q3;rw [R.MC.1] at this;exact this
def Ae{α:Type}(h:Hd){c:Cd}(R:iq c aE)(b:Bd c)(p:aI×af)(hp:p∈lW)(c6:ao α)(f:α→am)(hl:c6.length≤500)(hk:∀k∈c6,PC (vC a4 (d+4)) 38 [.f (f k),.f (.al [.ah p.1])] (f k)):
  PC (vC a4 (d+5)) 38 [.f (aU (h.wk (c6.map f)) c),.f (.al [.ah p.1])] (aU (h.wk (c6.map f)) c):=pf ag ag ag ag fun C e σ Q hq=>by
 obtain ⟨r1,r2⟩:=PQ (d:=d) (h.wk (c6.map f)) R b p hp
 refine pc e (Yf p hp) ?_
 refine ig (w6 (P:=fun p=>SD a4 (.f (.fn p.2))=ak) hp ⟨ag,ag,ag,ag,ag,ag,ag,ag⟩) ?_
 refine ig r1 ?_
 refine pc e r2 ?_
 apply ai;exact dJ (f:=f) (l:=c6) hl
 refine jC f f (fun k acc K hm hK=>pc e (hk k hm) hK) ?_
 apply ai;exact nU hl
 exact pc e (u9 (h.wk (c6.map f)) c ..) (b8 (Q:=Q) hq eG)
def Nq(k:sG)(R:Il k)(p:aI×af)(hp:p∈lW):PC (vC a4 (d+5)) 38 [.f (d0 k),.f (.al [.ah p.1])] (d0 k):=by
 have:=Ae (d:=d) k.1 R.on R.bd p hp ([] :ao jE) (fun q9=>.aA) (fC _) (fun q9 h=>bW h hU)
 rw [Hk,Hd.GI R.aA] at this
 exact this
def Ve(h:Hd){c:Cd}(R:iq c aE)(b:Bd c){c6:ao sG}(hl:c6.length≤500)(hk:∀k∈c6,Il k)(p:aI×af)(hp:p∈lW):PC (vC a4 (d+6)) 38 [.f (aU (h.wk (c6.map d0)) c),.f (.al [.ah p.1])] (aU (h.wk (c6.map d0)) c):=
 Ae (d:=d+1) h R b p hp c6 d0 hl fun k hm=>Nq k (hk k hm) p hp
end
def KQ(op:Op):aI:=Sv op.bH au (ac 4)
def Fw(σ:an)(op:Op):lO σ ak (.f (.ah op.bH)) (.f .aA) (.f (.ae 4))=ac (.f (.ah (KQ op)),σ):=bD (eX (kx (p:=fun op=>dc (op.bH.length≤100000)) (by kernel_rfl) op))
def mz(op:Op):(KQ op==("jump":aI))=op.aO:=cz (kx (p:=fun op=>(KQ op==("jump":aI))==op.aO) (by kernel_rfl) op)
def zJ(l:ao af)(x:af):jh (.ae x) (bI l)=ac (l.contains x):=by
 unfold jh
 induction l with
 |nil=>rfl
 |cons y l ih=>
  show Ei (.ae x) (.ae y::bI l)=_
  unfold Ei
  (refine aq (bD (show (gI (.ae y)&&gI (.ae x))=ak from ag)) ?_;refine aq ih ?_;refine aq (show qs 1 (.ae y) (.ae x)=ac ((y:aN)==(x:aN)) from ag) ?_;refine aq List.contains_cons ?_;rewrite [xn,ri,Lp];refine aq Sw ?_;rfl)
def r6{σ:an}{a b:ao af}(h:(a++b).length≤500):sN σ ak .ci (.f (.al (bI a))) (.f (.al (bI b)))=ac (.f (.al (bI (a++b))),σ):=by
 have:=nU (σ:=σ) (f:=e7) h
 rw [qJ] at this
 unfold bI;refine aq qJ ?_;exact this
def eE(c:Cd)(p:af)(r:R):ao af:=((c.aK.filter (·.bU p)).map (·.bC)++(if r.ay.aO then [r.t] else []))++(if r.ay.c3 then [] else [p+1])
def zK(c:Cd)(p:af)(r:R):(eE c p r).length≤2+c.aK.length:=by
 unfold eE
 have:=wv (fun k:Ct=>k.bU p) c.aK
 (refine aq dg ?_;refine aq dg ?_;rw [b9])
 split<;>split<;>simp<;>lia
def J9{c:Cd}{p:af}{r:R}(hr:c.aa[p]? =ac r)(rp:bb c.nc p):∀q∈eE c p r,bb c.nc q:=fun q hq=>by
 unfold eE at hq
 rcases pD.mp hq with hq|hq
 ·rcases pD.mp hq with hq|hq
  ·refine aw fun kz=>?_
   obtain ⟨k,hk,rfl⟩:=iO.mp hq
   obtain ⟨h1,h2⟩:=o5.mp hk
   refine kz ?_;try clear kz
   exact .cM rp (cP.mpr hr) h1 h2
  ·split at hq
   ·rename_i k;simp at hq;subst hq;exact .bp rp (cP.mpr hr) k
   ·cases hq
 ·split at hq
  ·cases hq
  ·rename_i k;simp at hq;subst hq;exact .d7 rp (cP.mpr hr) (by simpa using k)
def HQ{c:Cd}{l:ao af}(hs:∀p∈c.aZ,p∈l)(hc:∀p∈l,∀r,c.aa[p]? =ac r→∀q∈eE c p r,q∈l):∀p,bb c.nc p→p∈l:=fun p z=>by
 induction z with
 |cR hp=>exact hs _ hp
 |nS _ e _=>exact bW e (xm _)
 |d7 _ e k ih=>exact hc _ ih _ (cP.mp e) _ (by unfold eE;refine aq k ?_;simp)
 |bp _ e k ih=>exact hc _ ih _ (cP.mp e) _ (by unfold eE;refine aq (bD k) ?_;simp)
 |cM _ e Xp k ih=>exact hc _ ih _ (cP.mp e) _ (by
  unfold eE
  exact rM _ (rM _ (iO.mpr ⟨_,o5.mpr ⟨Xp,k⟩,ag⟩)))
def wO(n:af)(l:ao af):af:=A1 n fun p=>l.contains p
def Oy{n:af}{l l':ao af}{p:af}(hp:p<n)(h1:p∉l)(h2:p∈l')(hs:∀q∈l,q∈l'):wO n l'+1≤wO n l:=by
 unfold wO A1
 show (gw n).countP (fun p=>!l'.contains p)+1≤(gw n).countP fun p=>!l.contains p
 induction n with
 |zero=>lia
 |succ n ih=>
  (refine aq Aw ?_;refine aq LM ?_;refine aq LM ?_;refine aq LH ?_;refine aq LH ?_)
  have bu:(gw n).countP (fun p=>!l'.contains p)≤(gw n).countP fun p=>!l.contains p:=List.countP_mono_left fun q q9 hq=>by
   simp only [G4,Ar,decide_eq_false_iff_not] at hq⊢
   exact fun z=>hq (hs q z)
  have qb:(if (!l'.contains n)=ak then 1 else 0)≤(if (!l.contains n)=ak then 1 else 0):=by
   by_cases z:n∈l
   ·have:=hs n z;simp [z,this]
   ·by_cases z':n∈l'<;>simp [z,z']
  by_cases e:p=n
  ·subst e
   have:(if (!l'.contains p)=ak then 1 else 0)+1=(if (!l.contains p)=ak then 1 else 0):=by simp [h1,h2]
   lia
  ·have:=ih (by lia)
   lia
def xq(c:Cd)(l:ao af)(p:af):ao af:=match c.aa[p]? with
 |some r=>l++(eE c p r).filter fun q=>!l.contains q
 |none=>l
def vJ(c:Cd)(B:af)(l:ao af):Prop:=(∀p∈l,bb c.nc p)∧(l.length+(3+c.aK.length)*wO c.aa.length l≤B)
section
variable{c:Cd}{B:af}{l:ao af}(s0:vJ c B l)
include s0
def vJ.pK:∀p∈l,bb c.nc p:=s0.1
def vJ.xr:l.length+(3+c.aK.length)*wO c.aa.length l≤B:=s0.2
end
def Cv{c:Cd}(ku:∀q,bb c.nc q→q<c.aa.length){B:af}{l:ao af}{p:af}(W:vJ c B l)(rp:bb c.nc p):vJ c B (xq c l p)∧l <+: xq c l p∧(xq c l p=l∨wO c.aa.length (xq c l p)+1≤wO c.aa.length l)∧∀r,c.aa[p]? =ac r→∀q∈eE c p r,q∈xq c l p:=by
 have er:c.aa[p]? =ac (c.aa[p]'(ku p rp)):=ed _
 have e:xq c l p=l++(eE c p (c.aa[p]'(ku p rp))).filter fun q=>!l.contains q:=by unfold xq;simp only [er]
 refine aq e ?_
 have hr:=J9 er rp
 have nw:=wv (fun q=>!l.contains q) (eE c p (c.aa[p]'(ku p rp)))
 have gl:=zK c p (c.aa[p]'(ku p rp))
 have aiG:∀q∈eE c p (c.aa[p]'(ku p rp)),q∈l++(eE c p (c.aa[p]'(ku p rp))).filter fun q=>!l.contains q:=fun q hq=>by
  by_cases z:q∈l
  ·exact rM _ z
  ·exact qU _ (o5.mpr ⟨hq,by (rewrite [Ar];refine aq (wu z) ?_);rfl⟩)
 refine ⟨?_,As _ _,?_,fun r h q hq=>by rw [er] at h;obtain rfl:=cp h;exact aiG q hq⟩
 ·refine ⟨fun q hq=>(pD.mp hq).elim (W.pK q) fun hq=>hr q (o5.mp hq).1,?_⟩
  have hb:=W.xr
  refine aq dg ?_
  cases hg:(eE c p (c.aa[p]'(ku p rp))).filter (fun q=>!l.contains q) with
  |nil=>rw [ny];exact hb
  |cons g gs=>
   obtain ⟨g1,g2⟩:=o5.mp (hg▸fF:g∈(eE c p (c.aa[p]'(ku p rp))).filter fun q=>!l.contains q)
   have:=Oy (n:=c.aa.length) (l:=l) (l':=l++g::gs) (ku g (hr g g1)) (fun z=>by rw [Ar,jx z] at g2;exact cG g2) (qU _ fF) (fun q hq=>rM _ hq)
   have m1:(3+c.aK.length)*wO c.aa.length (l++g::gs)+(3+c.aK.length)≤(3+c.aK.length)*wO c.aa.length l:=by
    rw [← DO];exact uC _ this
   rw [hg] at nw
   exact ac8 hb (a5 nw (a5 (zK _ _ _) (qh (by decide) _))) m1
 ·cases hg:(eE c p (c.aa[p]'(ku p rp))).filter (fun q=>!l.contains q) with
  |nil=>rw [ny];exact .inl ag
  |cons g gs=>
   obtain ⟨g1,g2⟩:=o5.mp (hg▸fF:g∈(eE c p (c.aa[p]'(ku p rp))).filter fun q=>!l.contains q)
   exact .inr (Oy (ku g (hr g g1)) (fun z=>by rw [Ar,jx z] at g2;exact cG g2) (qU _ fF) (fun q hq=>rM _ hq))
def Vf{c:Cd}(ku:∀q,bb c.nc q→q<c.aa.length){B:af}:∀{m l:ao af},(∀p∈m,bb c.nc p)→vJ c B l→l <+: m.foldl (xq c) l∧(m.foldl (xq c) l=l∨wO c.aa.length (m.foldl (xq c) l)+1≤wO c.aa.length l)∧∀p∈m,∀r,c.aa[p]? =ac r→∀q∈eE c p r,q∈m.foldl (xq c) l:=by
 intro m
 induction m with
 |nil=>
  intro l _ W
  exact ⟨lK _,.inl ag,fun q9 h=>bW h hU⟩
 |cons p m ih=>
  intro l hm W
  refine aw fun kz=>?_
  obtain ⟨W1,p1,g1,d1⟩:=Cv ku W (hm p fF)
  obtain ⟨p2,g2,d2⟩:=ih (fun q hq=>hm q (jf _ hq)) W1
  refine kz ?_;try clear kz
  refine ⟨p1.trans p2,?_,fun q hq r er x hx=>(eH.mp hq).elim (fun z=>p2.subset (d1 r (z▸er) x (z▸hx))) fun z=>d2 q z r er x hx⟩
  refine aq LP ?_
  rcases g2 with g2|g2
  ·refine aq g2 ?_;exact g1
  ·rcases g1 with g1|g1
   ·rw [g1] at g2⊢;exact .inr g2
   ·exact .inr (a5 g2 (ou g1))
section
variable{d:af}{aE:av}
def w7{σ:an}(l:ao af)(x:af):fg a4 σ .gm (.f (.ae x)) (.f (.al (bI l)))=ac (!l.contains x):=a7 acH (zJ l x)
def Yg{σ:an}(l:ao af)(x:af):fg a4 σ .fw (.f (.ae x)) (.f (.al (bI l)))=ac (l.contains x):=zJ l x
def GK{α:Type}{f:α→am}{σ:an}{l:ao α}(h:l.length≤500):eP σ ak 1 [.f (.al (l.map f))] =ac (.f (.al (l.map f)),σ):=nU h
def PR{C:bw}{σ:an}(h:Hd){c:Cd}(b:Bd c){l:ao af}{p:af}{r:R}(er:c.aa[p]? =ac r)(hl:l.length≤300){m a0 a1 a2:aM aC}{N:bJ→an→Prop}{K:KS}(hN:∀g0 g1 g2:aM aC,N [ac (.f (aU h c)),ac (.f (.al (bI (xq c l p)))),m,g0,g1,g2,au,au] σ):
  lE [ac (.f (aU h c)),ac (.f (.al (bI l))),m,a0,a1,a2,au,au] [3] aF (.ae p) fun ρ=>fI ⟨a4,C⟩ vq ρ σ (lF N K):=by
 have gl:=zK c p r
 have k8:=b.aK
 apply ai;exact iK er b.jA.1
 apply ai;exact dJ b.jA.2.1
 refine nK nD (·.bU p) (fun k=>e7 k.bC) (fun k acc K hk h1 h2=>?_) ?_
 ·have ec:k.bU p=(dc ((k.dm:aN)≤p)&&dc ((p:aN)<k.gx)):=by
   unfold Ct.bU
   rw [wq.mpr (tC (m:=k.dm) (n:=p)),wq.mpr (nz (n:=p) (m:=k.gx))]
  rw [ec] at h1 h2
  refine bj (fun g=>?_) fun g=>?_<;>rw [g] at h1 h2
  ·exact bj (fun g=>h1 g) fun g=>h2 g
  ·exact h2 ag
 have fl:((c.aK.filter (·.bU p)).map (·.bC)).length≤c.aK.length:=by
  rw [b9];exact wv _ _
 rw [LN,show ((c.aK.filter (·.bU p)).map fun k=>e7 k.bC)=bI ((c.aK.filter (·.bU p)).map (·.bC)) by unfold bI;refine aq oM ?_;rfl]
 apply ai;exact nU (a5 fl b.jA.2.1)
 have ew:xq c l p=l++(eE c p r).filter fun q=>!l.contains q:=by unfold xq;simp only [er]
 have gx:∀(a0 a1:aM aC),fI ⟨a4,C⟩ (.O (.aW 1 (.d6 ak .ci (.az 1) vn)) .ab) [ac (.f (aU h c)),ac (.f (.al (bI l))),m,a0,a1,ac (.f (.al (bI (eE c p r)))),au,au] σ (lF N K):=fun a0 a1=>by
  apply ai;exact dJ (a5 gl (by lia))
  refine nK e7 (fun q=>!l.contains q) e7 (fun q acc K hq h1 h2=>?_) ?_
  ·apply ai;exact w7 l q
   exact bj h1 h2
  have nw:=wv (fun q=>!l.contains q) (eE c p r)
  rw [LN]
  apply ai;exact nU (by lia)
  apply ai;exact r6 (by refine aq dg ?_;lia)
  rw [ew] at hN
  exact hN _ _ _
 unfold eE at gx
 generalize (c.aK.filter (·.bU p)).map (·.bC)=Fl at fl gx⊢
 apply ai;exact Fw _ _
 have up:∀{n:af},n≤c.aK.length+2→n≤500:=fun h=>a5 h (by lia)
 refine bj (fun hj=>?_) fun hj=>?_<;>rw [mz] at hj<;>rw [hj] at gx
 ·apply ai (a:=(.f (.al (bI (Fl++[r.t]))),σ));refine aq (fh hj) ?_;exact r6 (b:=[r.t]) (up (by refine aq dg ?_;show _+1≤_;lia))
  apply ai;exact Cs _
  refine bj (fun he=>?_) fun he=>?_<;>rw [he] at gx
  ·apply ai;exact r6 (a:=Fl++[r.t]) (b:=[]) (up (by (rewrite [ny];refine aq dg ?_);show _+1≤_;lia))
   exact gx _ _
  ·apply ai;exact r6 (a:=Fl++[r.t]) (b:=[p+1]) (up (by (refine aq dg ?_;refine aq dg ?_);show _+1+1≤_;lia))
   exact gx _ _
 ·apply ai;exact r6 (a:=Fl) (b:=[]) (up (by rw [ny];exact a5 fl (ff _ _)))
  apply ai;exact Cs _
  refine bj (fun he=>?_) fun he=>?_<;>rw [he] at gx
  ·apply ai;exact r6 (a:=Fl++[]) (b:=[]) (up (by rw [ny,ny];exact a5 fl (ff _ _)))
   exact gx _ _
  ·apply ai;exact r6 (a:=Fl++[]) (b:=[p+1]) (up (by (rewrite [ny];refine aq dg ?_);show _+1≤_;lia))
   exact gx _ _
def WL(h:Hd)(c:Cd)(l:ao af)(M:aN)(x y z:aM aC):bJ:=[ac (.f (aU h c)),ac (.f (.al (bI l))),ac (.f (.ae M)),x,y,z,au,au]
def C0{C:bw}{σ:an}(h:Hd){c:Cd}(b:Bd c)(ku:∀q,bb c.nc q→q<c.aa.length){B:af}(hB:B≤300){l:ao af}(W:vJ c B l){M:aN}{x y z:aM aC}{N:bJ→an→Prop}{K:KS}(hM:M<l.length)(hN:vJ c B (l.foldl (xq c) l)→∀x y z,N (WL h c (l.foldl (xq c) l) l.length x y z) σ):
  El (vE ⟨a4,C⟩ qn) (WL h c l M x y z) σ (kWh (fI ⟨a4,C⟩ qo) N K (WL h c l M x y z)):=by
 have hl:l.length≤300:=a5 (ff _ _) (a5 W.xr hB)
 have h5:l.length≤500:=a5 hl (by decide)
 apply ai;exact eS (f:=e7) h5
 refine ig (jx hM) ?_
 apply ai;exact eS (f:=e7) h5
 apply ai;exact GK (f:=e7) h5
 apply ai;exact dJ (f:=e7) h5
 refine adM (e:=e7) (l:=l) (xq c) (vJ c B) (fun l' (g:aM aC×aM aC×aM aC)=>WL h c l' l.length g.1 g.2.1 g.2.2) (g:=(x,y,z)) (fun l' p g N hp W' hN=>?_) W fun W' g=>hN W' _ _ _
 have rp:=W.pK p hp
 exact PR h b (ed (ku p rp)) (a5 (ff _ _) (a5 W'.xr hB)) fun g0 g1 g2=>hN (Cv ku W' rp).1 (g0,g1,g2)
def PT(h:Hd){c:Cd}(b:Bd c)(ku:∀q,bb c.nc q→q<c.aa.length){B:af}(hB:B≤300):∀(n:af){l:ao af},vJ c B l→wO c.aa.length l<n→∃l',vJ c B l'∧l <+: l'∧(∀p∈l',∀r,c.aa[p]? =ac r→∀q∈eE c p r,q∈l')∧
  ∀(C:bw)(σ:an)(K:KS)(f:af)(M:aN)(x y z:aM aC),M<l.length→n<f→(∀M x y z,K .aS (WL h c l' M x y z) σ)→t6 (El (vE ⟨a4,C⟩ qn)) (fI ⟨a4,C⟩ qo) K f (WL h c l M x y z) σ:=by
 intro n
 induction n with
 |zero=>
  intro l _ hn
  exact bW hn (yh _)
 |succ n ih=>
  intro l W hn
  refine aw fun kz=>?_
  obtain ⟨pre,gr,cl⟩:=Vf ku W.pK W
  refine kz ?_;try clear kz
  by_cases e:l.foldl (xq c) l=l
  ·rw [e] at cl
   refine ⟨l,W,lK _,cl,fun C σ K f M x y z hM hf hK=>?_⟩
   match f,hf with
   |f+2,_=>
   refine C0 h b ku hB W hM fun W' x y z=>?_
   refine aq e ?_
   have h5:l.length≤500:=a5 (ff _ _) (a5 W.xr (a5 hB (by decide)))
   unfold t6
   apply ai;exact eS (f:=e7) h5
   exact dH (wu (aaW _)) (hK _ _ _ _)
  ·have lk:=gr.resolve_left e
   have W':vJ c B (l.foldl (xq c) l):=by
    have:∀{m l:ao af},(∀p∈m,bb c.nc p)→vJ c B l→vJ c B (m.foldl (xq c) l):=fun {m}=>by
     induction m with
     |nil=>exact fun q9 W=>W
     |cons p m ih=>exact fun hm W=>ih (fun q hq=>hm q (jf _ hq)) (Cv ku W (hm p fF)).1
    exact this W.pK W
   have lt:l.length<(l.foldl (xq c) l).length:=DM pre.length_le fun z=>e (pre.eq_of_length z).symm
   refine aw fun kz=>?_
   obtain ⟨l',w1,w2,w3,w4⟩:=ih W' (iN lk (uf hn))
   refine kz ?_;try clear kz
   refine ⟨l',w1,pre.trans w2,w3,fun C σ K f M x y z hM hf hK=>?_⟩
   match f,hf with
   |f+1,hf=>
   exact C0 h b ku hB W hM fun q9 x y z=>w4 C σ K f _ x y z (nz.mpr lt) (Rm hf) hK
def TM(h:Hd)(c:Cd)(ok:gN c aE)(b:Bd c):∃l:ao af,(∀p,p∈l↔bb c.nc p)∧l.length≤500∧∀d,PC (vC a4 (d+1)) 55 [.f (aU h c)] (.al (bI l)):=by
 refine aw fun kz=>?_
 obtain ⟨hh,Ty⟩:=ok.ie
 have ku:∀q,bb c.nc q→q<c.aa.length:=fun q z=>by
  have:=Ty.mW q z
  unfold Cd.nc at this;rw [b9] at this;exact this
 have hB:c.aZ.length+(3+c.aK.length)*c.aa.length≤300:=by
  have:(3+c.aK.length)*c.aa.length≤11*20:=Ly (kN b.aK 3) b.aa
  have:=b.aZ
  lia
 have lk:wO c.aa.length c.aZ≤c.aa.length:=GH _ _
 obtain ⟨l,W,pre,cl,run⟩:=PT h b ku hB 21 (l:=c.aZ) ⟨fun p hp=>.cR hp,kN (uC _ lk) _⟩ (Ao (a5 lk b.aa))
 refine kz ?_;try clear kz
 have hl:l.length≤300:=a5 (ff _ _) (a5 W.xr hB)
 refine ⟨l,fun p=>⟨W.pK p,fun z=>HQ (fun p hp=>pre.subset hp) cl p z⟩,a5 hl (by decide),fun d=>pf ag ag ag ag fun C e σ Q hq=>?_⟩
 apply ai;exact GK (f:=e7) b.jA.2.2
 refine run C σ _ 1000 (-1) au au au (Mg (by decide) (wA _)) (by decide) fun M x y z=>?_
 exact b8 (Q:=Q) hq eG
end
def Jc{c:Cd}{p:af}{r:R}(e:c.aa[p]? =ac r):iS c.aa p=(r.ay== .bp):=by unfold iS;(refine aq e ?_;rfl)
def Xa(c:Cd)(t:af):am:=if iS c.aa t then .aA else .ae t
def KR{σ:an}{i:af}{l:ao af}(h:σ[i]? =ac (ac (.al (bI l))))(x:af):fg a4 σ .fw (.f (.ae x)) (.a6 i)=ac (l.contains x):=by
 show ((yF σ (.a6 i)).bind wF).bind _=_
 refine aq (BG h) ?_
 exact zJ l x
def PU{σ:an}{i:af}{l:ao af}(h:σ[i]? =ac (ac (.al (bI l))))(x:af):fg a4 σ .gm (.f (.ae x)) (.a6 i)=ac (!l.contains x):=a7 acH (KR h x)
def adT{σ:an}{l:ao af}{p:af}{t:an}(h:l.length≤1100):kG a4 (σ++ac (.al (bI l))::t) .eA (.a6 σ.length) [.f (.ae p)] =ac (.f .aA,σ++ac (.al (bI (l++[p])))::t):=by
 (refine aq (rH (xU h)) ?_;rw [sV])
section
variable{d:af}{aE:av}
def agx(h:Hd){c:Cd}(hR:iq c aE)(b:Bd c){t:af}(ht:t<c.aa.length)(he:pz c.aa t=t):PC (vC a4 (d+1)) 56 [.f (aU h c),.f (.ae t)] (Xa c t):=pf ag ag ag ag fun C e σ Q hq=>by
 have S:=hR.gZ.ia
 have hn:=b.jA.1
 apply ai;exact iD (fC _)
 unfold Xa at hq
 have er:c.aa[t]? =ac c.aa[t] :=ed ht
 rcases Fo S ht with ⟨j,hj,h1,h2,h3⟩|⟨h1,h2⟩
 ·have j0:j=0:=by
   induction j with
   |zero=>rfl
   |succ j=>
    exfalso
    have hit:=h3.symm.trans he
    have:oY c.aa (0+(j+1)) t=oY c.aa 0 t:=by rewrite [AU,hit];rfl
    rw [nu] at this
    have z:=h2 0 (Nat.zero_lt_succ _)
    rw [← this,h1] at z;exact cG z
  subst j0
  rw [oY] at h1
  rw [h1] at hq
  have op:(c.aa[t].ay.bH==("jump":aI))=aF:=by (rewrite [qy];refine iu (Jc er) ?_);exact h1
  apply ai;exact iK er hn
  refine dH op ?_
  refine dH op ?_
  apply ai;exact KR (l:=[]) (dP _ _ _) t
  exact b8 (Q:=Q) hq (kY _ _)
 ·have jt:iS c.aa t=ak:=h1 0
  rw [jt] at hq
  have lt:∀k,oY c.aa k t<c.aa.length:=fun k=>US (h1 k)
  refine A0 (fun m ρ bS=>∃(k:af)(l:ao af),ρ=[ac (.f (aU h c)),ac (.f (.ae (oY c.aa k t))),ac (.a6 σ.length)] ∧bS=σ++[ac (.al (bI l))] ∧l.Nodup∧(∀x∈l,x<c.aa.length)∧c.aa.length+1≤m+l.length) (fun m ρ bS N hI hN=>?_) (m:=c.aa.length+1) ⟨0,[],ag,ag,RT,(fun x hx=>bW hx hU),c9 _⟩ (by lia)
  refine aw fun kz=>?_
  obtain ⟨k,l,rfl,rfl,hnd,CT,hm⟩:=hI
  refine kz ?_;try clear kz
  have hll:=IS _ l hnd CT
  have ek:c.aa[oY c.aa k t]? =ac (c.aa[oY c.aa k t]'(lt k)):=ed (lt k)
  have tJ:((c.aa[oY c.aa k t]'(lt k)).ay== .bp)=ak:=by refine iu (Jc ek) ?_;exact h1 k
  apply ai;exact iK ek hn
  refine ig ((qy _).trans tJ) ?_
  apply ai;exact PU (dP _ _ _) _
  refine bj (fun g=>?_) fun g=>?_
  ·apply ai;exact cT (dP _ _ _)
   apply ai;exact adT (by lia)
   apply ai;exact iK ek hn
   have hfa:fa (c.aa[oY c.aa k t]'(lt k))=.ae (oY c.aa (k+1) t):=by
    rw [fh (by refine aq (cz tJ) ?_;rfl),pZ,IT,ek]
   have g:=qO g
   have hni:oY c.aa k t∉l:=fun z=>by rw [Ar,jx z] at g;exact cG g
   refine hN (m-1) _ _ (by lia) ⟨k+1,l++[oY c.aa k t],by (refine iu hfa ?_;rfl),ag,DV.mpr ⟨hnd,Ax.mpr ⟨hU,RT⟩,fun a ha b hb e=>hni (by rw [jg.mp hb] at e;exact e▸ha)⟩,fun x hx=>(pD.mp hx).elim (CT x) fun hx=>jg.mp hx▸lt k,by (refine aq dg ?_;refine aq zm ?_);exact afQ hm hll⟩
  ·apply ai;exact KR (dP _ _ _) _
   refine ig (tM g) ?_
   exact b8 (Q:=Q) hq (kY _ _)
def Ka(h:Hd){c:Cd}(hR:iq c aE)(b:Bd c){p:af}{r:R}(e:c.aa[p]? =ac r)(hj:r.ay.aO=ak):PC (vC a4 (d+2)) 57 [.f (aU h c),.f (.ae p),.f (eJ r)] (.aG aF):=pf ag ag ag ag fun C eC σ Q hq=>by
 have hm:=gM e
 have ht:=hR.gZ.ia r hm hj
 obtain ⟨h1,h2⟩:=hR.pz hm hj
 have hne:=hR.SM.2 p r e hj
 have hfa:=fh hj
 have ev:PC C 56 [.f (aU h c),.f (fa r)] (Xa c r.t):=by (refine aq hfa ?_;refine aq eC ?_);exact agx h hR b ht h1
 refine pc ag ev ?_
 have en:fg a4 σ .bN (.f (fa r)) (.f (.ae ((p:aN)+1)))=ac aF:=by
  refine aq hfa ?_;exact a7 ac ((xn r.t (p+1)).trans (Rw hne))
 apply ai;exact en
 have er:c.aa[r.t]? =ac c.aa[r.t] :=ed ht
 unfold Xa
 cases hjt:iS c.aa r.t with
 |true=>
  refine bj (fun g=>?_) fun g=>?_
  ·exact b8 (Q:=Q) hq eG
  ·refine aq g ?_
   exact b8 (Q:=Q) hq eG
 |false=>
  have ne:fg a4 σ .ne (.f (.ae r.t)) (.f (fa r))=ac aF:=by
   refine aq hfa ?_;exact a7 ac (by refine aq (show ((r.t:aN)==(r.t:aN))=ak from ug _) ?_;rfl)
  apply ai;exact ne
  refine bj (fun g=>?_) fun g=>?_
  ·have lv:=h2 (cz (qy _▸g))
   unfold io at lv
   simp only [er] at lv
   apply ai;exact iK er b.jA.1
   have:(c.aa[r.t].ay.bH==("leave":aI))=aF:=(I3 _).trans lv
   exact b8 (Q:=Q) (by refine aq this ?_;exact hq) eG
  ·exact b8 (Q:=Q) (by refine aq g ?_;exact hq) eG
end
def VB(X:g9)(e:a8)(ρ:bJ)(σ:an)(b:av):Prop:=∀K:KE,K (.f (.aG b)) σ→vE X e ρ σ K
def Fx{X:g9}{a b:a8}{ρ:bJ}{σ:an}{A B:av}(ha:VB X a ρ σ A)(hb:A=ak→VB X b ρ σ B):VB X (.dX (.O a (.O b .ab))) ρ σ (A&&B):=fun K k=>ha _ (by
 induction A with
 |false=>exact k
 |true=>exact hb ag K k)
def xV{X:g9}{a b c:a8}{ρ:bJ}{σ:an}{A B D:av}(ha:VB X a ρ σ A)(hb:A=ak→VB X b ρ σ B)(hc:A=ak→B=ak→VB X c ρ σ D):VB X (.dX (.O a (.O b (.O c .ab)))) ρ σ (A&&(B&&D)):=fun K k=>ha _ (by
 induction A with
 |false=>exact k
 |true=>exact Fx (hb ag) (hc ag) K k)
def or2{X:g9}{a b:a8}{ρ:bJ}{σ:an}{A B:av}(ha:VB X a ρ σ A)(hb:A=aF→VB X b ρ σ B):VB X (.iP (.O a (.O b .ab))) ρ σ (A||B):=fun K k=>ha _ (by
 induction A with
 |true=>exact k
 |false=>exact hb ag K k)
def wd(o:aM R):aI:=match o with|some r=>r.ay.bH|none=>""
noncomputable def BI(o:aM R)(f:Op→av):av:=match o with|some r=>f r.ay|none=>aF
def HS(o:aM R)(op:Op):(wd o==op.bH)=BI o (· ==op):=by
 induction o with
 |none=>exact cz (kx (p:=fun op=>(("":aI)==op.bH)==aF) (by kernel_rfl) op)
 |some r=>exact gR _ _
def abU{σ:an}{l:ao am}{f:Op→av}(h:(fx.all fun op=>d3 (jh (.ah op.bH) l) (f op))=ak)(h0:d3 (jh (.ah "") l) aF=ak)(o:aM R):fg a4 σ .fw (.f (.ah (wd o))) (.f (.bE l))=ac (BI o f):=by
 induction o with
 |none=>exact sT h0
 |some r=>exact rF h r.ay
def PV:(fx.all fun op=>d3 (jh (.ah op.bH) [.ah "swap",.ah "dup"]) (op== .cA||op== .mD))=ak:=by kernel_rfl
def Vg:d3 (jh (.ah "") Ol) aF=ak:=by kernel_rfl
def Nr:d3 (jh (.ah "") vD) aF=ak:=by kernel_rfl
section
variable{d:af}{aE:av}
def Kb(h:Hd){c:Cd}(hR:iq c aE)(b:Bd c){p:af}{r:R}(e0:c.aa[p]? =ac r)(o1 o2:aM R)(h1:∀r',o1=ac r'→c.aa[p+1]? =ac r'∧c.bQ (p+1)=aF)(h2:∀r',o2=ac r'→(∃oW,o1=ac oW)∧c.aa[p+2]? =ac r'∧c.bQ (p+2)=aF):
  PC (vC a4 (d+1)) 58 [.f (aU h c),.f (.ae p),.f (.al [.ah r.ay.bH,.ah (wd o1),.ah (wd o2)])] (.aG aF):=pf ag ag ag ag fun C e σ Q hq=>by
 have hn:=b.jA.1
 have n1:(r.ay.kh&&BI o1 (· == .g6))=aF:=by
  induction o1 with
  |none=>exact uB _
  |some r'=>exact (hR.PE e0 (h1 r' ag).1 (h1 r' ag).2).1
 have n2:((r.ay== .cA||r.ay== .mD)&&BI o1 (· == .cA))=aF:=by
  induction o1 with
  |none=>exact uB _
  |some r'=>exact (hR.PE e0 (h1 r' ag).1 (h1 r' ag).2).2.1
 have n3:(r.ay== .mD&&(BI o1 Op.fU&&BI o2 (· == .g6)))=aF:=by
  induction o2 with
  |none=>(refine aq (show BI au (· ==Op.g6)=aF from ag) ?_;rw [uB,uB])
  |some oW=>
   refine aw fun kz=>?_
   obtain ⟨⟨r',rfl⟩,e2,m2⟩:=h2 oW ag
   refine kz ?_;try clear kz
   rw [← ZI];exact hR.adJ e0 (h1 r' ag).1 e2 (h1 r' ag).2 m2
 have n4:(r.ay== .dh&&BI o1 Op.aV)=aF:=by
  induction o1 with
  |none=>exact uB _
  |some r'=>exact (hR.PE e0 (h1 r' ag).1 (h1 r' ag).2).2.2.1
 refine or2 (Fx (A:=r.ay.kh) (B:=BI o1 (· == .g6)) (fun K k=>?_) fun q9 K k=>?_) (fun q9=>Fx (A:=r.ay== .cA||r.ay== .mD) (B:=BI o1 (· == .cA)) (fun K k=>?_) fun q9 K k=>?_) _ ?_
 ·apply ai;exact rF GC r.ay
  exact k
 ·rw [← HS] at k;exact k
 ·apply ai;exact ua PV r.ay
  exact k
 ·rw [← HS] at k;exact k
 refine dH (by (refine aq n1 ?_;refine aq n2 ?_);rfl) ?_
 refine or2 (xV (A:=r.ay== .mD) (B:=BI o1 Op.fU) (D:=BI o2 (· == .g6)) (fun K k=>?_) (fun q9 K k=>?_) fun q9 q9 K k=>?_) (fun q9=>Fx (A:=r.ay== .dh) (B:=BI o1 Op.aV) (fun K k=>?_) fun q9 K k=>?_) _ ?_
 ·rw [← gR] at k;exact k
 ·apply ai;exact abU Cr Vg o1
  exact k
 ·rw [← HS] at k;exact k
 ·rw [← gR] at k;exact k
 ·apply ai;exact abU sU Nr o1
  exact k
 refine dH (by (refine aq n3 ?_;refine aq n4 ?_);rfl) ?_
 refine xV (A:=r.ay.aV) (B:=BI o1 (· == .bp)) (D:=r.t==p+2) (fun K k=>?_) (fun q9 K k=>?_) (fun hb q9 K k=>?_) _ ?_
 ·apply ai;exact iw r.ay
  exact k
 ·rw [← HS] at k;exact k
 ·apply ai;exact iK e0 hn
  apply ai (o:=fg a4 _ .bN (.f (fa r)) _) (a:=r.t==p+2);refine aq (fh (vw hb)) ?_;exact a7 ac (xn r.t (p+2))
  exact k
 have n5:(r.ay.aV&&(BI o1 (· == .bp)&&r.t==p+2))=aF:=by
  induction o1 with
  |none=>(refine aq (show BI au (· ==Op.bp)=aF from ag) ?_;rw [ZH,uB])
  |some r'=>rw [← ZI];exact (hR.PE e0 (h1 r' ag).1 (h1 r' ag).2).2.2.2.1
 refine dH n5 ?_
 refine xV (A:=r.ay== .dh) (B:=BI o1 (· == .bp)) (D:=aF) (fun K k=>?_) (fun q9 K k=>?_) (fun hp hj K k=>?_) _ ?_
 ·rw [← gR] at k;exact k
 ·rw [← HS] at k;exact k
 ·induction o1 with
  |none=>exact cG hj
  |some r'=>
   have hj:(r'.ay== .bp)=ak:=hj
   obtain ⟨e1,m1⟩:=h1 r' ag
   have Xr:r'.ay.aO=ak:=by refine aq (cz hj) ?_;rfl
   have ht:=hR.gZ.ia r' (gM e1) Xr
   have er:c.aa[r'.t]? =ac c.aa[r'.t] :=ed ht
   have z:=(hR.PE e0 e1 m1).2.2.2.2
   rw [hp,hj,er] at z
   apply ai;exact iK e1 hn
   apply ai (o:=lN a4 _ _ (.f (fa r')));refine aq (fh Xr) ?_;exact iK er hn
   apply ai;exact iw _
   refine aq (show c.aa[r'.t].ay.aV=aF from z) ?_;exact k
 rw [uB,uB]
 exact b8 (Q:=Q) hq eG
end
def yQ(c:Cd):ao af:=((c.aa.filter fun r=>r.ay.aO).map (·.t)++c.aK.map (·.bC))++c.aZ
def Kc(c:Cd)(p:af):(yQ c).contains p=c.bQ p:=by
 unfold yQ Cd.bQ
 rw [Al]
 simp only [Ar,decide_eq_true_eq,pD,iO,o5,Rj,yl,G5,mi,and_assoc]
def wl(r:R)(o1 o2:aM R):ao am:=.ah r.ay.bH::(match o1 with|none=>[] |some r'=>.ah r'.ay.bH::(match o2 with|none=>[] |some oW=>[.ah oW.ay.bH]))
noncomputable def wn(o1 o2:aM R):af:=match o1 with|none=>1 |some _=>(match o2 with|none=>2 |some _=>3)
def KT(r:R)(o1 o2:aM R):(wl r o1 o2).length=wn o1 o2:=by induction o1<;>induction o2<;>rfl
def SP(o1 o2:aM R):1≤wn o1 o2∧wn o1 o2≤3:=by induction o1<;>induction o2<;>exact ⟨dT ag,dT ag⟩
def adU(r:R)(o1 o2:aM R)(h:o2.isSome→o1.isSome):CJ (wl r o1 o2++[.ah "",.ah ""]) au (ac 3)=[.ah r.ay.bH,.ah (wd o1),.ah (wd o2)] :=by
 induction o1<;>induction o2<;>first|rfl|exact bW (h ag) (by decide)
structure abV(c:Cd)(p:af)(o1 o2:aM R):Prop where
 qb:∀r',o1=ac r'→c.aa[p+1]? =ac r'∧c.bQ (p+1)=aF
 TN:∀r',o2=ac r'→(∃oW,o1=ac oW)∧c.aa[p+2]? =ac r'∧c.bQ (p+2)=aF
section
variable{d:af}{aE:av}
def WdL(h:Hd)(c:Cd)(x2:aM aC)(p:af)(r:R)(n:af):bJ:=[ac (.f (aU h c)),ac (.f (.al (bI (yQ c)))),x2,ac (.f (.ae p)),ac (.f (eJ r)),ac (.a6 n),au,au]
def Yh{C:bw}{σ:an}{c:Cd}(hn:c.aa.length≤500){h:Hd}{p:af}{r:R}{x2:aM aC}{K:KS}(e0:c.aa[p]? =ac r)(hK:∀o1 o2,abV c p o1 o2→K .aS (WdL h c x2 p r σ.length) (σ++[ac (.al (wl r o1 o2))])):
  t6 (El (vE ⟨a4,C⟩ rd)) (fI ⟨a4,C⟩ rg) K 1000 (WdL h c x2 p r σ.length) (σ++[ac (.al (wl r au au))]):=by
 refine A0 (fun m ρ bS=>∃o1 o2,ρ=WdL h c x2 p r σ.length∧bS=σ++[ac (.al (wl r o1 o2))] ∧3≤m+wn o1 o2∧abV c p o1 o2) (fun m ρ bS N hI hN=>?_) (m:=2) ⟨au,au,ag,ag,c9 3,(fun q9 h=>bn h),(fun q9 h=>bn h)⟩ (by decide)
 refine aw fun kz=>?_
 obtain ⟨o1,o2,rfl,rfl,hm,W⟩:=hI
 refine kz ?_;try clear kz
 have wlb:(wl r o1 o2).length≤100000:=by rw [KT];exact a5 (SP o1 o2).2 (by decide)
 have len:eP (σ++[ac (.al (wl r o1 o2))]) ak 0 [.a6 σ.length] =ac (.f (.ae (wn o1 o2)),σ++[ac (.al (wl r o1 o2))]):=by (refine aq (yO (dP _ _ _) wlb) ?_;rw [KT])
 refine xV (X:=⟨a4,C⟩) (A:=dc ((wn o1 o2:aN)<3)) (B:=dc (((p+wn o1 o2:af):aN)<c.aa.length)) (D:=!c.bQ (p+wn o1 o2)) (fun K k=>?_) (fun q9 K k=>?_) (fun q9 q9 K k=>?_) _ ?_
 ·apply ai;exact len
  exact k
 ·apply ai;exact len
  apply ai;exact eS hn
  exact k
 ·apply ai;exact len
  apply ai;exact w7 (yQ c) (p+wn o1 o2)
  rw [Kc];exact k
 refine bj (fun g=>?_) fun g=>hK o1 o2 W
 rw [G5,G5] at g
 refine aw fun kz=>?_
 obtain ⟨g1,g2,g3⟩:=g
 refine kz ?_;try clear kz
 have g1:=eX g1
 have g2:p+wn o1 o2<c.aa.length:=nz.mp (eX g2)
 have g3:=qO g3
 have er:c.aa[p+wn o1 o2]? =ac c.aa[p+wn o1 o2] :=ed g2
 apply ai;exact cT (dP _ _ _)
 apply ai;exact len
 apply ai;exact iK er hn
 apply ai;exact rH wlb
 generalize c.aa[p+wn o1 o2] =rn at er⊢
 have wb:=(SP o1 o2).2
 rcases o1 with _|r1
 ·have e2:wl r au o2++[.ah rn.ay.bH] =wl r (ac rn) au:=ag
  refine aq e2 ?_
  exact hN (m-1) _ _ (ah3 hm) ⟨ac rn,au,ag,ag,ah4 hm,fun r' e=>by obtain rfl:=cp e;exact ⟨er,g3⟩,fun q9 h=>bn h⟩
 rcases o2 with _|r2
 ·have e2:wl r (ac r1) au++[.ah rn.ay.bH] =wl r (ac r1) (ac rn):=ag
  refine aq e2 ?_
  exact hN (m-1) _ _ (ah5 hm) ⟨ac r1,ac rn,ag,ag,ah6 m,W.qb,fun r' e=>by obtain rfl:=cp e;exact ⟨⟨_,ag⟩,er,g3⟩⟩
 ·exact bW g1 (aaW 3)
def adV{σ:an}{xs:ao am}(h:xs.length≤100000):lO σ ak (.f (.al xs)) (.f .aA) (.f (.ae 3))=jJ σ ak (CJ xs au (ac 3)):=bD h
def Fy(h:Hd){c:Cd}(hR:iq c aE)(b:Bd c):PC (vC a4 (d+3)) 59 [.f (aU h c)] (.aG ak):=by
 refine aw fun kz=>?_
 obtain ⟨lI,hw,hwl,hwe⟩:=TM h c hR.gZ.bm b
 refine kz ?_;try clear kz
 refine pf ag ag ag ag fun C e σ Q hq=>?_
 have hn:=b.jA.1
 have Oz:=b.aa
 have k8:=b.aK
 have s8:=b.aZ
 have fl:=wv (fun r:R=>r.ay.aO) c.aa
 apply ai;exact dJ hn
 refine nK eJ (fun r=>r.ay.aO) (fun r=>fa r) (fun r acc K hr h1 h2=>?_) ?_
 ·apply ai;exact Fw _ _
  refine bj (fun g=>h1 ((mz _).symm.trans g)) fun g=>h2 ((mz _).symm.trans g)
 rw [LN,show ((c.aa.filter fun r=>r.ay.aO).map fun r=>fa r)=bI ((c.aa.filter fun r=>r.ay.aO).map (·.t)) by
  unfold bI;refine aq oM ?_;exact DT fun r hr=>fh (o5.mp hr).2]
 apply ai;exact nU (by rw [b9];lia)
 apply ai;exact dJ b.jA.2.1
 refine jC nD (fun k=>e7 k.bC) (fun k acc K hk hK=>hK) ?_
 rw [show (c.aK.map fun k=>e7 k.bC)=bI (c.aK.map (·.bC)) by unfold bI;refine aq oM ?_;rfl]
 apply ai;exact nU (by rw [b9];exact b.jA.2.1)
 apply ai;exact r6 (by (refine aq dg ?_;rw [b9,b9]);lia)
 apply ai;exact r6 (by (refine aq dg ?_;refine aq dg ?_;rw [b9,b9]);lia)
 refine pc e (hwe _) ?_
 apply ai;exact qd hn
 refine AW (fun ρ bS=>∃x y z l,ρ=[ac (.f (aU h c)),ac (.f (.al (bI (yQ c)))),ac (.f (.al (bI lI))),x,y,z,au,au] ∧bS=σ++l) (fun v ρ bS N hv hI hN=>?_) ⟨_,_,_,[],ag,(ny _).symm⟩ fun ρ bS hI=>?_
 ·refine aw fun kz=>?_
  obtain ⟨x,y,z,l,rfl,rfl⟩:=hI
  obtain ⟨i,r,hi,rfl⟩:=IV hv
  refine kz ?_;try clear kz
  apply ai;exact iD (dT ag)
  refine Yh hn hi fun o1 o2 W=>?_
  have inw:lI.contains i=ak:=by
   rw [Ar]
   exact jx ((hw i).mpr (hR.PB.2 i (fM.mp hi).1))
  apply ai;exact w7 lI i
  refine dH (by refine aq inw ?_;rfl) ?_
  have ll:(wl r o1 o2++[am.ah "",am.ah ""]).length≤100000:=by
   (refine aq dg ?_;rw [KT])
   exact a5 (qh (SP o1 o2).2 _) (dT ag)
  have aiH:sN (σ++l++[ac (.al (wl r o1 o2))]) ak .ci (.a6 (σ++l).length) (.f (.al [.ah "",.ah ""]))=ac (.f (.al (wl r o1 o2++[.ah "",.ah ""])),σ++l++[ac (.al (wl r o1 o2))]):=by
   have e:mV (σ++l++[ac (.al (wl r o1 o2))]) (.a6 (σ++l).length)=ac (wl r o1 o2):=KF (dP _ _ _)
   show (mV _ _).bind _=_
   refine aq e ?_;exact ol ll
  apply ai;exact aiH
  apply ai;exact (adV ll).trans (by
   rw [adU r o1 o2 (by
    induction o2 with
    |none=>exact fun h=>cG h
    |some oW=>obtain ⟨⟨r',e⟩,_⟩:=W.TN oW ag;intro _;refine aq e ?_;rfl)]
   exact ol (dT ag))
  refine pc e (Kb h hR b hi o1 o2 W.qb W.TN) ?_
  apply ai;exact Fw _ _
  have fJ:∀(x y z:aM aC),N [ac (.f (aU h c)),ac (.f (.al (bI (yQ c)))),ac (.f (.al (bI lI))),x,y,z,au,au] (σ++l++[ac (.al (wl r o1 o2))]):=fun x y z=>hN _ _ ⟨x,y,z,l++[ac (.al (wl r o1 o2))],ag,qi ..⟩
  refine bj (fun g=>?_) fun g=>?_
  ·refine pc e (Ka h hR b hi ((mz _).symm.trans g)) ?_
   exact fJ _ _ _
  ·exact dH g (fJ _ _ _)
 ·refine aw fun kz=>?_
  obtain ⟨x,y,z,l,rfl,rfl⟩:=hI
  refine kz ?_;try clear kz
  exact b8 (Q:=Q) hq (kY _ _)
end
def xW(h:Hd):Prop:=(gI h.cx=ak)∧(gI h.bq=ak)∧(gI h.aQ=ak)∧(∃l,h.gE=.al l∧l.length≤100∧∀x∈l,gI x=ak)
section
variable{h:Hd}(s0:xW h)
include s0
def xW.cx:gI h.cx=ak:=s0.1
def xW.bq:gI h.bq=ak:=s0.2.1
def xW.aQ:gI h.aQ=ak:=s0.2.2.1
def xW.gE:∃l,h.gE=.al l∧l.length≤100∧∀x∈l,gI x=ak:=s0.2.2.2
end
def SQ(r:R):am:=.bE [.ah r.ay.bH,.ah ((iA (fa r)).getD ""),r.b,r.c,.ae r.eZ]
noncomputable def SS(k:Ct):am:=.bE [k.nA,.ae k.dm,.ae k.gx,.ae k.bC,.ae k.cQ]
def qP(h:Hd)(c:Cd)(c6:ao am):am:=.al [h.cx,h.bq,h.aQ,h.gE,.al (c.aa.map SQ),.al (c.aK.map SS),.al (bI c.aZ),.al c6]
def nE(n:af)(v:am):Prop:=qs n v v=ac ak
def fE{n:af}{v:am}(h:gI v=ak):nE (n+1) v:=by
 cases v<;>first|rfl|exact a7 ac (ug _)|exact cG h
def Fz{n:af}:∀{l:ao am},(∀x∈l,nE n x)→wE (qs n) l l=ac ak:=by
 intro l
 induction l with
 |nil=>
  intro _
  exact ag
 |cons x l ih=>
  intro h
  show (qs n x x).bind _=_
  (refine aq (h x fF) ?_;rewrite [ri];refine aq (ih fun y hy=>h y (jf _ hy)) ?_)
  rfl
def lY{n:af}{l:ao am}(h:∀x∈l,nE n x):nE (n+1) (.al l):=by
 show (if l.length=l.length then wE (qs n) l l else ac aF)=_
 (refine aq (bD ag) ?_;refine aq (Fz h) ?_;rfl)
def Cw{n:af}{l:ao am}(h:∀x∈l,nE n x):nE (n+1) (.bE l):=by
 show (if l.length=l.length then wE (qs n) l l else au)=_
 (refine aq (bD ag) ?_;refine aq (Fz h) ?_;rfl)
def PW{n:af}(l:ao af):nE (n+2) (.al (bI l)):=lY fun x hx=>by
 obtain ⟨i,_,rfl⟩:=iO.mp hx
 exact fE ag
def adW{n:af}{aE:av}{r:R}(h:r.bm aE=ak):nE (n+2) (SQ r):=by
 obtain ⟨_,h2,h3⟩:=KP h
 refine Cw fun x hx=>?_
 simp only [eH,hU,LD] at hx
 rcases hx with rfl|rfl|rfl|rfl|rfl
 ·exact fE ag
 ·exact fE ag
 ·exact fE h2
 ·exact fE h3
 ·exact fE ag
def adX{n:af}{k:Ct}(h:gI k.nA=ak):nE (n+2) (SS k):=by
 refine Cw fun x hx=>?_
 simp only [eH,hU,LD] at hx
 rcases hx with rfl|rfl|rfl|rfl|rfl
 ·exact fE h
 ·exact fE ag
 ·exact fE ag
 ·exact fE ag
 ·exact fE ag
def xt(c:Cd):Prop:=∀k∈c.aK,gI k.nA=ak
def vK{n:af}{h:Hd}{c:Cd}{c6:ao am}{aE:av}(ho:xW h)(hs:xt c)(hr:∀r∈c.aa,r.bm aE=ak)(hk:∀x∈c6,nE (n+3) x):nE (n+5) (qP h c c6):=by
 refine lY fun x hx=>?_
 simp only [eH,hU,LD] at hx
 refine aw fun kz=>?_
 obtain ⟨l,hl,_,hl2⟩:=ho.gE
 refine kz ?_;try clear kz
 rcases hx with rfl|rfl|rfl|rfl|rfl|rfl|rfl|rfl
 ·exact fE ho.cx
 ·exact fE ho.bq
 ·exact fE ho.aQ
 ·refine aq hl ?_;exact lY fun x hx=>fE (hl2 x hx)
 ·exact lY fun x hx=>by
   refine aw fun kz=>?_
   obtain ⟨r,h1,rfl⟩:=iO.mp hx
   refine kz ?_;try clear kz
   exact adW (hr r h1)
 ·exact lY fun x hx=>by
   refine aw fun kz=>?_
   obtain ⟨k,h1,rfl⟩:=iO.mp hx
   refine kz ?_;try clear kz
   exact adX (hs k h1)
 ·exact PW _
 ·exact lY hk
def Yi{aE:av}{r:R}(h:r.bm aE=ak)(ht:r.ay.aO=ak→r.t≤1000):iA (fa r)=ac ((iA (fa r)).getD ""):=by
 have key:∃q,iA (fa r)=ac q:=by
  have fn:∀{v:am},c8 v=ak→∃q,iA v=ac q:=fun e=>by refine aq (jz e) ?_;exact ⟨_,ag⟩
  have fi:∀{v:am},v1 0 v=ak→∃q,iA v=ac q:=fun e=>by refine aq (pJ e) ?_;exact ⟨_,ag⟩
  have ns:∀{x:aI}{v:am},(L8 x).length≤100000→oj x v=ak→∃q,iA v=ac q:=fun z e=>by refine aq (lR e) ?_;exact ⟨_,bD z⟩
  refine aw fun kz=>?_
  obtain ⟨op,t,a,b,c,l⟩:=r
  refine kz ?_;try clear kz
  induction op
  case iU|eY|eB|bp=>exact ⟨_,bD (show (t:aN).natAbs<_ from ni (ht ag) (by decide))⟩
  all_goals refine d8 (show _=ak from h) fun h h3=>d8 h fun h1 h2=>?_
  all_goals first
   |exact zw h1
   |exact fn h1
   |exact fi h1
   |exact fi (jY.mp h1).2
   |exact ns (x:="@x") (by decide+kernel) h1
   |exact ns (x:="$x") (by decide+kernel) h1
   |exact ns (x:="C") (by decide+kernel) h1
   |exact ns (x:="u") (by decide+kernel) h1
   |exact ns (x:="E") (by decide+kernel) h1
   |exact sp h1 (ns (x:="t") (by decide+kernel)) (ns (x:="u") (by decide+kernel))
 obtain ⟨q,e⟩:=key
 refine aq e ?_;rfl
section
variable{d:af}{aE:av}
def KU{σ:an}{v:am}{q:aI}(h:iA v=ac q){fz:av}:eP σ fz 6 [.f v] =ac (.f (.ah q),σ):=a7 (qG fun s=>(aC.f (.ah s),σ)) h
def FA{α:Type}(h:Hd){c:Cd}(ho:xW h)(b:Bd c)(hr:∀r∈c.aa,r.bm aE=ak)(ht:∀r∈c.aa,r.ay.aO=ak→r.t≤1000)(c6:ao α)(f g:α→am)(hl:c6.length≤500)(hk:∀k∈c6,PC (vC a4 d) 54 [.f (f k)] (g k)):
  PC (vC a4 (d+1)) 54 [.f (aU (h.wk (c6.map f)) c)] (qP h c (c6.map g)):=pf ag ag ag ag fun C e σ Q hq=>by
 refine aw fun kz=>?_
 obtain ⟨q1,q2,q3⟩:=b.jA
 refine kz ?_;try clear kz
 apply ai;exact dJ q1
 refine jC eJ SQ (fun r acc K hm hK=>?_) ?_
 ·apply ai;exact KU (Yi (hr r hm) (ht r hm))
  exact hK
 apply ai;exact nU q1
 apply ai;exact dJ q2
 refine jC nD SS (fun k acc K hm hK=>hK) ?_
 apply ai;exact nU q2
 apply ai;exact dJ (f:=f) hl
 refine jC f g (fun k acc K hm hK=>pc e (hk k hm) hK) ?_
 apply ai;exact nU hl
 refine aw fun kz=>?_
 obtain ⟨l,hs,hl2,_⟩:=ho.gE
 refine kz ?_;try clear kz
 have ls:∀σ,eP σ ak 1 [.f (h.wk (c6.map f)).gE] =ac (.f h.gE,σ):=fun σ=>by
  show eP σ ak 1 [.f h.gE] =_
  refine aq hs ?_;exact ol (a5 hl2 (by decide))
 apply ai;exact ls _
 apply ai;exact GK (f:=e7) q3
 exact b8 (Q:=Q) hq eG
def A4(k:sG):Prop:=(xW k.1)∧(Bd k.2)∧(∀r∈k.2.aa,r.bm aF=ak)∧(∀r∈k.2.aa,r.ay.aO=ak→r.t≤1000)∧(k.1.ft=[])
section
variable{k:sG}(s0:A4 k)
include s0
def A4.hd:xW k.1:=s0.1
def A4.bd:Bd k.2:=s0.2.1
def A4.bm:∀r∈k.2.aa,r.bm aF=ak:=s0.2.2.1
def A4.PX:∀r∈k.2.aa,r.ay.aO=ak→r.t≤1000:=s0.2.2.2.1
def A4.aA:k.1.ft=[] :=s0.2.2.2.2
end
def Vh(k:sG)(K:A4 k):PC (vC a4 (d+1)) 54 [.f (d0 k)] (qP k.1 k.2 []):=by
 have:=FA (d:=d) k.1 K.hd K.bd K.bm K.PX ([] :ao jE) (fun q9=>.aA) (fun q9=>.aA) (fC _) (fun q9 h=>bW h hU)
 rw [Hk,Hd.GI K.aA] at this
 exact this
def TQ(h:Hd){c:Cd}(ho:xW h)(b:Bd c)(hr:∀r∈c.aa,r.bm aE=ak)(ht:∀r∈c.aa,r.ay.aO=ak→r.t≤1000){c6:ao sG}(hl:c6.length≤500)(hk:∀k∈c6,A4 k):
  PC (vC a4 (d+2)) 54 [.f (aU (h.wk (c6.map d0)) c)] (qP h c (c6.map fun k=>qP k.1 k.2 [])):=
 FA h ho b hr ht c6 d0 _ hl fun k hm=>Vh k (hk k hm)
end
def Vi{σ bS:an}(l:an)(h:bS.take σ.length=σ):(bS++l).take σ.length=σ:=by
 have:σ.length≤bS.length:=by
  have:=a7 uI h
  rw [DY] at this;lia
 (refine aq (Z0 this) ?_;refine aq h ?_;rfl)
structure j3(σ τ:an)(ks:af)(sk:ao am)(kd:Kd)(de:ao am):Prop where
 cn:τ[ks]? =ac (ac (.al sk.reverse))
 dO:τ[σ.length+1]? =ac (ac (.al de))
 fZ:τ[σ.length+2]? =ac (ac (.dK kd))
 kR:τ.take σ.length=σ
 pH:σ.length≤ks
 n1:ks≠σ.length+1
 PY:ks≠σ.length+2
def uy{σ τ:an}{i:af}{x:aM cD}(h:τ.take σ.length=σ)(hi:σ.length≤i):(τ.set i x).take σ.length=σ:=by
 (refine aq (List.take_set_of_le hi) ?_;refine aq h ?_;rfl)
section
variable{σ τ:an}{ks:af}{sk:ao am}{kd:Kd}{de:ao am}
def j3.pg(H:j3 σ τ ks sk kd de)(st l:ao am)(hl:l=st.reverse):j3 σ (τ.set ks (ac (.al l))) ks st kd de:=by
 subst hl
 have lt:=(fM.mp H.cn).1
 refine ⟨by simp [lt],?_,?_,uy H.kR H.pH,H.pH,H.n1,H.PY⟩
 ·rw [sK H.n1];exact H.dO
 ·rw [sK H.PY];exact H.fZ
def j3.Cx(H:j3 σ τ ks sk kd de)(ds:ao am):j3 σ (τ.set (σ.length+1) (ac (.al ds))) ks sk kd ds:=by
 have lt:=(fM.mp H.dO).1
 refine ⟨?_,by simp [lt],?_,uy H.kR (by lia),H.pH,H.n1,H.PY⟩
 ·rw [sK (Hu H.n1)];exact H.cn
 ·rw [sK (by lia)];exact H.fZ
def j3.Vj(H:j3 σ τ ks sk kd de)(E7:Kd):j3 σ (τ.set (σ.length+2) (ac (.dK E7))) ks sk E7 de:=by
 have lt:=(fM.mp H.fZ).1
 refine ⟨?_,?_,by simp [lt],uy H.kR (by lia),H.pH,H.n1,H.PY⟩
 ·rw [sK (Hu H.PY)];exact H.cn
 ·rw [sK (by lia)];exact H.dO
def j3.pQ(H:j3 σ τ ks sk kd de)(st l:ao am)(hl:l=st.reverse):j3 σ (τ++[ac (.al l)]) τ.length st kd de:=by
 subst hl
 have l1:=(fM.mp H.dO).1
 have l2:=(fM.mp H.fZ).1
 refine ⟨dP _ _ _,?_,?_,Vi _ H.kR,by lia,by lia,by lia⟩
 ·rw [sJ l1];exact H.dO
 ·rw [sJ l2];exact H.fZ
def Jd{n:am}{k:cF aN aI}{i:af}{es:Kd}{v:am}(h:τ[i]? =ac (ac (.dK es)))(hk:lA n=ac k)(hv:fD k es=ac v):lN a4 τ (.a6 i) (.f n)=ac v:=by
 cases n<;>first|cases hk|skip
 ·show (qG am.al (jn τ i)).elim ((pt τ i).bind _) _=_
  (refine aq (GD h) ?_;refine aq (uT h) ?_)
  exact hv
 ·show (pt τ i).bind _=_
  refine aq (uT h) ?_
  exact hv
def Vk{n v:am}{k:cF aN aI}{i:af}{es:Kd}(h:τ[i]? =ac (ac (.dK es)))(hk:lA n=ac k)(hl:es.length≤1000):o6 τ (.a6 i) (.f n) (.f v)=ac (τ.set i (ac (.dK (hY es k v)))):=by
 show (jn τ i).elim ((pt τ i).bind _) _=_
 (refine aq (GD h) ?_;refine aq (uT h) ?_)
 refine (bD hl).trans ?_
 show (lA n).map _=_
 refine aq hk ?_;rfl
def A5{i:af}{x:am}{l:ao am}(h:τ[i]? =ac (ac (.al (x::l).reverse)))(hn:l.length+1≤100000):kG a4 τ .g6 (.a6 i) [] =ac (.f x,τ.set i (ac (.al l.reverse))):=by
 have e:(x::l).reverse=l.reverse++[x] :=tu
 have z:(x::l).reverse.length-1=l.reverse.length:=by (refine aq vj ?_;refine aq vj ?_);rfl
 rw [abO h (by refine aq vj ?_;exact hn) (by (refine aq z ?_;refine aq e ?_;rw [nO (c9 _),nZ]);rfl),z,e,Ry (c9 _),nZ]
 (refine aq (show [x].eraseIdx 0=[] from ag) ?_;rw [ny])
def PZ{i:af}{x y:am}{l:ao am}(h:τ[i]? =ac (ac (.al (x::y::l).reverse)))(hn:l.length+2≤100000):kG a4 τ .g6 (.a6 i) [.f (.ae (-2))] =ac (.f y,τ.set i (ac (.al (x::l).reverse))):=by
 have e:(x::y::l).reverse=l.reverse++[y,x] :=by (refine aq tu ?_;refine aq tu ?_;rw [qi]);rfl
 have pl:iH (-2) (x::y::l).reverse.length=ac l.reverse.length:=by
  unfold iH
  rw [vj,vj,cL (by decide),bD (by (refine aq o3 ?_;refine aq o3 ?_);lia)]
  (refine aq o3 ?_;refine aq o3 ?_);congr 1;lia
 rw [agt h (by refine aq vj ?_;exact hn) pl (by (refine aq e ?_;rw [nO (c9 _),nZ]);rfl),e,Ry (c9 _),nZ,tu]
 rfl
def OA{i:af}{x:am}{l:ao am}(h:τ[i]? =ac (ac (.al (x::l).reverse))):lN a4 τ (.a6 i) (.f (.ae (-1)))=ac x:=by
 show (yF τ (.a6 i)).elim _ _=_
 refine aq (BG h) ?_
 have pl:iH (-1) (x::l).reverse.length=ac l.reverse.length:=by
  unfold iH
  rw [vj,vj,cL (by decide),bD (by refine aq o3 ?_;lia)]
  refine aq o3 ?_;congr 1;lia
 refine (a7 (lj · _) pl).trans ?_
 show (x::l).reverse[l.reverse.length]? =_
 (refine aq tu ?_;rw [nO (c9 _),nZ]);rfl
end
section
variable{d:af}
def P1{v:am}(h:∀(σ:an)(Q:KE),vC a4 (d+1) 60 [.f v] σ Q=Q (.f (.aG (cS v))) (σ.take σ.length)):PC (vC a4 (d+1)) 60 [.f v] (.aG (cS v)):=⟨fun σ Q hq=>by
 (rewrite [h];refine aq eG ?_);exact hq⟩
set_option tactic.hygienic true in
def Yj{v:am}(hv:iB v=true):PC (vC a4 (d+1)) 60 [.f v] (.aG (cS v)):=by
 refine P1 fun σ Q=>?_
 unfold iB at hv
 split at hv
 ·kernel_rfl
 ·rename_i b
  induction b<;>kernel_rfl
 ·simp only [Bool.or_eq_true,beq_iff_eq] at hv
  rcases hv with rfl|rfl<;>kernel_rfl
 ·rename_i x
  simp only [List.contains_eq_mem,decide_eq_true_eq,List.mem_cons,List.not_mem_nil,or_false] at hv
  rcases hv with rfl|rfl|rfl|rfl|rfl|rfl<;>kernel_rfl
 ·exact Bool.noConfusion hv
end
noncomputable def fu:af→bK→bK
 | 0,s=>s
 |n+1,.O _ r=>fu n r
 |_+1,.ab=>.ab
def BJ(op:Op):aI:=Sv op.bH au (ac 3)
def A6(σ:an)(op:Op):lO σ ak (.f (.ah op.bH)) (.f .aA) (.f (.ae 3))=ac (.f (.ah (BJ op)),σ):=bD (eX (kx (p:=fun op=>dc (op.bH.length≤100000)) (by kernel_rfl) op))
noncomputable def HT:Op→av
 |.mL|.zq|.zr=>ak
 |_=>aF
def C1(op:Op):(BJ op==("get":aI))=HT op:=cz (kx (p:=fun op=>(BJ op==("get":aI))==HT op) (by kernel_rfl) op)
def C8(op:Op):(BJ op==("set":aI))=op.fU:=cz (kx (p:=fun op=>(BJ op==("set":aI))==op.fU) (by kernel_rfl) op)
def FB(op:Op):av:=op== .qv||(op== .wK||op== .lQ)
def HU(op:Op):av:=op== .dh||(op== .jR||(op== .iI||FB op))
def agy:(fx.all fun op=>d3 (jh (.ah op.bH) [.ah "getl",.ah "setl"]) (op== .mL||op== .mM))=ak:=by kernel_rfl
def TR:(fx.all fun op=>d3 (jh (.ah op.bH) [.ah "text",.ah "undef",.ah "lambda"]) (FB op))=ak:=by kernel_rfl
def abW:(fx.all fun op=>d3 (jh (.ah op.bH) [.ah "push",.ah "self",.ah "blockgiven",.ah "text",.ah "undef",.ah "lambda"]) (HU op))=ak:=by kernel_rfl
def qe:af→Op→av
 | 2,op=>FB op
 | 3,op=>HU op
 | 4,op=>HT op
 | 5,op=>op.fU
 | 6,op=>op== .g6
 | 7,op=>op== .mD
 | 8,op=>op== .cA
 | 9,op=>op== .dY
 | 10,op=>op== .bp||op== .eB
 | 11,op=>op.aV
 | 12,op=>op== .gY ()
 |_,_=>ak
noncomputable abbrev RL(h:Hd)(c:Cd)(st:am)(bB:av)(kB:aM aC)(pc:am)(ks:af)(σ:an)(x8 x9 gh fX:aM aC):bJ:=[ac (.f (aU h c)),ac (.f st),ac (.f (.aG bB)),kB,ac (.f pc),ac (.a6 ks),ac (.a6 (σ.length+1)),ac (.a6 (σ.length+2)),x8,x9,gh,fX,au]
section
variable{C:bw}{h:Hd}{c:Cd}{st:am}{bB:av}{kB:aM aC}{pc:am}{ks:af}{σ τ:an}{x8 gh fX:aM aC}{K:KS}{op:Op}
def yR{op:Op}(o:Op)(z:(op==o)=aF):(op.bH==o.bH)=aF:=(gR op o).trans z
def agz:∀k:af,k<13→qe k op=aF→fI ⟨a4,C⟩ (fu (k+1) bP) (RL h c st bB kB pc ks σ x8 (ac (.f (.ah op.bH))) gh fX) τ K→fI ⟨a4,C⟩ (fu k bP) (RL h c st bB kB pc ks σ x8 (ac (.f (.ah op.bH))) gh fX) τ K:=
 rO (fun t q9=>cG t) (rO (fun t q9=>cG t) (rO (fun t H=>ai (ua TR op) (dH t H)) (rO (fun t H=>ai (ua abW op) (dH t H)) (rO (fun t H=>ai (A6 _ op) (dH ((C1 op).trans t) H)) (rO (fun t H=>ai (A6 _ op) (dH ((C8 op).trans t) H))
  (rO (fun t H=>dH (yR .g6 t) H) (rO (fun t H=>dH (yR .mD t) H) (rO (fun t H=>dH (yR .cA t) H) (rO (fun t H=>dH (yR .dY t) H) (rO (fun t H=>have n:=Ls.mp t;dH (yR .bp n.1) (dH (yR .eB n.2) (dH (yR .eB n.2) H)))
   (rO (fun t H=>ai (iw op) (dH t (dH t H))) (rO (fun t H=>dH (yR (.gY ()) t) H) acu))))))))))))
def pA:∀(n k:af),k+n≤13→((gw n).all fun i=>!qe (k+i) op)=ak→fI ⟨a4,C⟩ (fu (k+n) bP) (RL h c st bB kB pc ks σ x8 (ac (.f (.ah op.bH))) gh fX) τ K→fI ⟨a4,C⟩ (fu k bP) (RL h c st bB kB pc ks σ x8 (ac (.f (.ah op.bH))) gh fX) τ K:=by
 intro n
 induction n with
 |zero=>
  intro k _ _ H
  exact H
 |succ n ih=>
  intro k hk t H
  have t0:∀i<n+1,qe (k+i) op=aF:=fun i hi=>qO (ow.mp t i (qk.mpr hi))
  refine agz k (iN (G6 (qI n)) hk) (t0 0 (qI n)) (ih (k+1) (qT k 1 n▸hk) (ow.mpr fun i hi=>?_) (qT k 1 n▸H))
  have:=t0 (i+1) (Lx (qk.mp hi))
  (refine aq (show k+1+i=k+(i+1) from qT k 1 i) ?_;refine aq this ?_);rfl
def mG(k n:af)(hk:k+n=13)(t:((gw n).all fun i=>!qe (k+i) op)=ak)(H:K .aS (RL h c st bB kB pc ks σ x8 (ac (.f (.ah op.bH))) gh fX) τ):fI ⟨a4,C⟩ (fu k bP) (RL h c st bB kB pc ks σ x8 (ac (.f (.ah op.bH))) gh fX) τ K:=
 pA n k (lm hk) t (hk▸H)
end
def gF(r:R):am:=if r.ay== .mL||r.ay== .mM then r.b else fa r
def P2{r:R}(h:r.ay.aO=aF):gF r=rT r:=by
 unfold gF rT
 cases e:r.ay<;>first|rfl|(unfold fa;refine aq h ?_;rfl)|(rw [e] at h;cases h)
def A7(bB:av)(r:R):am:=if r.ay== .dh then gF r else if r.ay== .iI then .aG bB else .ah r.ay.bH
def Yk{op:Op}(h:HU op=ak):((gw 9).all fun i=>!qe (4+i) op)=ak:=by
 have:=kx (p:=fun op=>!HU op||(gw 9).all fun i=>!qe (4+i) op) (by kernel_rfl) op
 rw [h] at this;exact this
section
variable{C:bw}{d:af}{h:Hd}{c:Cd}{st:am}{bB:av}{kB:aM aC}{pc:am}{ks:af}{σ τ:an}{x8 x9 gh fX:aM aC}{K:KS}{r:R}{sk:ao am}{kd:Kd}{de:ao am}
def Yl{p:af}{v:am}(hr:c.aa[p]? =ac r)(hn:c.aa.length≤500)(H:fI ⟨a4,C⟩ (fu 2 bP) (RL h c st bB (ac (.f v)) (.ae ((p+1:af):aN)) ks σ (ac (.f (eJ r))) (ac (.f (.ah r.ay.bH))) (ac (.f (gF r))) fX) τ K):
  lE (RL h c st bB kB (.ae p) ks σ x8 x9 gh fX) [3] aF v fun ρ=>fI ⟨a4,C⟩ bP ρ τ K:=by
 apply ai;exact iK hr hn
 apply ai;exact ua agy r.ay
 unfold gF at H
 refine bj (fun g=>?_) fun g=>?_
 ·rw [bD g] at H;exact H
 ·rw [cL (by refine aq g ?_;exact mI)] at H;exact H
variable(H:j3 σ τ ks sk kd de)(ls:sk.length≤1000)(ld:de.length≤1000)
include H ls ld
theorem OB(hp:HU r.ay=ak)(hK:∀dR,j3 σ dR ks (A7 bB r::sk) kd (if FB r.ay then de++[.ah r.ay.bH] else de)→K .aS (RL h c st bB kB pc ks σ x8 (ac (.f (.ah r.ay.bH))) (ac (.f (gF r))) fX) dR):
  fI ⟨a4,C⟩ (fu 2 bP) (RL h c st bB kB pc ks σ x8 (ac (.f (.ah r.ay.bH))) (ac (.f (gF r))) fX) τ K:=by
 have big:∀{n:af},n≤1000→n≤100000:=fun h=>a5 h (by decide)
 have tail:∀{τ:an}{de:ao am},j3 σ τ ks sk kd de→(∀dR,j3 σ dR ks (A7 bB r::sk) kd de→K .aS (RL h c st bB kB pc ks σ x8 (ac (.f (.ah r.ay.bH))) (ac (.f (gF r))) fX) dR)→fI ⟨a4,C⟩ (fu 3 bP) (RL h c st bB kB pc ks σ x8 (ac (.f (.ah r.ay.bH))) (ac (.f (gF r))) fX) τ K:=fun {τ de} H hK=>by
  have fJ:∀v,A7 bB r=v→fI ⟨a4,C⟩ (fu 4 bP) (RL h c st bB kB pc ks σ x8 (ac (.f (.ah r.ay.bH))) (ac (.f (gF r))) fX) (τ.set ks (ac (.al (sk.reverse++[v])))) K:=fun v hv=>
   mG 4 9 ag (Yk hp) (hK _ (H.pg (A7 bB r::sk) _ (by (refine aq tu ?_;refine aq hv ?_;rfl))))
  have l1:sk.reverse.length≤100000:=by refine aq vj ?_;exact big ls
  apply ai;exact ua abW r.ay
  refine ig hp ?_
  apply ai;exact cT H.cn
  refine bj (fun g=>?_) fun g=>?_
  ·apply ai;exact jo H.cn l1
   exact fJ _ (by unfold A7;(refine aq (bD ((gR r.ay .dh).symm.trans g)) ?_;rfl))
  ·have e1:A7 bB r=if r.ay== .iI then .aG bB else .ah r.ay.bH:=by unfold A7;rw [cL (by refine aq ((gR r.ay .dh).symm.trans g) ?_;exact mI)]
   refine bj (fun g=>?_) fun g=>?_
   ·apply ai;exact jo H.cn l1
    exact fJ _ (by (refine aq e1 ?_;refine aq (bD ((gR r.ay .iI).symm.trans g)) ?_;rfl))
   ·apply ai;exact jo H.cn l1
    exact fJ _ (by rw [e1,cL (by refine aq ((gR r.ay .iI).symm.trans g) ?_;exact mI)])
 apply ai;exact ua TR r.ay
 refine bj (fun g=>?_) fun g=>?_<;>rw [g] at hK
 ·apply ai;exact cT H.dO
  apply ai;exact jo H.dO (big ld)
  exact tail (H.Cx _) hK
 ·exact tail H hK
theorem Ym{k:cF aN aI}{v:am}(hg:HT r.ay=ak)(hk:lA (gF r)=ac k)(hv:fD k kd=ac v)(hK:∀dR,j3 σ dR ks (v::sk) kd de→K .aS (RL h c st bB kB pc ks σ x8 (ac (.f (.ah r.ay.bH))) (ac (.f (gF r))) fX) dR):
  fI ⟨a4,C⟩ (fu 2 bP) (RL h c st bB kB pc ks σ x8 (ac (.f (.ah r.ay.bH))) (ac (.f (gF r))) fX) τ K:=by
 have t:=kx (p:=fun op=>!HT op||(((gw 2).all fun i=>!qe (2+i) op)&&(gw 8).all fun i=>!qe (5+i) op)) (by kernel_rfl) r.ay
 rw [hg] at t
 obtain ⟨t1,t2⟩:=jY.mp t
 refine pA 2 2 (by decide) t1 ?_
 apply ai;exact A6 _ r.ay
 refine ig ((C1 r.ay).trans hg) ?_
 apply ai;exact cT H.cn
 apply ai;exact Jd H.fZ hk hv
 apply ai;exact jo H.cn (by refine aq vj ?_;exact a5 ls (by decide))
 exact mG 5 8 ag t2 (hK _ (H.pg (v::sk) _ tu.symm))
theorem Yn{kI:ao am}{k:cF aN aI}{v:am}{q:aI}(lk:kd.length≤1000)(hg:r.ay.fU=ak)(hk:lA (gF r)=ac k)(hq:iA v=ac q)(hs:sk=v::kI)(hK:∀dR,j3 σ dR ks kI (hY kd k v) (de++[.bE [.ah r.ay.bH,gF r,.ah q]])→K .aS (RL h c st bB kB pc ks σ x8 (ac (.f (.ah r.ay.bH))) (ac (.f (gF r))) fX) dR):
  fI ⟨a4,C⟩ (fu 2 bP) (RL h c st bB kB pc ks σ x8 (ac (.f (.ah r.ay.bH))) (ac (.f (gF r))) fX) τ K:=by
 subst hs
 have t:=kx (p:=fun op=>!op.fU||(((gw 3).all fun i=>!qe (2+i) op)&&(gw 7).all fun i=>!qe (6+i) op)) (by kernel_rfl) r.ay
 rw [hg] at t
 obtain ⟨t1,t2⟩:=jY.mp t
 have lp:kI.length+1≤100000:=a5 ls (by decide)
 refine pA 3 2 (by decide) t1 ?_
 apply ai;exact A6 _ r.ay
 refine ig ((C8 r.ay).trans hg) ?_
 apply ai;exact p7 H.cn
 apply ai;exact A5 H.cn lp
 have H1:=H.pg kI kI.reverse ag
 apply ai;exact Vk H1.fZ hk lk
 have H2:=H1.Vj (hY kd k v)
 apply ai;exact cT H2.dO
 apply ai;exact Jd H2.fZ hk (by (rewrite [yI];refine aq (bD ag) ?_;rfl))
 apply ai;exact KU hq
 apply ai;exact jo H2.dO (a5 ld (by decide))
 exact mG 6 7 ag t2 (hK _ (H2.Cx _))
theorem Yo{v:am}{kI:ao am}(e:r.ay=.g6)(hs:sk=v::kI)(hK:∀dR,j3 σ dR ks kI kd de→K .aS (RL h c st bB kB pc ks σ x8 (ac (.f (.ah r.ay.bH))) gh fX) dR):
  fI ⟨a4,C⟩ (fu 2 bP) (RL h c st bB kB pc ks σ x8 (ac (.f (.ah r.ay.bH))) gh fX) τ K:=by
 subst hs
 refine pA 4 2 (by decide) (by refine aq e ?_;rfl) ?_
 refine ig ((gR r.ay .g6).trans (by refine aq e ?_;rfl)) ?_
 apply ai;exact p7 H.cn
 apply ai;exact A5 H.cn (a5 ls (by decide))
 exact mG 7 6 ag (by refine aq e ?_;rfl) (hK _ (H.pg kI _ ag))
theorem Yp{v:am}{kI:ao am}(e:r.ay=.mD)(hs:sk=v::kI)(hK:∀dR,j3 σ dR ks (v::v::kI) kd de→K .aS (RL h c st bB kB pc ks σ x8 (ac (.f (.ah r.ay.bH))) gh fX) dR):
  fI ⟨a4,C⟩ (fu 2 bP) (RL h c st bB kB pc ks σ x8 (ac (.f (.ah r.ay.bH))) gh fX) τ K:=by
 subst hs
 refine pA 5 2 (by decide) (by refine aq e ?_;rfl) ?_
 refine ig ((gR r.ay .mD).trans (by refine aq e ?_;rfl)) ?_
 apply ai;exact cT H.cn
 apply ai;exact OA H.cn
 apply ai;exact jo H.cn (by refine aq vj ?_;exact a5 ls (by decide))
 exact mG 8 5 ag (by refine aq e ?_;rfl) (hK _ (H.pg (v::v::kI) _ tu.symm))
theorem Vl{v u:am}{kI:ao am}(e:r.ay=.cA)(hs:sk=v::u::kI)(hK:∀dR,j3 σ dR ks (u::v::kI) kd de→K .aS (RL h c st bB kB pc ks σ x8 (ac (.f (.ah r.ay.bH))) gh fX) dR):
  fI ⟨a4,C⟩ (fu 2 bP) (RL h c st bB kB pc ks σ x8 (ac (.f (.ah r.ay.bH))) gh fX) τ K:=by
 subst hs
 refine pA 6 2 (by decide) (by refine aq e ?_;rfl) ?_
 refine ig ((gR r.ay .cA).trans (by refine aq e ?_;rfl)) ?_
 apply ai;exact cT H.cn
 apply ai;exact p7 H.cn
 apply ai;exact PZ H.cn (a5 ls (by decide))
 have H1:=H.pg (v::kI) (v::kI).reverse ag
 apply ai;exact jo H1.cn (by refine aq vj ?_;exact a5 (ou ls) (by decide))
 exact mG 9 4 ag (by refine aq e ?_;rfl) (hK _ (H1.pg (u::v::kI) _ tu.symm))
theorem P3{v:am}{kI:ao am}{q:aI}(e:r.ay=.dY)(hs:sk=v::kI)(hq:iA v=ac q)(hK:∀dw dR,dR.take σ.length=σ→K (.a9 (.f (.bE [.al (de++[.bE [.ah "leave",.ah q]]),.aG ak]))) dw dR):
  fI ⟨a4,C⟩ (fu 2 bP) (RL h c st bB kB pc ks σ x8 (ac (.f (.ah r.ay.bH))) gh fX) τ K:=by
 subst hs
 refine pA 7 2 (by decide) (by refine aq e ?_;rfl) ?_
 refine ig ((gR r.ay .dY).trans (by refine aq e ?_;rfl)) ?_
 apply ai;exact p7 H.cn
 apply ai;exact A5 H.cn (a5 ls (by decide))
 apply ai;exact KU hq
 have H1:=H.pg kI kI.reverse ag
 have add:∀x:am,sN (τ.set ks (ac (.al kI.reverse))) ak .ci (.a6 (σ.length+1)) (.f (.al [x]))=ac (.f (.al (de++[x])),τ.set ks (ac (.al kI.reverse))):=fun x=>by
  have e:mV (τ.set ks (ac (.al kI.reverse))) (.a6 (σ.length+1))=ac de:=KF H1.dO
  show (mV _ _).bind _=_
  refine aq e ?_;exact ol (by refine aq dg ?_;exact a5 (qh ld 1) (by decide))
 apply ai;exact add _
 refine aq e ?_
 exact hK _ _ H1.kR
theorem Vm(e:r.ay=.bp)(hK:∀dR,j3 σ dR ks sk kd de→K .aS (RL h c st bB kB (.ae r.t) ks σ (ac (.f (eJ r))) (ac (.f (.ah r.ay.bH))) gh fX) dR):
  fI ⟨a4,C⟩ (fu 2 bP) (RL h c st bB kB pc ks σ (ac (.f (eJ r))) (ac (.f (.ah r.ay.bH))) gh fX) τ K:=by
 refine pA 8 2 (by decide) (by refine aq e ?_;rfl) ?_
 have t:(r.ay.bH==("jump":aI))=ak:=(gR r.ay .bp).trans (by refine aq e ?_;rfl)
 refine ig t ?_
 refine ig t ?_
 rw [← fh (r:=r) (by refine aq e ?_;rfl)] at hK
 exact mG 11 2 ag (by refine aq e ?_;rfl) (hK _ H)
theorem Ke{v:am}{kI:ao am}{p:af}(e:r.ay=.eB)(hs:sk=v::kI)(hK:∀dR,j3 σ dR ks sk kd de→K .aS (RL h c st bB kB (.ae ((cE (c8 v) r.t p:af):aN)) ks σ (ac (.f (eJ r))) (ac (.f (.ah r.ay.bH))) gh fX) dR):
  fI ⟨a4,C⟩ (fu 2 bP) (RL h c st bB kB (.ae p) ks σ (ac (.f (eJ r))) (ac (.f (.ah r.ay.bH))) gh fX) τ K:=by
 subst hs
 refine pA 8 2 (by decide) (by refine aq e ?_;rfl) ?_
 refine dH ((gR r.ay .bp).trans (by refine aq e ?_;rfl)) ?_
 refine ig ((gR r.ay .eB).trans (by refine aq e ?_;rfl)) ?_
 apply ai;exact OA H.cn
 have t:(aC.f v).gT=c8 v:=by cases v<;>rfl
 refine bj (fun g=>?_) fun g=>?_<;>have g:=t.symm.trans g<;>rw [g] at hK
 ·rw [show cE ak r.t p=r.t from ag,← fh (r:=r) (by refine aq e ?_;rfl)] at hK
  exact mG 11 2 ag (by refine aq e ?_;rfl) (hK _ H)
 ·exact mG 11 2 ag (by refine aq e ?_;rfl) (hK _ H)
theorem C9{v:am}{kI:ao am}{p:af}(eC:C=vC a4 (d+1))(hb:r.ay.aV=ak)(hs:sk=v::kI)(hv:iB v=ak)(hK:∀dR,j3 σ dR ks kI kd de→K .aS (RL h c st bB kB (.ae ((cE (r.ay.eD (cS v)) r.t p:af):aN)) ks σ (ac (.f (eJ r))) (ac (.f (.ah r.ay.bH))) gh fX) dR):
  fI ⟨a4,C⟩ (fu 2 bP) (RL h c st bB kB (.ae p) ks σ (ac (.f (eJ r))) (ac (.f (.ah r.ay.bH))) gh fX) τ K:=by
 subst hs
 have t:=kx (p:=fun op=>!op.aV||(((gw 9).all fun i=>!qe (2+i) op)&&(gw 1).all fun i=>!qe (12+i) op)) (by kernel_rfl) r.ay
 rw [hb] at t
 obtain ⟨t1,t2⟩:=jY.mp t
 refine pA 9 2 (by decide) t1 ?_
 apply ai;exact iw r.ay
 refine ig hb ?_
 apply ai;exact p7 H.cn
 apply ai;exact A5 H.cn (a5 ls (by decide))
 refine pc eC (Yj hv) ?_
 have tk:(cS v==(r.ay.bH==("jumpif":aI)))=r.ay.eD (cS v):=by unfold Op.eD;rw [← gR];rfl
 have H1:=H.pg kI kI.reverse ag
 refine bj (fun g=>?_) fun g=>?_<;>have g:=tk.symm.trans g<;>rw [g] at hK
 ·rw [show cE ak r.t p=r.t from ag,← fh (r:=r) (vw hb)] at hK
  exact mG 12 1 ag t2 (hK _ H1)
 ·exact mG 12 1 ag t2 (hK _ H1)
end
end
section
open PySem
set_option linter.unusedSectionVars false
def bnd{n:af}(hn:n≤1000):v0 (.f (.ae n))=ac (ac n):=bD ⟨wA n,ni hn (by decide)⟩
def Cy{τ:an}{o:aC}{n:af}{xs:ao am}(h:yF τ o=ac (.al xs))(hl:xs.length≤1000)(hn:n≤1000):lO τ ak o (.f .aA) (.f (.ae n))=ac (.f (.al (xs.take n)),τ):=by
 unfold lO
 (refine aq (bnd hn) ?_;refine aq (show v0 (.f .aA)=ac au from ag) ?_;rewrite [ri,ri];refine aq h ?_)
 show (if xs.length≤100000 then jJ τ ak (CJ xs au (ac n)) else au)=_
 have e:CJ xs au (ac n)=xs.take n:=aaw
 exact (bD (a5 hl (by decide))).trans (by refine aq e ?_;exact ol (a5 (wx ..) (a5 hl (by decide))))
def xu{σ:an}:fg a4 σ .bN (.f (.al [])) (.f (.al []))=ac ak:=by
 show oy _ _=_
 unfold oy;rfl
def xv{σ:an}{x:am}{l:ao am}:fg a4 σ .bN (.f (.al (x::l))) (.f (.al []))=ac aF:=by
 show oy _ _=_
 unfold oy;rfl
section
variable{C:bw}{d:af}{h:Hd}{c:Cd}{st:am}{bB:av}{kB:aM aC}{ks:af}{σ τ:an}{x8 x9 gh fX:aM aC}{K:KS}{r:R}{sk:ao am}{kd:Kd}{de:ao am}
def Vn{p:af}(H:j3 σ τ ks sk kd de)(ls:sk.length≤1000)(ld:de.length≤1000)(e:r.ay=.gY ())(hk:c.aK.length≤500)(hd:∀k∈c.aK,k.bU p=ak→k.cQ≤sk.length)
  (h0:c.aK.find? (·.bU p)=au→∀dw dR,dR.take σ.length=σ→K (.a9 (.f (.bE [.al (de++[.ah "fail"]),.aG ak]))) dw dR)
  (h1:∀k,c.aK.find? (·.bU p)=ac k→∀OC dR fX,j3 σ dR OC (.ah "way"::sk.drop (sk.length-k.cQ)) kd (de++[.ah "fail"])→K .aS (RL h c st bB kB (.ae k.bC) OC σ x8 (ac (.f (.ah r.ay.bH))) gh fX) dR):
  fI ⟨a4,C⟩ (fu 2 bP) (RL h c st bB kB (.ae ((p+1:af):aN)) ks σ x8 (ac (.f (.ah r.ay.bH))) gh fX) τ K:=by
 refine pA 10 2 (by decide) (by refine aq e ?_;rfl) ?_
 refine ig ((gR r.ay (.gY ())).trans (by refine aq e ?_;rfl)) ?_
 apply ai;exact dJ hk
 refine nK nD (·.bU p) nD (fun k acc K KV g1 g2=>?_) ?_
 ·have ec:k.bU p=(dc ((k.dm:aN)<((p+1:af):aN))&&dc (((p+1:af):aN)≤(k.gx:aN))):=by
   unfold Ct.bU
   rw [wq.mpr (show (k.dm:aN)<((p+1:af):aN)↔k.dm≤p from nz.trans Nat.lt_succ_iff),wq.mpr (show ((p+1:af):aN)≤(k.gx:aN)↔p<k.gx from tC)]
  rw [ec] at g1 g2
  refine bj (fun g=>?_) fun g=>?_<;>rw [g] at g1 g2
  ·exact bj (fun g=>g1 g) fun g=>g2 g
  ·exact g2 ag
 have fl:(c.aK.filter (·.bU p)).length≤500:=a5 (wv _ _) hk
 apply ai;exact nU fl
 have H1:=H.Cx (de++[.ah "fail"])
 have en:r.ay.bH="fail":=by refine aq e ?_;rfl
 apply ai;exact cT H.dO
 apply ai;refine aq en ?_;exact jo H.dO (a5 ld (by decide))
 rw [← List.head?_filter] at h0 h1
 have hm:∀k∈c.aK.filter (·.bU p),k.cQ≤sk.length:=fun k hkm=>by obtain ⟨a,b⟩:=o5.mp hkm;exact hd k a b
 generalize c.aK.filter (·.bU p)=F at fl h0 h1 hm⊢
 induction F with
 |nil=>
  apply ai;exact xu
  apply ai;exact kP H1.dO
  exact h0 ag _ _ (uy H1.kR (fQ _))
 |cons k kr=>
  have dk:=hm k fF
  have ix:∀τ,lN a4 τ (.f (.al (nD k::kr.map nD))) (.f (.ae 0))=ac (nD k):=fun τ=>uv (k:=0) ag (by
   (refine aq o3 ?_;rw [b9]);exact a5 fl (by decide))
  apply ai;exact xv
  apply ai;exact ix _
  have ts:yF (τ.set (σ.length+1) (ac (.al (de++[.ah "fail"])))) (.a6 ks)=ac (.al sk.reverse):=BG H1.cn
  apply ai;exact Cy ts (by refine aq vj ?_;exact ls) (a5 dk ls)
  have lt:(sk.reverse.take k.cQ++[am.ah "way"]).length≤100000:=by
   refine aq dg ?_;exact a5 (qh (a5 (wx ..) (by refine aq vj ?_;exact ls)) 1) (by decide)
  apply ai;exact iD lt
  apply ai;exact ix _
  refine h1 k ag _ _ _ (H1.pQ _ _ ?_)
  (refine aq tu ?_;refine aq List.reverse_drop ?_;refine aq (show sk.length-(sk.length-k.cQ)=k.cQ from ZS dk) ?_;rfl)
def agA(eC:C=vC a4 (d+1)){aE:av}(hn:c.aa.length≤500)(hk:c.aK.length≤500){s:dN}(hr:c.aa[s.pc]? =ac r)(ok:r.bm aE=ak){o:cF (ao am) dN}(ho:eM c.aK bB s.pc r s=ac o)
   (hg:∀v∈s.cn,iB v=ak) (H:j3 σ τ ks s.cn s.fZ s.dO) (ls:s.cn.length≤1000) (ld:s.dO.length≤1000) (lk:s.fZ.length≤1000) (hd:r.ay=.gY ()→∀k∈c.aK,k.bU s.pc=ak→k.cQ≤s.cn.length) {N:bJ→an→Prop} {v:am}
   (h1:∀ds,o=.inl ds→∀dw dR,dR.take σ.length=σ→K (.a9 (.f (.bE [.al ds,.aG ak]))) dw dR)
   (h2:∀s',o=.inr s'→∀OC dR kB x8 x9 gh fX,j3 σ dR OC s'.cn s'.fZ s'.dO→N (RL h c st bB kB (.ae s'.pc) OC σ x8 x9 gh fX) dR):
   lE (RL h c st bB kB (.ae s.pc) ks σ x8 x9 gh fX) [3] aF v fun ρ=>fI ⟨a4,C⟩ bP ρ τ (lF N K):=by
 refine Yl hr hn ?_
 obtain ⟨pc,sk,kd,de⟩:=s
 refine aw fun {Z} fz=>?_
 obtain ⟨out,ha,eo⟩:=xI.mp ho
 dsimp only at hr ha hg H ls ld lk hd h1 h2 fz
 have g2:∀{x:qw}{s':dN},ac x=ac out→fJ c.aK pc r.t sk kd de x=.inr s'→∀OC dR kB x8 x9 gh fX,j3 σ dR OC s'.cn s'.fZ s'.dO→N (RL h c st bB kB (.ae s'.pc) OC σ x8 x9 gh fX) dR:=fun e k=>h2 _ (eo.symm.trans ((a7 _ (cp e)).symm.trans k))
 have g1:∀{x:qw}{ds:ao am},ac x=ac out→fJ c.aK pc r.t sk kd de x=.inl ds→∀dw dR,dR.take σ.length=σ→K (.a9 (.f (.bE [.al ds,.aG ak]))) dw dR:=fun e k=>h1 _ (eo.symm.trans ((a7 _ (cp e)).symm.trans k))
 clear h1 h2 eo
 have rk:∀{op:Op},r.ay=op→op.aO=aF→gF r=rT r:=fun e k=>P2 (e▸k)
 unfold E6 at ha
 obtain ⟨op,e⟩:∃op,r.ay=op:=⟨_,ag⟩
 rw [e] at ha
 induction op
 case dh=>
  exact fz (OB H ls ld (by refine aq e ?_;rfl) fun dR H'=>g2 ha ag _ _ _ _ _ _ _ (by
    have e2:A7 bB r=r.a:=by unfold A7 gF fa;refine aq e ?_;rfl
    rw [e2,e] at H';exact H'))
 case jR|iI|qv|wK|lQ=>exact fz (OB H ls ld (by refine aq e ?_;rfl) fun dR H'=>g2 ha ag _ _ _ _ _ _ _ (by unfold A7 at H';rw [e] at H';exact H'))
 case mL|zq|zr=>
  exact nR ha fun k hk ha=>by
   obtain ⟨w,hw,ha⟩:=xI.mp ha
   exact fz (Ym H ls ld (by refine aq e ?_;rfl) ((rk e ag).symm▸hk) hw fun dR H'=>g2 (a7 ac ha) ag _ _ _ _ _ _ _ H')
 case mM|zt|zu|zv=>
  exact fb ha fun w kI hs ha=>nR ha fun k hk ha=>by
   obtain ⟨q,hq,ha⟩:=xI.mp ha
   exact fz (Yn H ls ld lk (by refine aq e ?_;rfl) ((rk e ag).symm▸hk) hq hs fun dR H'=>g2 (a7 ac ha) ag _ _ _ _ _ _ _ (by
     rw [rk e ag] at H';exact H'))
 case g6=>exact fb ha fun w kI hs ha=>fz (Yo H ls ld e hs fun dR H'=>g2 ha ag _ _ _ _ _ _ _ H')
 case mD=>exact fb ha fun w kI hs ha=>fz (Yp H ls ld e hs fun dR H'=>g2 ha ag _ _ _ _ _ _ _ H')
 case cA=>exact fb ha fun w kI hs ha=>fb ha fun u ajr ST ha=>fz (Vl H ls ld e (hs.trans (a7 (w:: ·) ST)) fun dR H'=>g2 ha ag _ _ _ _ _ _ _ H')
 case dY=>
  exact fb ha fun w kI hs ha=>by
   obtain ⟨q,hq,ha⟩:=xI.mp ha
   exact fz (P3 H ls ld e hs hq fun dw dR ht=>g1 (a7 ac ha) ag dw dR ht)
 case bp=>exact fz (Vm H ls ld e fun dR H'=>g2 ha ag _ _ _ _ _ _ _ H')
 case eB=>exact fb ha fun w kI hs ha=>fz (Ke H ls ld e hs fun dR H'=>g2 ha ag _ _ _ _ _ _ _ (hs▸H'))
 case iU=>exact fb ha fun w kI hs ha=>fz (C9 H ls ld eC (by refine aq e ?_;rfl) hs (hg w (hs▸fF)) fun dR H'=>g2 (s':=⟨cE (r.ay.eD (cS w)) r.t (pc+1),kI,kd,de⟩) ha (by (refine aq e ?_;rw [Cb]);rfl) _ _ _ _ _ _ _ H')
 case eY=>exact fb ha fun w kI hs ha=>fz (C9 H ls ld eC (by refine aq e ?_;rfl) hs (hg w (hs▸fF)) fun dR H'=>g2 (s':=⟨cE (r.ay.eD (cS w)) r.t (pc+1),kI,kd,de⟩) ha (by (refine aq e ?_;rw [Cc]);rfl) _ _ _ _ _ _ _ H')
 case gY=>exact fz (Vn H ls ld e hk (hd e) (fun z dw dR ht=>g1 ha (a7 (Em de sk kd) z) dw dR ht) fun k z OC dR fX H'=>g2 ha (a7 (Em de sk kd) z) _ _ _ _ _ _ _ H')
end
noncomputable def Je(bB:av):Kd:=[(.inl 0,.aG bB),(.inl 1,.ae 5),(.inr "@x",.aG (!bB)),(.inr "$x",.aA)]
def KW(bB:av):IF (Je bB):=oZ.mpr ⟨⟨.aG bB,ag,ag⟩,oZ.mpr ⟨⟨.ae 5,ag,ag⟩,oZ.mpr ⟨⟨.aG (!bB),ag,ag⟩,List.forall_mem_singleton.mpr ⟨.aA,ag,ag⟩⟩⟩⟩
def Kf(es:Kd)(k:cF aN aI)(v:am):(hY es k v).length≤es.length+1:=by
 unfold hY
 split
 ·rw [b9];exact fQ _
 ·refine aq dg ?_;exact c9 _
def m5(l:ao am):Prop:=∀v∈l,nE 11 v
def FC{l l':ao am}(h:m5 l)(h':m5 l'):m5 (l++l'):=fun v hv=>(pD.mp hv).elim (h v) (h' v)
def lZ:m5 [] :=fun q9 h=>bW h hU
def zL(x:aI):m5 [.ah x] :=fun v hv=>by
 refine aq (jg.mp hv) ?_;exact fE ag
def FD{l:ao am}(h:l.all gI=ak):m5 [.bE l] :=fun v hv=>by
 refine aq (jg.mp hv) ?_;exact Cw fun x hx=>fE (ow.mp h x hx)
def Yq{v:am}{k:cF aN aI}(h:lA v=ac k):gI v=ak:=by
 cases v<;>first|rfl|exact bn h
inductive HV(s:dN):cF (ao am) dN→Prop
 |DD {pc:af} {st:ao am} {kd:Kd} {dd:aM am} (h1:st.length≤s.cn.length+1) (h2:kd.length≤s.fZ.length+1) (h4:m5 dd.toList):HV s (.inr ⟨pc,st,kd,Ms s.dO dd⟩)
 |hZ {x:am} (h:m5 [x]):HV s (.inl (s.dO++[x]))
def acJ(cn:ao am)(kd:Kd):qw→Prop
 |.aS st E7 d=>st.length≤cn.length+1∧E7.length≤kd.length+1∧m5 d.toList
 |.bp st _=>st.length≤cn.length+1
 |.hZ d=>m5 [d]
 |.gY=>kD
section
variable{bB:av}{r:R}{cn:ao am}{kd:Kd}{out:qw}
def Yr(h:AP r cn kd=ac out):acJ cn kd out:=SH h fun v st x q e hx hq=>⟨e▸ti (fQ _),Kf ..,FD (show (ak&&(gI (rT r)&&(ak&&ak)))=ak by refine aq (Yq hx) ?_;rfl)⟩
def Ys(h:Dx r cn kd=ac out):acJ cn kd out:=SG h fun x v q9 q9=>⟨c9 _,fQ _,lZ⟩
def Yt:E6 bB r cn kd=ac out→acJ cn kd out:=by
 refine aw fun kz=>?_
 obtain ⟨op,t,a,b,c,l⟩:=r
 refine kz ?_;try clear kz
 induction op
 case mL|zq|zr=>exact Ys
 case mM|zt|zu|zv=>exact Yr
 case mD=>exact fun h=>fb h fun v st e h=>c5 h ⟨e▸c9 _,fQ _,lZ⟩
 case g6=>exact fun h=>fb h fun v st e h=>c5 h ⟨e▸ti (fQ _),fQ _,lZ⟩
 case cA=>exact fun h=>fb h fun v st e h=>fb h fun u Tk e' h=>c5 h ⟨by (refine aq e ?_;refine aq e' ?_);exact fQ _,fQ _,lZ⟩
 case iU|eY=>exact fun h=>fb h fun v st e h=>c5 h (show st.length≤cn.length+1 from e▸ti (fQ _))
 case eB=>exact fun h=>fb h fun v st e h=>c5 h (show (v::st).length≤cn.length+1 from e▸fQ _)
 case bp=>exact fun h=>c5 h (fQ cn.length)
 case dY=>exact fun h=>fb h fun v st e h=>ga h fun q q9=>FD ag
 case gY=>exact fun h=>c5 h di
 case qv|wK|lQ=>exact fun h=>c5 h ⟨c9 _,fQ _,zL _⟩
 all_goals exact fun h=>c5 h ⟨c9 _,fQ _,lZ⟩
end
def abX{cs:ao Ct}{bB:av}{p:af}{r:R}{s:dN}{o:cF (ao am) dN}(h:eM cs bB p r s=ac o):HV s o:=ga (P:=HV s) h fun x hx=>by
 have k:=Yt hx
 induction x with
 |aS st kd d=>exact .DD k.1 k.2.1 k.2.2
 |bp st b=>exact .DD (dd:=au) k (fQ _) lZ
 |hZ d=>exact .hZ k
 |gY=>exact qV (P:=HV s) (fun q9=>.hZ (zL _)) fun c q9=>.DD (dd:=ac (.ah "fail")) (jG (by refine aq DX ?_;exact DP ..)) (fQ _) (zL _)
def P4{ds:ao am}(h:m5 ds):∀{d:aM am},m5 d.toList→m5 (Ms ds d)
 |none,_=>h
 |some d,k=>FC h k
def Jf(ds:ao am)(d:aM am):(Ms ds d).length≤ds.length+1:=by
 induction d
 ·exact fQ _
 ·exact lm (dg ..)
def fit{a b m n:af}(h:a≤b+1)(l:b+(m+1)≤n):a+m≤n:=a5 (qh h m) (a5 (lm (DL ..)) l)
def Jg{X:Nc}{bB:av}:∀{n:af}{s:dN}{x:ao am×av},nC X bB n s=ac x→m5 s.dO→m5 x.1∧x.1.length≤s.dO.length+n:=by
 intro n
 induction n with
 |zero=>
  intro s x h hs
  exact cp h▸⟨hs,c9 _⟩
 |succ n ih=>
  intro s x h hs
  exact BZ h fun q r o q9 q9 ho h1 h2=>by
   cases abX ho with
   |hZ hx=>exact h1 _ ag▸⟨FC hs hx,by refine aq dg ?_;exact kN (jG (fC n)) _⟩
   |DD k1 k2 k4=>
    have ih:=ih (h2 _ ag) (P4 hs k4)
    exact ⟨ih.1,a5 ih.2 (fit (Jf ..) (c9 _))⟩
section
variable{d:af}
def Vo{C:bw}(eC:C=vC a4 (d+1))(h:Hd){c:Cd}{aE:av}(hn:c.aa.length≤500)(hk:c.aK.length≤500){H:af→af}(Ty:dG c.nc H)(ok:fq c.nc aE){bB:av}{st:am}{σ:an}{x:ao am×av}{K:KS}
  (h1:∀dw dR,dR.take σ.length=σ→x.2=ak→K (.a9 (.f (.bE [.al x.1,.aG ak]))) dw dR) (h2:∀s ks τ kB x8 x9 gh fX,j3 σ τ ks s.cn s.fZ s.dO→x=(s.dO,aF)→K .aS (RL h c st bB kB (.ae (s:dN).pc) ks σ x8 x9 gh fX) τ) (n:af):
  ∀(items:ao am){s:dN}{ks:af}{τ:an}{kB x8 x9 gh fX:aM aC},Ii c.nc H s→j3 σ τ ks s.cn s.fZ s.dO→s.cn.length+items.length≤n→s.dO.length+items.length≤n→s.fZ.length+items.length≤n→n≤1000→nC c.nc bB items.length s=ac x→
  lP (fI ⟨a4,C⟩ bP) [3] aF K items (RL h c st bB kB (.ae s.pc) ks σ x8 x9 gh fX) τ:=by
 intro items
 induction items with
 |nil=>
  intro s ks τ kB x8 x9 gh fX S HR l1 l2 l3 hN P5
  exact h2 s ks τ _ _ _ _ _ HR (cp P5).symm
 |cons i items ih=>
  intro s ks τ kB x8 x9 gh fX S HR l1 l2 l3 hN P5
  have ku:s.pc<c.aa.length:=by have:=Ty.mW _ S.pK;unfold Cd.nc at this;rw [b9] at this;exact this
  have er:c.aa[s.pc]? =ac c.aa[s.pc] :=ed ku
  have er':=cP.mpr er
  refine aw fun kz=>?_
  obtain ⟨o,ho,hs⟩:=E8 Ty ok (bB:=bB) S er'
  refine kz ?_;try clear kz
  have T:=Ty.cq _ _ S.pK er'
  rw [o3,vr er',ho] at P5
  rw [o3] at l1 l2 l3
  have sf:=abX ho
  refine agA (N:=lP (fI ⟨a4,C⟩ bP) [3] aF K items) eC hn hk er (ok _ _ er') ho S.gZ HR (a5 (ff ..) (a5 l1 hN)) (a5 (ff ..) (a5 l2 hN)) (a5 (ff ..) (a5 l3 hN)) (fun e k hk1 hk2=>by refine aq S.bh ?_;exact T.gY e k hk1 hk2) (fun ds e dw dR ht=>?_) fun s' e OC dR kB x8 x9 gh fX H'=>?_
  ·subst e
   obtain rfl:=cp P5
   exact h1 dw dR ht ag
  ·subst e
   have g:s'.cn.length≤s.cn.length+1∧s'.dO.length≤s.dO.length+1∧s'.fZ.length≤s.fZ.length+1:=by
    cases sf with|DD h1 h2 h4=>exact ⟨h1,Jf ..,h2⟩
   exact ih (hs s' ag) H' (fit g.1 l1) (fit g.2.1 l2) (fit g.2.2 l3) hN P5
def acK(n:aN):bK:=.O (.dS [4,5,6,7] (.O (.az 1) (.O (.al aF .ab) (.O (.al aF .ab) (.O (.dK (.O (.ae 0) (.O (.az 2) (.O (.ae 1) (.O (.ae 5) (.O (.ah "@x") (.O (.g8 (.az 2)) (.O (.ah "$x") (.O .aA .ab))))))))) .ab)))))
 (.O (.fY [3] aF (.gD (.ae n)) bP) (.O (.a9 (.bE (.O (.tG (.az 6)) (.O (.aG aF) .ab)))) .ab))
def MG(n:aN):cH:={CK with bA:=.bf (acK n)}
def agB{C:bw}(e:C=vC a4 (d+1))(h:Hd){c:Cd}{aE:av}(hn:c.aa.length≤500)(hk:c.aK.length≤500){H:af→af}(Ty:dG c.nc H)(ok:fq c.nc aE){p:af}(hp:p∈c.aZ)(bB:av)(n:af)(n5:n≤500){x:ao am×av}(hx:nC c.nc bB n ⟨p,[],Je bB,[]⟩=ac x){σ:an}{Q:KE}(hq:Q (.f (.bE [.al x.1,.aG x.2])) σ):
  E5 ⟨a4,C⟩ (MG n) (acK n) [.f (aU h c),.f (.ae p),.f (.aG bB)] σ Q:=by
 have S0:Ii c.nc H ⟨p,[],Je bB,[]⟩:=⟨.cR hp,(Ty.cR p hp).symm,(fun v hv=>bW hv hU),KW bB⟩
 apply ai;exact iD (fC _)
 apply ai;exact uU (fC _)
 apply ai;exact jq (a5 n5 (by decide))
 have eh:(σ++[ac (cD.al []),ac (.al [])])++[ac (.dK (Je bB))] =σ++[ac (.al []),ac (.al []),ac (.dK (Je bB))] :=qi ..
 have el:(σ++[ac (cD.al []),ac (.al [])]).length=σ.length+2:=by refine aq dg ?_;rfl
 have hx':nC c.nc bB (cU n).length ⟨p,[],Je bB,[]⟩=ac x:=by rw [nV];exact hx
 have rl:=nV n
 have go:=Vo (K:=Ih (fI ⟨a4,C⟩ (.O (.a9 (.bE (.O (.tG (.az 6)) (.O (.aG aF) .ab)))) .ab)) (oA (MG n).bF σ.length Q)) (x:=x) (st:=.ae p) (σ:=σ) (bB:=bB) e h hn hk Ty ok (fun dw dR ht hb=>b8 (Q:=Q) (by rw [hb] at hq;exact hq) ht) (fun s ks τ kB x8 x9 gh fX HR hx=>by
  subst hx
  apply ai;exact kP HR.dO
  exact b8 (Q:=Q) hq (uy HR.kR (fQ _))) (4+n) (cU n) (s:=⟨p,[],Je bB,[]⟩) (ks:=σ.length) (τ:=σ++[ac (.al []),ac (.al []),ac (.dK (Je bB))]) (kB:=au) (x8:=au) (x9:=au) (gh:=au) (fX:=au) S0 ⟨dP _ _ _,mZ _ _ _ _,Ep _ _ _ _ _,kY _ _,c9 _,nv (je _),nv (G6 (by decide))⟩ (by refine aq rl ?_;exact qh (fC 4) n) (by refine aq rl ?_;exact qh (fC 4) n) (by refine aq rl ?_;exact c9 _) (by lia) hx'
 have go2:∀(τ:an)(k:af),τ=σ++[ac (.al []),ac (.al []),ac (.dK (Je bB))] →k=σ.length+2→lP (fI ⟨a4,C⟩ bP) [3] aF (Ih (fI ⟨a4,C⟩ (.O (.a9 (.bE (.O (.tG (.az 6)) (.O (.aG aF) .ab)))) .ab)) (oA (MG n).bF σ.length Q)) (cU n) [ac (.f (aU h c)),ac (.f (.ae p)),ac (.f (.aG bB)),au,ac (.f (.ae p)),ac (.a6 σ.length),ac (.a6 (σ.length+1)),ac (.a6 k),au,au,au,au,au] τ:=fun τ k e1 e2=>by
  subst e1 e2;exact go
 exact go2 _ _ eh el
def abY(h:Hd){c:Cd}{aE:av}(hn:c.aa.length≤500)(hk:c.aK.length≤500){H:af→af}(Ty:dG c.nc H)(ok:fq c.nc aE){p:af}(hp:p∈c.aZ)(bB:av):
  ∃x,nC c.nc bB 26 ⟨p,[],Je bB,[]⟩=ac x∧PC (vC a4 (d+2)) 61 [.f (aU h c),.f (.ae p),.f (.aG bB)] (.bE [.al x.1,.aG x.2]):=by
 have S0:Ii c.nc H ⟨p,[],Je bB,[]⟩:=⟨.cR hp,(Ty.cR p hp).symm,(fun v hv=>bW hv hU),KW bB⟩
 obtain ⟨x,hx⟩:=B7 Ty ok (bB:=bB) 26 S0
 exact ⟨x,hx,pf (F:=MG 26) (b:=acK 26) ag ag ag ag fun C e σ Q hq=>agB e h hn hk Ty ok hp bB 26 (by decide) hx hq⟩
end
end
section
open PySem
def GL{σ:an}{l:ao am}(h:m5 l):fg a4 σ .ne (.f (.al l)) (.f (.al l))=ac aF:=by
 show (oy (.al l) (.al l)).map _=_
 unfold oy
 refine aq (show qs nJ (.al l) (.al l)=ac ak from lY h) ?_;rfl
section
variable{d:af}
def FE{C:bw}(e:C=vC a4 (d+2))(h h':Hd){c c':Cd}{aE:av}(hn:c.aa.length≤500)(hk:c.aK.length≤500)(m4:c'.aa.length≤500)(xw:c'.aK.length≤500)(sH:c'.aZ.length≤500)(ok:gN c aE)(tJ:gN c' aE)(B:fK c.nc c'.nc)
  {i p q:af} (hp:c.aZ[i]? =ac p) (hq:c'.aZ[i]? =ac q) (bB:av) {σ:an} {x5 x6 x7 x8:aM aC} {K:KS} (hK:∀x5 x6 x7 x8,K .aS [ac (.f (aU h c)),ac (.f (aU h' c')),ac (.f (.ae i)),ac (.f (.ae p)),ac (.f (.aG bB)),x5,x6,x7,x8] σ):
  fI ⟨a4,C⟩ pI [ac (.f (aU h c)),ac (.f (aU h' c')),ac (.f (.ae i)),ac (.f (.ae p)),ac (.f (.aG bB)),x5,x6,x7,x8] σ K:=by
 refine aw fun kz=>?_
 obtain ⟨H,Ty⟩:=ok.ie
 obtain ⟨H',wX⟩:=tJ.ie
 obtain ⟨r1,hr1,e1⟩:=abY (d:=d) h hn hk Ty ok.bm (gM hp) bB
 obtain ⟨r2,hr2,e2⟩:=abY (d:=d) h' m4 xw wX tJ.bm (gM hq) bB
 obtain ⟨y2,hy2,le⟩:=B.2 i p q hp hq bB (Je bB) 26 r1 (KW bB) hr1
 obtain rfl:y2=r2:=cp (hy2.symm.trans hr2)
 obtain ⟨q1,q2⟩:=Jg hr1 lZ
 obtain ⟨q3,q4⟩:=Jg hr2 lZ
 refine kz ?_;try clear kz
 rw [List.length_nil,nu] at q2 q4
 have tk:y2.1.take r1.1.length=r1.1:=(List.prefix_iff_eq_take.mp le.1).symm
 have le2:=le.2
 refine pc e e1 ?_
 apply ai;exact iJ (f:=e7) hq sH
 refine pc e e2 ?_
 generalize r1.1=D at q1 q2 tk le2⊢
 generalize r1.2=b at le2⊢
 generalize y2.1=D2 at q3 q4 tk le2⊢
 generalize y2.2=b2 at le2⊢
 apply ai;exact Cu (a5 q2 (by decide))
 have sl:∀σ,lO σ ak (.f (.al D2)) (.f .aA) (.f (.ae D.length))=ac (.f (.al D),σ):=fun σ=>by
  (refine aq (Cy (xs:=D2) ag (a5 q4 (by decide)) (a5 q2 (by decide))) ?_;refine aq tk ?_;rfl)
 apply ai;exact sl _
 apply ai;exact GL q1
 induction b with
 |false=>exact hK _ _ _ _
 |true=>
  obtain ⟨z1,z2⟩:=le2 ag
  (refine aq z1 ?_;refine aq z2 ?_)
  apply ai;exact GL q1
  exact hK _ _ _ _
def Af(h h':Hd){c c':Cd}{aE:av}(hn:c.aa.length≤500)(hk:c.aK.length≤500)(m4:c'.aa.length≤500)(xw:c'.aK.length≤500)(hs:c.aZ.length≤500)(ok:gN c aE)(tJ:gN c' aE)(B:fK c.nc c'.nc):
  PC (vC a4 (d+3)) 62 [.f (aU h c),.f (aU h' c')] (.aG ak):=pf ag ag ag ag fun C e σ Q hq=>by
 have bl:c.aZ.length=c'.aZ.length:=B.1
 have sH:c'.aZ.length≤500:=bl▸hs
 apply ai;exact eS (f:=e7) hs
 apply ai;exact eS (f:=e7) sH
 refine dH (by (refine aq bl ?_;refine aq (show ((c'.aZ.length:aN)==(c'.aZ.length:aN))=ak from ug _) ?_);rfl) ?_
 apply ai;exact qd (f:=e7) hs
 refine AW (fun ρ bS=>∃a b x y z u v,ρ=[ac (.f (aU h c)),ac (.f (aU h' c')),a,b,x,y,z,u,v] ∧bS=σ) (fun w ρ bS N hw hI hN=>?_) ⟨_,_,_,_,_,_,_,ag,ag⟩ fun ρ bS hI=>?_
 ·refine aw fun kz=>?_
  obtain ⟨a,b,x,y,z,u,v,rfl,rfl⟩:=hI
  obtain ⟨i,p,hp,rfl⟩:=IV (e:=e7) hw
  refine kz ?_;try clear kz
  have hq2:c'.aZ[i]? =ac (c'.aZ[i]'(bl▸(fM.mp hp).1)):=ed _
  refine FE e h h' hn hk m4 xw sH ok tJ B hp hq2 aF fun x5 x6 x7 x8=>?_
  refine FE e h h' hn hk m4 xw sH ok tJ B hp hq2 ak fun x5 x6 x7 x8=>?_
  exact hN _ _ ⟨_,_,_,_,_,_,_,ag,ag⟩
 ·refine aw fun kz=>?_
  obtain ⟨a,b,x,y,z,u,v,rfl,rfl⟩:=hI
  refine kz ?_;try clear kz
  exact b8 (Q:=Q) hq eG
end
noncomputable def DE:Op→ao aI
 |.dh=>["v"] |.qv=>["t"] |.mL=>["c","c"] |.mM=>["c","c"] |.zq|.zt|.zr|.zu|.zv|.wK=>["n"] |.bp|.iU|.eY|.eB=>["p"] |.lQ=>["c"] |.gY _=>["n","t"]
 |_=>[]
section
variable{d:af}{σ:an}
def agC(op:Op):lN a4 σ (.f (.rx 0)) (.f (.ah op.bH))=ac (.bE [.ae op.bO,.ae op.fW]):=by
 induction op<;>kernel_rfl
def Vp(r:R):PC (vC a4 (d+1)) 6 [.f (eJ r)] (.bE [.ae r.ay.bO,.ae r.ay.fW]):=pf ag ag ag ag fun C e σ Q hq=>by
 apply ai;exact agC r.ay
 exact b8 (Q:=Q) hq eG
def xx(i:aN):PC (vC a4 (d+1)) 7 [.f (.ae i)] (.aG ak):=pf ag ag ag ag fun C e σ Q hq=>b8 (Q:=Q) hq eG
def GM{r v:am}{l:aI}(h:∀(σ:an)(Q:KE),vC a4 (d+2) 8 [.f r,.f (.ah l),.f v] σ Q=Q (.f (.aG ak)) (σ.take σ.length)):PC (vC a4 (d+2)) 8 [.f r,.f (.ah l),.f v] (.aG ak):=⟨fun σ Q hq=>by
 (rewrite [h];refine aq eG ?_);exact hq⟩
def abZ(r:am)(x:aI):PC (vC a4 (d+2)) 8 [.f r,.f (.ah "n"),.f (.ah x)] (.aG ak):=GM (by intro σ Q;kernel_rfl)
def ab0(r:am)(x:aI):PC (vC a4 (d+2)) 8 [.f r,.f (.ah "t"),.f (.ah x)] (.aG ak):=GM (by intro σ Q;kernel_rfl)
def agD(r v:am):PC (vC a4 (d+2)) 8 [.f r,.f (.ah "v"),.f v] (.aG ak):=GM (by intro σ Q;kernel_rfl)
def ab1{r:am}{i:af}{x:aI}(h:∀(σ:an)(Q:KE),vC a4 (d+2) 8 [.f r,.f (.ah x),.f (.ae i)] σ Q=Q (.f (.aG (dc (0≤(i:aN))))) ((σ.take σ.length).take σ.length)):PC (vC a4 (d+2)) 8 [.f r,.f (.ah x),.f (.ae i)] (.aG ak):=⟨fun σ Q hq=>by
 (rewrite [h];refine aq eG ?_;refine aq eG ?_;refine aq (jx (wA i)) ?_);exact hq⟩
def HW(r:am)(i:af):PC (vC a4 (d+2)) 8 [.f r,.f (.ah "c"),.f (.ae i)] (.aG ak):=ab1 (by intro σ Q;kernel_rfl)
def agE(r:am)(i:af):PC (vC a4 (d+2)) 8 [.f r,.f (.ah "p"),.f (.ae i)] (.aG ak):=ab1 (by intro σ Q;kernel_rfl)
def MH(d:af)(r:R)(l:ao aI)(v:ao am):Prop:=∀(i:af)(x:aI),l[i]? =ac x→∃w,v[i]? =ac w∧PC (vC a4 (d+2)) 8 [.f (eJ r),.f (.ah x),.f w] (.aG ak)
def MH.ab{r:R}{v:ao am}:MH d r [] v:=fun i x h=>bn h
def MH.O{r:R}{x:aI}{l:ao aI}{w:am}{v:ao am}(h:PC (vC a4 (d+2)) 8 [.f (eJ r),.f (.ah x),.f w] (.aG ak))(t:MH d r l v):MH d r (x::l) (w::v):=fun i y e=>match i,e with
 | 0,e=>⟨w,ag,cp e▸h⟩
 |i+1,e=>t i y e
def adY{aE:av}{r:R}(h:r.bm aE=ak):MH d r (DE r.ay) [fa r,r.b,r.c] ∧∀v∈([fa r,r.b,r.c] :ao am).drop (DE r.ay).length,v=.aA:=by
 unfold R.bm at h
 have nj:r.ay.aO=aF→fa r=r.a:=fun z=>by unfold fa;rw [cL (by refine aq z ?_;exact mI)]
 have n2:∀{b c:am},c8 b=ak→c8 c=ak→∀v∈ [b,c],v=.aA:=fun hb hc v hv=>by
  rcases eH.mp hv with rfl|hv
  ·exact jz hb
  ·exact jz (jg.mp hv▸hc)
 have n1:∀{c:am},c8 c=ak→∀v∈ [c],v=.aA:=fun hc v hv=>jz (jg.mp hv▸hc)
 have n3:∀{a b c:am},c8 a=ak→c8 b=ak→c8 c=ak→∀v∈ [a,b,c],v=.aA:=fun ha hb hc v hv=>by
  rcases eH.mp hv with rfl|hv
  ·exact jz ha
  ·exact n2 hb hc v hv
 obtain ⟨op,e⟩:∃op,r.ay=op:=⟨_,ag⟩
 rw [e] at h nj⊢
 have xV:∀{a b c:av},(a&&b&&c)=ak→a=ak∧b=ak∧c=ak:=fun {a b c} h=>by
  induction a<;>induction b<;>induction c<;>first|exact ⟨ag,ag,ag⟩|exact cG h
 have ul:∀{a b c d:av},(a&&b&&c&&d)=ak→a=ak∧b=ak∧c=ak∧d=ak:=fun {a b c d} h=>by
  induction a<;>induction b<;>induction c<;>induction d<;>first|exact ⟨ag,ag,ag,ag⟩|exact cG h
 induction op
 case dh=>obtain ⟨h1,h2,h3⟩:=xV h;exact ⟨.O (agD _ _) .ab,n2 h2 h3⟩
 case qv=>
  refine aw fun kz=>?_
  obtain ⟨h1,h2,h3⟩:=xV h
  refine kz ?_;try clear kz
  refine aq (nj ag) ?_
  rcases qS.mp h1 with h1|h1<;>refine aq (lR h1) ?_<;>exact ⟨.O (ab0 _ _) .ab,n2 h2 h3⟩
 case zq|zt|zr|zu|zv|wK=>
  refine aw fun kz=>?_
  obtain ⟨h1,h2,h3⟩:=xV h
  refine kz ?_;try clear kz
  (refine aq (nj ag) ?_;refine aq (lR h1) ?_)
  exact ⟨.O (abZ _ _) .ab,n2 h2 h3⟩
 case bp|iU|eY|eB=>
  refine aw fun kz=>?_
  obtain ⟨h1,h2,h3⟩:=xV h
  refine kz ?_;try clear kz
  rw [fh (r:=r) (by refine aq e ?_;rfl)]
  exact ⟨.O (agE _ _) .ab,n2 h2 h3⟩
 case lQ=>
  refine aw fun kz=>?_
  obtain ⟨_,h1,h2,h3⟩:=ul h
  refine kz ?_;try clear kz
  (refine aq (nj ag) ?_;refine aq (pJ h1) ?_)
  exact ⟨.O (HW _ 0) .ab,n2 h2 h3⟩
 case mL|mM=>
  refine aw fun kz=>?_
  obtain ⟨h1,h2,h3⟩:=xV h
  refine kz ?_;try clear kz
  (refine aq (nj ag) ?_;refine aq (pJ h1) ?_)
  rcases xN h2 with z|z<;>refine aq z ?_
  ·exact ⟨.O (HW _ 0) (.O (HW _ 0) .ab),n1 h3⟩
  ·exact ⟨.O (HW _ 0) (.O (HW _ 1) .ab),n1 h3⟩
 case gY=>
  refine aw fun kz=>?_
  obtain ⟨h1,h2,h3⟩:=xV h
  refine kz ?_;try clear kz
  (refine aq (nj ag) ?_;refine aq (lR h1) ?_;refine aq (lR h2) ?_)
  exact ⟨.O (abZ _ _) (.O (ab0 _ _) .ab),n1 h3⟩
 all_goals (obtain ⟨h1,h2,h3⟩:=xV h;refine aq (nj ag) ?_;exact ⟨.ab,n3 h1 h2 h3⟩)
end
structure RC(C:bw)(k:af)(args:ao aC)(x:am)(σ bS:an):Prop where
 eu:∀Q:KE,Q (.f x) bS→C k args σ Q
def rc{C C':bw}{k:af}{args:ao aC}{x:am}{σ bS:an}(e:C=C')(h:RC C' k args x σ bS){Q:KE}(q:Q (.f x) bS):C k args σ Q:=e▸h.eu Q q
def rf{d k:af}{args as:ao aC}{F:cH}{b:bK}{x:am}{σ bS:an}(h1:a4.tZ[k]? =ac F)(h2:F.bA=.bf b)(h3:o7 F args=ac as)(h4:lx k 1000=ak)(h:∀(C:bw),C=vC a4 d→∀(Q:KE),Q (.f x) bS→E5 ⟨a4,C⟩ F b as σ Q):RC (vC a4 (d+1)) k args x σ bS:=
 ⟨fun Q q=>MD (fun C e=>h C e Q q) h1 h2 h3 h4⟩
structure Ey(σ:an)(i:af)(h:Hd)(c:Cd)(cC:ao am)(jd jw:af):Prop where
 kS:Ej a4 σ (.fN i) "code"=ac (.f (aU h c))
 cC:Ej a4 σ (.fN i) "seen"=ac (.f (.al cC))
 FF:Ej a4 σ (.fN i) "depths"=ac (.a6 jd)
 GN:Ej a4 σ (.fN i) "waiting"=ac (.a6 jw)
def Ey.eu{σ:an}{i jd jw:af}{h:Hd}{c:Cd}{cC:ao am}(e:σ[i]? =ac (ac (.lM 3 [.f (aU h c),.f (.al cC),.a6 jd,.a6 jw]))):Ey σ i h c cC jd jw:=by
 have e:=AY e
 constructor<;>exact a7 (lj · _) e
def acL(op:Op):am:=match a4.n7[1]? with
 |some es=>(es.lookup op.bH).getD (.ah "")
 |none=>.aA
section
variable{d:af}{σ:an}{fz:av}
def Nt(op:Op):fg a4 σ .gm (.f (.ah op.bH)) (.f (.rx 0))=ac aF:=by induction op<;>kernel_rfl
def Vq(op:Op):Bw ak (.f (acL op))=ac (eO ((DE op).map .ah)):=by induction op<;>kernel_rfl
def Yu(op:Op):eP σ fz 0 [.f (acL op)] =ac (.f (.ae (DE op).length),σ):=by induction op<;>kernel_rfl
def Vr(op:Op):(DE op).length≤2:=by induction op<;>exact dT ag
def A8:fg a4 σ .ne (.f (.al [])) (.f (.al []))=ac aF:=by
 show (oy _ _).map _=_
 unfold oy;rfl
def P6{g:bJ→an→ao am→KL→Prop}{xs:ao af}{tp:av}{ρ:bJ}{acc:ao am}(step:∀K:KL,K acc σ→lE ρ xs tp .aA fun dw=>g dw σ acc K){K:KL}:∀{l:ao am},(∀v∈l,v=.aA)→K acc σ→rB g ρ xs tp l σ acc K:=by
 intro l
 induction l with
 |nil=>
  intro _ h
  exact h
 |cons v vs ih=>
  intro hv h
  exact hv v fF▸step _ (ih (fun u hu=>hv u (jf _ hu)) h)
def adZ{aE:av}{r:R}(h:r.bm aE=ak){hd:Hd}{c:Cd}{i jd jw p:af}{cC:ao am}(K:Ey σ i hd c cC jd jw)(hn:c.aa.length≤500)(hj:r.ay.aO=ak→r.t<c.aa.length):RC (vC a4 (d+3)) 12 [.fN i,.f (.ae p),.f (eJ r)] .aA σ σ:=rf ag ag ag ag fun C e Q hq=>by
 obtain ⟨o1,o2⟩:=adY (d:=d) h
 refine dH (cp (Nt (σ:=σ) r.ay)) ?_
 apply ai;exact Vq r.ay
 refine KB (fun q9=>σ) (fun _ (g:aM aC×aM aC)=>[ac (.fN i),ac (.f (.ae p)),ac (.f (eJ r)),ac (.f (acL r.ay)),ac (.f (.bE [fa r,r.b,r.c])),g.1,g.2,au]) (g:=(au,au)) (fun j l g N hl hN=>?_) fun g=>?_
 ·refine aw fun kz=>?_
  obtain ⟨w,hw,ho⟩:=o1 j l hl
  refine kz ?_;try clear kz
  apply ai;exact On hw (dT ag)
  exact pc e ho (hN (_,_))
 have l3:=a5 (Vr r.ay) (dT ag:2≤3)
 have sl:lO σ ak (.f (.bE [fa r,r.b,r.c])) (.f (.ae (DE r.ay).length)) (.f .aA)=ac (.f (.bE ([fa r,r.b,r.c].drop (DE r.ay).length)),σ):=by
  unfold lO
  (refine aq (bnd (a5 l3 (dT ag))) ?_;refine aq (show v0 (.f .aA)=ac au from ag) ?_;rw [ri,ri])
  exact bD ⟨l3,dT ag⟩
 apply ai;exact Yu r.ay
 apply ai;exact sl
 have rl:([fa r,r.b,r.c].drop (DE r.ay).length).length≤3:=by refine aq DX ?_;exact DP _ _
 generalize [fa r,r.b,r.c].drop (DE r.ay).length=rest at o2 rl⊢
 apply ai;exact KC (a5 rl (dT ag))
 refine P6 (fun K q=>?_) o2 ?_
 ·exact q
 apply ai;exact A8
 apply ai;exact rG r.ay
 refine bj (fun g=>?_) fun g=>?_
 ·apply ai;exact K.kS
  apply ai;exact eS hn
  have ge:fg a4 σ .pH (.f (fa r)) (.f (.ae c.aa.length))=ac aF:=by
   refine aq (fh g) ?_
   exact a7 ac (wu (Mh.mpr (nz.mpr (hj g))))
  apply ai;exact ge
  exact b8 (Q:=Q) hq eG
 ·refine dH g ?_
  exact b8 (Q:=Q) hq eG
end
section
variable{d:af}{σ:an}
def Yv{aE:av}{r:R}(h:r.bm aE=ak)(ho:r.ay=.mL∨r.ay=.mM){hd:Hd}{c:Cd}{i jd jw p:af}{cC:ao am}(K:Ey σ i hd c (aU hd c::cC) jd jw)(hs:cC.length≤5){x y:am}(P7:hd.gE=.al [x,y]):RC (vC a4 (d+1)) 13 [.fN i,.f (.ae p),.f (eJ r)] .aA σ σ:=rf ag ag ag ag fun C e Q hq=>by
 have a0:fa r=.ae 0∧wL r.b=ak:=by
  unfold R.bm at h
  unfold fa
  rcases ho with e|e<;>rw [e] at h⊢ <;>obtain ⟨h,h3⟩:=jY.mp h<;>obtain ⟨h1,h2⟩:=jY.mp h<;>exact ⟨pJ h1,h2⟩
 obtain ⟨ha,hb⟩:=a0
 have ls:(aU hd c::cC).length≤100000:=jG (a5 hs (dT ag))
 have g1:fg a4 σ .pH (.f (fa r)) (.f (.ae (aU hd c::cC).length))=ac aF:=by
  refine aq ha ?_
  exact a7 ac (wu (Mh.mpr (nz.mpr (qI cC.length))))
 have ix:lN a4 σ (.f (.al (aU hd c::cC))) (.f (fa r))=ac (aU hd c):=by
  refine aq ha ?_;exact uv (k:=0) ag ls
 have g2:fg a4 σ .pH (.f r.b) (.f (.ae 2))=ac aF:=by rcases xN hb with z|z<;>refine aq z ?_<;>rfl
 have g3:eP σ ak 0 [.f hd.gE] =ac (.f (.ae 2),σ):=by refine aq P7 ?_;rfl
 apply ai;exact K.cC
 apply ai;exact Cu ls
 apply ai;exact g1
 apply ai;exact K.cC
 apply ai;exact ix
 apply ai;exact g3
 apply ai;exact g2
 exact b8 (Q:=Q) hq eG
def FG{r v:am}(h:∀(σ:an)(Q:KE),vC a4 (d+1) 9 [.f r] σ Q=Q (.f v) (σ.take σ.length)):PC (vC a4 (d+1)) 9 [.f r] v:=⟨fun σ Q hq=>by
 (rewrite [h];refine aq eG ?_);exact hq⟩
def Yw{r:R}(h:r.ay≠ .lQ):PC (vC a4 (d+1)) 9 [.f (eJ r)] .aA:=by
 refine aw fun kz=>?_
 obtain ⟨op,t,a,b,c,line⟩:=r
 refine kz ?_;try clear kz
 induction op<;>first|exact bW ag h|exact FG (by intro σ Q;kernel_rfl)
def P8{r:R}(h:r.ay=.lQ):PC (vC a4 (d+1)) 9 [.f (eJ r)] (.bE [r.a,.ah "block"]):=by
 obtain ⟨op,t,a,b,c,line⟩:=r
 dsimp only at h
 subst h
 exact FG (by intro σ Q;kernel_rfl)
def HX{aE:av}{r:R}(h:r.bm aE=ak){hd:Hd}{c:Cd}{i jd jw p:af}{cC:ao am}(K:Ey σ i hd c cC jd jw){c6:ao sG}(hk:hd.ft=c6.map d0)(hl:c6.length≤5)(hc:aE=ak→c6≠ [])(hb:∀k∈c6,k.1.cx=.ah "block"):RC (vC a4 (d+2)) 14 [.fN i,.f (.ae p),.f (eJ r)] .aA σ σ:=rf ag ag ag ag fun C e Q hq=>by
 by_cases eq:r.ay=.lQ
 ·refine pc e (P8 eq) ?_
  have a0:aE=ak∧r.a=.ae 0:=by
   unfold R.bm at h
   rw [eq] at h
   have ⟨h,_⟩:=jY.mp h
   have ⟨h,_⟩:=jY.mp h
   have ⟨h1,h2⟩:=jY.mp h
   exact ⟨h1,pJ h2⟩
  refine aw fun kz=>?_
  obtain ⟨hch,ha⟩:=a0
  obtain ⟨k0,kr,rfl⟩:∃k0 kr,c6=k0::kr:=List.exists_cons_of_ne_nil (hc hch)
  refine kz ?_;try clear kz
  have ge:fg a4 σ .gP (.f (.ae 0)) (.f r.a)=ac ak:=by refine aq ha ?_;rfl
  have lt:fg a4 σ .lz (.f r.a) (.f (.ae (k0::kr).length))=ac ak:=by
   refine aq ha ?_;exact a7 ac (jx (nz.mpr (qI kr.length)))
  have l5:(k0::kr).length≤500:=a5 hl (dT ag)
  have ix:lN a4 σ (.f (.al hd.ft)) (.f r.a)=ac (d0 k0):=by (refine aq ha ?_;refine aq hk ?_);exact iJ (k:=0) ag l5
  have lc:eP σ ak 0 [.f (.al hd.ft)] =ac (.f (.ae (k0::kr).length),σ):=by refine aq hk ?_;exact eS l5
  have ne:fg a4 σ .ne (.f k0.1.cx) (.f (.ah "block"))=ac aF:=by refine aq (hb k0 fF) ?_;kernel_rfl
  apply ai;exact ge
  apply ai;exact K.kS
  apply ai;exact lc
  apply ai;exact lt
  apply ai;exact K.kS
  apply ai;exact ix
  apply ai;exact ne
  exact b8 (Q:=Q) hq eG
 ·refine pc e (Yw eq) ?_
  exact b8 (Q:=Q) hq eG
end
noncomputable def r7(H:af→af)(m:af→av)(p:af):am:=cE (m p) (.ae (H p)) .aA
def jO(n:af)(H:af→af)(m:af→av):ao am:=(gw n).map (r7 H m)
noncomputable def xX(m:af→av)(p:af):af→av:=fun q=>m q||p==q
noncomputable def FJ(m:af→av)(W:ao af)(p:af):ao af:=cE (m p) W (W++[p])
def TS{m:af→av}{p:af}(h:m p=ak):xX m p=m:=rj fun q=>by
 unfold xX
 by_cases e:p=q
 ·(refine iu e ?_;refine aq h ?_);rfl
 ·(refine aq (show (p==q)=aF from Ap.mpr e) ?_;rw [Am])
def p8{n:af}{H:af→af}{m:af→av}:(jO n H m).length=n:=by unfold jO;(rewrite [b9];refine aq sM ?_;rfl)
def xY{n p:af}{H:af→af}{m:af→av}(h:p<n):(jO n H m)[p]? =ac (r7 H m p):=by
 unfold jO;rw [j9,RF h];rfl
def Vs{n p:af}{H:af→af}{m:af→av}:(jO n H m).set p (.ae (H p))=jO n H (xX m p):=by
 refine Au fun q=>?_
 rw [RM]
 by_cases hq:q<n
 ·(refine aq (xY hq) ?_;refine aq (xY hq) ?_)
  unfold r7 xX
  by_cases e:p=q
  ·(refine aq (bD e) ?_;refine aq (bD (p8.symm▸e.symm▸hq)) ?_;refine iu e ?_;rw [ug,ZK]);rfl
  ·(refine aq (cL e) ?_;refine aq (show (p==q)=aF from Ap.mpr e) ?_;rw [Am])
 ·have k1:(jO n H m)[q]? =au:=LJ (p8.symm▸vh hq)
  have k2:(jO n H (xX m p))[q]? =au:=LJ (p8.symm▸vh hq)
  (refine aq k1 ?_;refine aq k2 ?_)
  by_cases e:p=q
  ·(refine aq (bD e) ?_;refine aq (cL (p8.symm▸e.symm▸hq)) ?_;rfl)
  ·(refine aq (cL e) ?_;rfl)
def CH(σ:an)(h:Hd)(c:Cd)(cC:ao am)(H:af→af)(m:af→av)(W:ao af):an:=σ++[ac (.al (jO c.aa.length H m)),ac (.al (bI W)),ac (.lM 3 [.f (aU h c),.f (.al cC),.a6 σ.length,.a6 (σ.length+1)])]
section
variable{d:af}{σ:an}{h:Hd}{c:Cd}{cC:ao am}{H:af→af}{m:af→av}{W:ao af}
def CH.nH:Ey (CH σ h c cC H m W) (σ.length+2) h c cC σ.length (σ.length+1):=Ey.eu (Ep _ _ _ _ _)
def CH.bh:(CH σ h c cC H m W).length=σ.length+3:=dg
def CH.kR{m':af→av}{W':ao af}:(CH σ h c cC H m W).take (CH σ h c cC H m' W').length=CH σ h c cC H m W:=Hb (by (refine aq CH.bh ?_;refine aq CH.bh ?_);exact c9 _)
def CH.BK:(CH σ h c cC H m W)[σ.length]? =ac (ac (.al (jO c.aa.length H m))):=dP _ _ _
def CH.wai:(CH σ h c cC H m W)[σ.length+1]? =ac (ac (.al (bI W))):=mZ _ _ _ _
def CH.agF{m':af→av}:(CH σ h c cC H m W).set σ.length (ac (.al (jO c.aa.length H m')))=CH σ h c cC H m' W:=my _ _ _ _
def CH.Et{W':ao af}:(CH σ h c cC H m W).set (σ.length+1) (ac (.al (bI W')))=CH σ h c cC H m W':=Er _ _ _ _ _
def Yx(hn:c.aa.length≤500)(hW:W.length≤1000){p:af}(hp:p<c.aa.length){k:aN}(hk:k=H p)(o:am):RC (vC a4 (d+2)) 11 [.fN (σ.length+2),.f (.ae p),.f (.ae k),.f o] .aA (CH σ h c cC H m W) (CH σ h c cC H (xX m p) (FJ m W p)):=rf ag ag ag ag fun C e Q hq=>by
 subst hk
 have K:Ey (CH σ h c cC H m W) (σ.length+2) h c cC σ.length (σ.length+1):=CH.nH
 have lD:(jO c.aa.length H m).length≤100000:=p8.symm▸a5 hn (dT ag)
 have ix:lN a4 (CH σ h c cC H m W) (.a6 σ.length) (.f (.ae p))=ac (r7 H m p):=Es CH.BK (xY hp) lD
 refine pc e (xx _) ?_
 apply ai;exact K.kS
 apply ai;exact eS hn
 refine dH (a7 (! ·) (jx (nz.mpr hp))) ?_
 apply ai;exact K.FF
 apply ai;exact ix
 have mp:m p=ak∨m p=aF:=Lr _
 have st:o6 (CH σ h c cC H m W) (.a6 σ.length) (.f (.ae p)) (.f (.ae (H p)))=ac (CH σ h c cC H (xX m p) W):=by
  rw [KG CH.BK (by refine aq p8 ?_;exact hp) lD,Vs,CH.agF]
 have K':Ey (CH σ h c cC H (xX m p) W) (σ.length+2) h c cC σ.length (σ.length+1):=CH.nH
 have lk:lB a4 (CH σ h c cC H (xX m p) W) (.a6 (σ.length+1)) "append"=ac .eA:=cT CH.wai
 have ap:kG a4 (CH σ h c cC H (xX m p) W) .eA (.a6 (σ.length+1)) [.f (.ae p)] =ac (.f .aA,CH σ h c cC H (xX m p) (W++[p])):=by
  rw [jo CH.wai (by unfold bI;rw [b9];exact a5 hW (dT ag)),sV,CH.Et]
 rcases mp with g|g
 ·have i1:fg a4 (CH σ h c cC H m W) .AL (.f (r7 H m p)) (.f .aA)=ac aF:=by unfold r7;refine aq g ?_;rfl
  have i2:fg a4 (CH σ h c cC H m W) .ne (.f (r7 H m p)) (.f (.ae (H p)))=ac aF:=by
   unfold r7;refine aq g ?_
   exact a7 ac (a7 (! ·) (ug _))
  rw [TS g,show FJ m W p=W by unfold FJ;refine aq g ?_;rfl] at hq
  refine dH (cp i1) ?_
  apply ai;exact i2
  exact b8 (Q:=Q) hq eG
 ·have i1:fg a4 (CH σ h c cC H m W) .AL (.f (r7 H m p)) (.f .aA)=ac ak:=by unfold r7;refine aq g ?_;rfl
  rw [show FJ m W p=W++[p] by unfold FJ;refine aq g ?_;rfl] at hq
  refine ig (cp i1) ?_
  apply ai;exact K.FF
  apply ai;exact st
  apply ai;exact K'.GN
  apply ai;exact lk
  apply ai;exact ap
  exact b8 (Q:=Q) hq CH.kR
end
def FK(n:af)(k:Ct):Prop:=(k.nA=.ah "rescue"∨k.nA=.ah "ensure")∧(k.dm<k.gx)∧(k.gx≤n)∧(k.bC<n)
section
variable{n:af}{k:Ct}(s0:FK n k)
include s0
def FK.nA:k.nA=.ah "rescue"∨k.nA=.ah "ensure":=s0.1
def FK.lz:k.dm<k.gx:=s0.2.1
def FK.gP:k.gx≤n:=s0.2.2.1
def FK.bC:k.bC<n:=s0.2.2.2
end
section
variable{d:af}{σ:an}{h:Hd}{c:Cd}{cC:ao am}{i jd jw:af}
def Vt:fg a4 σ .fw (.f (.aG aF)) (.f (.al [.aG ak,.aG ak,.aG ak,.aG ak]))=ac aF:=by kernel_rfl
def Yy{v:am}(h:v=.ah "rescue"∨v=.ah "ensure"):fg a4 σ .gm (.f v) (.f (.bE [.ah "rescue",.ah "ensure"]))=ac aF:=by rcases h with rfl|rfl<;>kernel_rfl
def DF(K:Ey σ i h c cC jd jw)(hn:c.aa.length≤500)(hk:c.aK.length≤500)(hc:∀k∈c.aK,FK c.aa.length k):RC (vC a4 (d+2)) 16 [.fN i] .aA σ σ:=rf ag ag ag ag fun C e Q hq=>by
 apply ai;exact K.kS
 apply ai;exact dJ hk
 refine t9 (fun q9=>σ) (fun _ (g:aM aC×aM aC×aM aC)=>[ac (.fN i),g.1,g.2.1,g.2.2,au]) (g:=(au,au,au)) (fun j k g N hj hN=>?_) fun g=>?_
 ·have ok:=hc k (gM hj)
  apply ai;exact K.kS
  apply ai;exact eS hn
  refine pc e (xx _) ?_
  refine pc e (xx _) ?_
  refine pc e (xx _) ?_
  refine pc e (xx _) ?_
  apply ai;exact Vt
  apply ai;exact Yy ok.nA
  refine ig (jx (nz.mpr ok.lz)) ?_
  refine dH (a7 (! ·) (jx (tC.mpr ok.gP))) ?_
  refine dH (a7 (! ·) (jx (nz.mpr ok.bC))) ?_
  exact hN (_,_,_)
 ·exact b8 (Q:=Q) hq eG
end
def TT{α β γ:Type}{body:bJ→an→KS→Prop}{xs:ao af}{tp:av}{e:α→am}{K:KS}(step:β→α→β)(P:β→Prop)(hp:β→an)(lc:γ→bJ):∀{l:ao α}{b:β}{g:γ},
  (∀(b:β)(v:α)(g:γ)(N:bJ→an→Prop),v∈l→P b→(P (step b v)→∀g,N (lc g) (hp (step b v)))→lE (lc g) xs tp (e v) fun dw=>body dw (hp b) (lF N K))→
  P b→(P (l.foldl step b)→∀g,K .aS (lc g) (hp (l.foldl step b)))→lP body xs tp K (l.map e) (lc g) (hp b):=by
 intro l
 induction l with
 |nil=>
  intro _ _ _ hP hK
  exact hK hP _
 |cons v vs ih=>
  intro b g h hP hK
  exact h b v g _ fF hP fun hP' q9=>ih (fun b u g N hu=>h b u g N (jf _ hu)) hP' hK
abbrev DW:=(af→av)×ao af
def gq(s:DW)(p:af):DW:=(xX s.1 p,FJ s.1 s.2 p)
def pR(c:Cd)(s:DW):af:=s.2.length+A1 c.aa.length s.1
structure Ag(c:Cd)(s:DW):Prop where
 tN:∀p,s.1 p=ak→bb c.nc p
 vI:∀p∈s.2,s.1 p=ak
 oT:pR c s≤c.aa.length
def Jh{s:DW}{p q:af}(h:s.1 q=ak):(gq s p).1 q=ak:=by
 show (s.1 q||p==q)=ak
 refine aq h ?_;rfl
def Ji{s:DW}{p:af}:(gq s p).1 p=ak:=by
 show (s.1 p||p==p)=ak
 rw [ug,ZK]
def TU{s:DW}{p q:af}(h:(gq s p).1 q=ak):s.1 q=ak∨p=q:=by
 rcases qS.mp (show (s.1 q||p==q)=ak from h) with h|h
 ·exact .inl h
 ·exact .inr (mi.mp h)
def MI{s:DW}{p:af}(h:s.1 p=aF):(gq s p).2=s.2++[p] :=by unfold gq FJ;refine aq h ?_;rfl
def SU{s:DW}{p:af}(h:s.1 p=ak):gq s p=s:=by unfold gq FJ;(refine aq (TS h) ?_;refine aq h ?_);rfl
def Yz{s:DW}{p q:af}(h:(gq s p).1 q=ak):s.1 q=ak∨q∈(gq s p).2:=by
 rcases Lr (s.1 p) with g|g
 ·rw [SU g] at h;exact .inl h
 ·rcases TU h with h|rfl
  ·exact .inl h
  ·exact .inr (by refine aq (MI g) ?_;exact qU _ fF)
def Vu{s:DW}{p q:af}(h:q∈s.2):q∈(gq s p).2:=by
 rcases Lr (s.1 p) with g|g
 ·refine aq (SU g) ?_;exact h
 ·refine aq (MI g) ?_;exact rM _ h
def Ag.gq{c:Cd}{s:DW}(S:Ag c s){p:af}(hr:bb c.nc p)(hp:p<c.aa.length):Ag c (gq s p)∧pR c (gq s p)=pR c s:=by
 rcases Lr (s.1 p) with g|g
 ·refine aq (SU g) ?_;exact ⟨S,ag⟩
 ·have key:pR c (Mine.gq s p)=pR c s:=by
   unfold pR
   (refine aq (MI g) ?_;refine aq dg ?_;refine iu (I6 hp g) ?_)
   exact qT _ 1 _
  refine ⟨⟨fun q hq=>?_,fun q hq=>?_,key▸S.oT⟩,key⟩
  ·rcases TU hq with hq|rfl
   ·exact S.tN q hq
   ·exact hr
  ·rw [MI g] at hq
   rcases pD.mp hq with hq|hq
   ·exact Jh (S.vI q hq)
   ·exact jg.mp hq▸Ji
def ad0{a t u q:af}(e:q+t=a+u):(a:aN)-(t:aN)+(u:aN)=(q:aN):=afU e
def vb{c:Cd}{p:af}{r:R}(hr:c.aa[p]? =ac r)(rp:bb c.nc p):∀q∈jk c p r,bb c.nc q:=fun q hq=>by
 unfold jk at hq
 rcases pD.mp hq with hq|hq
 ·rcases pD.mp hq with hq|hq
  ·by_cases k:r.ay.aO=ak
   ·rw [bD k] at hq
    exact jg.mp hq▸ .bp rp (cP.mpr hr) k
   ·rw [cL k] at hq;cases hq
  ·by_cases k:r.ay.c3=ak
   ·rw [bD k] at hq;cases hq
   ·rw [cL k] at hq
    exact jg.mp hq▸ .d7 rp (cP.mpr hr) (Ri _▸k)
 ·refine aw fun kz=>?_
  obtain ⟨k,hk,rfl⟩:=iO.mp hq
  obtain ⟨h1,h2⟩:=o5.mp hk
  refine kz ?_;try clear kz
  exact .cM rp (cP.mpr hr) h1 h2
section
variable{d:af}{σ:an}{h:Hd}{c:Cd}{cC:ao am}{H:af→af}{s:DW}{C:bw}
def jT(σ:an)(h:Hd)(c:Cd)(cC:ao am)(H:af→af)(s:DW):an:=CH σ h c cC H s.1 s.2
def jT.nH:Ey (jT σ h c cC H s) (σ.length+2) h c cC σ.length (σ.length+1):=CH.nH
def jT.kR{s':DW}:(jT σ h c cC H s).take (jT σ h c cC H s').length=jT σ h c cC H s:=CH.kR
def sW:lB a4 (jT σ h c cC H s) (.fN (σ.length+2)) "reach"=ac (.fn 11):=by
 have e:(jT σ h c cC H s)[σ.length+2]? =ac (ac (.lM 3 [.f (aU h c),.f (.al cC),.a6 σ.length,.a6 (σ.length+1)])):=Ep _ _ _ _ _
 exact a7 (lj · _) (AY e)
def MJ(S:Ag c s)(hn:c.aa.length≤500){p:af}(hp:p<c.aa.length){k:aN}(hk:k=H p)(o:am):RC (vC a4 (d+2)) 11 [.fN (σ.length+2),.f (.ae p),.f (.ae k),.f o] .aA (jT σ h c cC H s) (jT σ h c cC H (gq s p)):=
 Yx hn (a5 (ff _ _) (a5 S.oT (a5 hn (dT ag)))) hp hk o
def ad1(Ty:dG c.nc H)(afi:∀p,bb c.nc p→∀k∈c.aK,k.bU p=ak→k.cQ≤H p)(S:Ag c s)(hn:c.aa.length≤500)(hk:c.aK.length≤500){p:af}{r:R}(hr:c.aa[p]? =ac r)(hm:s.1 p=ak):RC (vC a4 (d+3)) 15 [.fN (σ.length+2),.f (.ae p)] .aA (jT σ h c cC H s) (jT σ h c cC H ((jk c p r).foldl gq s)):=rf ag ag ag ag fun C e Q hq=>by
 have rp:=S.tN p hm
 have T:=Ty.cq p r rp (cP.mpr hr)
 have ku:∀q,bb c.nc q→q<c.aa.length:=fun q z=>by
  have:=Ty.mW q z
  unfold Cd.nc at this;rw [b9] at this;exact this
 have sr:=vb hr rp
 have pn:=ku p rp
 have lD:(jO c.aa.length H s.1).length≤100000:=p8.symm▸a5 hn (dT ag)
 have K:Ey (jT σ h c cC H s) (σ.length+2) h c cC σ.length (σ.length+1):=jT.nH
 have ix:lN a4 (jT σ h c cC H s) (.a6 σ.length) (.f (.ae p))=ac (.ae (H p)):=by
  rw [show am.ae (H p)=r7 H s.1 p by unfold r7;refine aq hm ?_;rfl]
  exact Es CH.BK (xY pn) lD
 apply ai;exact K.kS
 apply ai;exact iK hr hn
 apply ai;exact K.FF
 apply ai;exact ix
 refine pc e (Vp r) ?_
 refine dH (wu (Eb.mpr (tC.mpr T.bO))) ?_
 have BK:∀q,H q+r.ay.bO=H p+r.ay.fW→((H p:aN)-(r.ay.bO:aN)+(r.ay.fW:aN))=(H q:aN):=fun q e=>ad0 e
 unfold jk at sr hq
 rw [yk,yk,List.foldl_map,List.foldl_filter] at hq
 have tail:∀s2:DW,Ag c s2→Q (.f .aA) (jT σ h c cC H (c.aK.foldl (fun s k=>if k.bU p=ak then gq s k.bC else s) s2))→fI ⟨a4,C⟩ (.O (.fY [2] aF (.bk (.aB (.aB (.az 0) "code") "catches")) lC) .ab) [ac (.fN (σ.length+2)),ac (.f (.ae p)),au,ac (.f (eJ r)),ac (.f (.ae (H p))),ac (.f (.ae r.ay.bO)),ac (.f (.ae r.ay.fW))] (jT σ h c cC H s2) (oA ot.bF (jT σ h c cC H s).length Q):=fun s2 S2 hq=>by
  have K2:Ey (jT σ h c cC H s2) (σ.length+2) h c cC σ.length (σ.length+1):=jT.nH
  apply ai;exact K2.kS
  apply ai;exact dJ hk
  refine TT (fun s k=>if k.bU p=ak then gq s k.bC else s) (Ag c) (jT σ h c cC H) (fun (g:aM aC)=>[ac (.fN (σ.length+2)),ac (.f (.ae p)),g,ac (.f (eJ r)),ac (.f (.ae (H p))),ac (.f (.ae r.ay.bO)),ac (.f (.ae r.ay.fW))]) (fun s k g N km S hN=>?_) S2 fun S g=>?_
  ·refine pc e (IZ k p) ?_
   refine bj (fun g=>?_) fun g=>?_
   ·rw [bD g] at hN
    have hq:bb c.nc k.bC:=.cM rp (cP.mpr hr) km g
    refine dH (wu (Eb.mpr (tC.mpr (afi p rp k km g)))) ?_
    apply ai;exact sW
    refine rc e (MJ S hn (ku _ hq) (by refine aq (T.cM k km g) ?_;rfl) _) ?_
    exact hN (S.gq hq (ku _ hq)).1 _
   ·rw [cL (Ri _▸g)] at hN
    exact hN S _
  ·exact b8 (Q:=Q) hq jT.kR
 have mid:∀s1:DW,Ag c s1→(Ag c ((if r.ay.c3 then [] else [p+1]).foldl gq s1)→Q (.f .aA) (jT σ h c cC H (c.aK.foldl (fun s k=>if k.bU p=ak then gq s k.bC else s) ((if r.ay.c3 then [] else [p+1]).foldl gq s1))))→fI ⟨a4,C⟩ (.O (.bg (.aL (.aB (.az 3) "op") (.O .gm (.aJ 18) .ab)) (.O (.cj (.eI (.az 0) "reach" (.O (.d6 ak .ci (.az 1) (.ae 1)) (.O (.d6 ak .ci (.d6 ak .fA (.az 4) (.az 5)) (.az 6)) (.O (.az 1) .ab))))) .ab) .ab) (.O (.fY [2] aF (.bk (.aB (.aB (.az 0) "code") "catches")) lC) .ab)) [ac (.fN (σ.length+2)),ac (.f (.ae p)),au,ac (.f (eJ r)),ac (.f (.ae (H p))),ac (.f (.ae r.ay.bO)),ac (.f (.ae r.ay.fW))] (jT σ h c cC H s1) (oA ot.bF (jT σ h c cC H s).length Q):=fun s1 S1 hq=>by
  apply ai;exact w5 r.ay
  refine bj (fun g=>?_) fun g=>?_
  ·have g:=qO g
   rw [cL (by refine aq g ?_;exact mI)] at hq
   have KY:bb c.nc (p+1):=.d7 rp (cP.mpr hr) g
   apply ai;exact sW
   refine rc e (MJ S1 hn (ku _ KY) (BK _ (T.d7 g)) _) ?_
   have S2:=(S1.gq KY (ku _ KY)).1
   exact tail _ S2 (hq S2)
  ·rw [bD (tM g)] at hq
   exact tail _ S1 (hq S1)
 apply ai;exact rG r.ay
 refine bj (fun g=>?_) fun g=>?_
 ·rw [bD g] at hq
  have KY:bb c.nc r.t:=.bp rp (cP.mpr hr) g
  have z:=MJ (d:=d) (σ:=σ) (h:=h) (cC:=cC) (H:=H) S hn (ku _ KY) (BK _ (T.bp g)) (.ae p)
  rw [← fh g] at z
  apply ai;exact sW
  refine rc e z ?_
  exact mid _ (S.gq KY (ku _ KY)).1 fun q9=>hq
 ·rw [cL (Ri _▸g)] at hq
  exact mid _ S fun q9=>hq
end
def FL(c:Cd)(l:ao af)(s s':DW):Prop:=(Ag c s')∧(Mine.pR c s'=Mine.pR c s)∧(∀q,s.1 q=ak→s'.1 q=ak)∧(∀q∈l,s'.1 q=ak)∧(∀q∈s.2,q∈s'.2)∧(∀q,s'.1 q=ak→s.1 q=ak∨q∈s'.2)
section
variable{c:Cd}{l:ao af}{s s':DW}(s0:FL c l s s')
include s0
def FL.bm:Ag c s':=s0.1
def FL.pR:Mine.pR c s'=Mine.pR c s:=s0.2.1
def FL.bu:∀q,s.1 q=ak→s'.1 q=ak:=s0.2.2.1
def FL.bQ:∀q∈l,s'.1 q=ak:=s0.2.2.2.1
def FL.vI:∀q∈s.2,q∈s'.2:=s0.2.2.2.2.1
def FL.pQ:∀q,s'.1 q=ak→s.1 q=ak∨q∈s'.2:=s0.2.2.2.2.2
end
def OD{c:Cd}:∀{l:ao af}{s:DW},Ag c s→(∀q∈l,bb c.nc q∧q<c.aa.length)→FL c l s (l.foldl gq s):=by
 intro l
 induction l with
 |nil=>
  intro s S _
  exact ⟨S,ag,fun q9 h=>h,(fun q9 h=>bW h hU),fun q9 h=>h,fun q9 h=>Or.inl h⟩
 |cons q l ih=>
  intro s S h
  obtain ⟨rq,lq⟩:=h q fF
  obtain ⟨a,b⟩:=S.gq rq lq
  have T:=ih a fun x hx=>h x (jf _ hx)
  refine ⟨T.bm,T.pR.trans b,fun x hx=>T.bu x (Jh hx),fun x hx=>?_,fun x hx=>T.vI x (Vu hx),fun x hx=>?_⟩
  ·rcases eH.mp hx with rfl|hx
   ·exact T.bu _ Ji
   ·exact T.bQ x hx
  ·rcases T.pQ x hx with g|g
   ·exact (Yz g).imp id (T.vI x)
   ·exact .inr g
def zM(c:Cd)(s:DW):Prop:=(Ag c s)∧(∀p∈c.aZ,s.1 p=ak)∧(∀(p:af)(r:R),s.1 p=ak→p∉s.2→c.aa[p]? =ac r→∀q∈jk c p r,s.1 q=ak)
section
variable{c:Cd}{s:DW}(s0:zM c s)
include s0
def zM.bm:Ag c s:=s0.1
def zM.aZ:∀p∈c.aZ,s.1 p=ak:=s0.2.1
def zM.dE:∀(p:af)(r:R),s.1 p=ak→p∉s.2→c.aa[p]? =ac r→∀q∈jk c p r,s.1 q=ak:=s0.2.2
end
def zM.qz{c:Cd}{m:af→av}(I:zM c (m,[])):m=lV c:=rj fun p=>by
 have nx:∀{p q:af}{r:R},m p=ak→c.aa[p]? =ac r→q∈jk c p r→m q=ak:=fun hp hr hq=>I.dE _ _ hp (hU) hr _ hq
 rw [Al,n9]
 refine ⟨I.bm.tN p,fun z=>?_⟩
 induction z with
 |cR hp=>exact I.aZ _ hp
 |nS _ e _=>exact bW e (xm _)
 |d7 _ e k ih=>exact nx ih (cP.mp e) (by unfold jk;refine aq k ?_;exact rM _ (qU _ fF))
 |bp _ e k ih=>exact nx ih (cP.mp e) (by unfold jk;refine aq (bD k) ?_;exact rM _ (rM _ fF))
 |cM _ e hc k ih=>exact nx ih (cP.mp e) (by unfold jk;exact qU _ (iO.mpr ⟨_,o5.mpr ⟨hc,k⟩,ag⟩))
def zM.fR{c:Cd}{m:af→av}{l:ao af}{p:af}{r:R}(I:zM c (m,l++[p]))(hr:c.aa[p]? =ac r)(ku:∀q,bb c.nc q→q<c.aa.length):Ag c (m,l)∧zM c ((jk c p r).foldl gq (m,l))∧pR c ((jk c p r).foldl gq (m,l))+1=pR c (m,l++[p]):=by
 have mp:m p=ak:=I.bm.vI p (qU _ fF)
 have td:pR c (m,l)+1=pR c (m,l++[p]):=by
  unfold pR
  refine aq dg ?_
  exact qT _ _ 1
 have S:Ag c (m,l):=⟨I.bm.tN,fun q hq=>I.bm.vI q (rM _ hq),a5 (fQ _) (td.symm▸I.bm.oT:pR c (m,l)+1≤c.aa.length)⟩
 have T:=OD S fun q hq=>⟨vb hr (I.bm.tN p mp) q hq,ku q (vb hr (I.bm.tN p mp) q hq)⟩
 refine ⟨S,⟨T.bm,fun q hq=>T.bu q (I.aZ q hq),fun q r' hq nq KY x hx=>?_⟩,T.pR▸td⟩
 rcases T.pQ q hq with g|g
 ·by_cases e:q=p
  ·subst e
   rw [hr] at KY
   obtain rfl:=cp KY
   exact T.bQ x hx
  ·refine T.bu x (I.dE q r' g (fun z=>?_) KY x hx)
   rcases pD.mp z with z|z
   ·exact nq (T.vI q z)
   ·exact e (jg.mp z)
 ·exact bW g nq
def kJ(h:Hd)(c:Cd)(aE:av)(H:af→af):Prop:=(h.cx=.ah "block"∨h.cx=.ah "method")∧(∃x y,h.gE=.al [x,y])∧(∀r∈c.aa,r.bm aE=ak)∧(∀r∈c.aa,r.ay.aO=ak→r.t<c.aa.length)∧(∀k∈c.aK,FK c.aa.length k)∧(c.aZ≠ [])∧(dG c.nc H)∧(∀p,bb c.nc p→∀k∈c.aK,k.bU p=ak→k.cQ≤H p)∧(Bd c)
section
variable{h:Hd}{c:Cd}{aE:av}{H:af→af}(s0:kJ h c aE H)
include s0
def kJ.cx:h.cx=.ah "block"∨h.cx=.ah "method":=s0.1
def kJ.gE:∃x y,h.gE=.al [x,y] :=s0.2.1
def kJ.aa:∀r∈c.aa,r.bm aE=ak:=s0.2.2.1
def kJ.jW:∀r∈c.aa,r.ay.aO=ak→r.t<c.aa.length:=s0.2.2.2.1
def kJ.aK:∀k∈c.aK,FK c.aa.length k:=s0.2.2.2.2.1
def kJ.aZ:c.aZ≠ [] :=s0.2.2.2.2.2.1
def kJ.ie:dG c.nc H:=s0.2.2.2.2.2.2.1
def kJ.BK:∀p,bb c.nc p→∀k∈c.aK,k.bU p=ak→k.cQ≤H p:=s0.2.2.2.2.2.2.2.1
def kJ.bd:Bd c:=s0.2.2.2.2.2.2.2.2
end
section
variable{d:af}{σ:an}{h:Hd}{c:Cd}{aE:av}{H:af→af}
def YA{v:am}(h:v=.ah "block"∨v=.ah "method"):fg a4 σ .gm (.f v) (.f (.bE [.ah "method",.ah "block",.ah "class",.ah "program"]))=ac aF:=by rcases h with rfl|rfl<;>kernel_rfl
noncomputable def acM:Op→av
 |.mL|.mM=>ak
 |_=>aF
def aiI:(fx.all fun op=>d3 (jh (.ah op.bH) [.ah "getl",.ah "setl"]) (acM op))=ak:=by kernel_rfl
def agG(op:Op):fg a4 σ .fw (.f (.ah op.bH)) (.f (.bE [.ah "getl",.ah "setl"]))=ac (acM op):=rF aiI op
def YB{op:Op}(h:acM op=ak):op=.mL∨op=.mM:=by
 induction op<;>first|exact .inl ag|exact .inr ag|exact cG h
def BL{s:DW}{cC:ao am}:lB a4 (jT σ h c cC H s) (.fN (σ.length+2)) "need_form"=ac (.fn 12)∧lB a4 (jT σ h c cC H s) (.fN (σ.length+2)) "need_slots"=ac (.fn 13)∧lB a4 (jT σ h c cC H s) (.fN (σ.length+2)) "need_child"=ac (.fn 14)∧lB a4 (jT σ h c cC H s) (.fN (σ.length+2)) "need_catches"=ac (.fn 16)∧lB a4 (jT σ h c cC H s) (.fN (σ.length+2)) "step"=ac (.fn 15):=by
 have e:(jT σ h c cC H s)[σ.length+2]? =ac (ac (.lM 3 [.f (aU h c),.f (.al cC),.a6 σ.length,.a6 (σ.length+1)])):=Ep _ _ _ _ _
 have e:=AY e
 exact ⟨a7 (lj · _) e,a7 (lj · _) e,a7 (lj · _) e,a7 (lj · _) e,a7 (lj · _) e⟩
def YC(ok:kJ h c aE H){c6:ao sG}(hk:h.ft=c6.map d0)(hl:c6.length≤5)(hc:aE=ak→c6≠ [])(hb:∀k∈c6,k.1.cx=.ah "block"){hO:ao am}(ho:hO.length≤5):RC (vC a4 (d+4)) 17 [.fN (σ.length+2)] .aA (jT σ h c (aU h c::hO) H (fun q9=>aF,[])) (jT σ h c (aU h c::hO) H (lV c,[])):=rf ag ag ag ag fun C e Q hq=>by
 have hn:c.aa.length≤500:=a5 ok.bd.aa (dT ag)
 have hs:c.aZ.length≤500:=a5 ok.bd.aZ (dT ag)
 have hct:c.aK.length≤500:=a5 ok.bd.aK (dT ag)
 have K:Ey (jT σ h c (aU h c::hO) H (fun q9=>aF,[])) (σ.length+2) h c (aU h c::hO) σ.length (σ.length+1):=jT.nH
 apply ai;exact K.kS
 apply ai;exact YA ok.cx
 apply ai;exact K.kS
 apply ai;exact eS hs
 have sl:c.aZ.length≠0:=fun z=>ok.aZ (Z6.mp z)
 refine dH (Rw fun z=>sl (Mm z)) ?_
 apply ai;exact K.kS
 apply ai;exact qd hn
 refine KB (fun q9=>jT σ h c (aU h c::hO) H (fun q9=>aF,[])) (fun _ (g:aM aC×aM aC)=>[ac (.fN (σ.length+2)),au,g.1,g.2]) (g:=(au,au)) (fun j r g N hj hN=>?_) fun g=>?_
 ·have hr:=gM hj
  have rk:=ok.aa r hr
  apply ai;exact BL.1
  refine rc e (adZ rk K hn (ok.jW r hr)) ?_
  have tail:∀KK:KS,fI ⟨a4,C⟩ (.O (.cj (.eI (.az 0) "need_child" (.O (.az 2) (.O (.az 3) .ab)))) .ab) [ac (.fN (σ.length+2)),au,ac (.f (.ae j)),ac (.f (eJ r))] (jT σ h c (aU h c::hO) H (fun q9=>aF,[])) (lF N KK):=fun KK=>by
   apply ai;exact BL.2.2.1
   refine rc e (HX rk K hk hl hc hb) ?_
   exact hN (_,_)
  apply ai;exact agG r.ay
  refine bj (fun g=>?_) fun g=>?_
  ·refine aw fun kz=>?_
   obtain ⟨x,y,sl⟩:=ok.gE
   refine kz ?_;try clear kz
   apply ai;exact BL.2.1
   refine rc e (Yv rk (YB g) K ho sl) ?_
   exact tail _
  ·exact tail _
 ·apply ai;exact BL.2.2.2.1
  refine rc e (DF K hn hct ok.aK) ?_
  apply ai;exact K.kS
  apply ai;exact dJ (f:=e7) hs
  have ku:∀q,bb c.nc q→q<c.aa.length:=fun q z=>by
   have:=ok.ie.mW q z
   unfold Cd.nc at this;rw [b9] at this;exact this
  have rs:∀q∈c.aZ,bb c.nc q∧q<c.aa.length:=fun q hq=>⟨.cR hq,ku q (.cR hq)⟩
  have S0:Ag c (fun q9=>aF,[]):=⟨(fun q9 z=>cG z),(fun q9 z=>bW z hU),a5 (lm (nu _)) (GH _ _)⟩
  refine TT gq (Ag c) (jT σ h c (aU h c::hO) H) (fun (x:aM aC)=>[ac (.fN (σ.length+2)),x,g.1,g.2]) (fun s q x N qm S hN=>?_) S0 fun S x=>?_
  ·obtain ⟨rq,lq⟩:=rs q qm
   apply ai;exact sW
   refine rc e (MJ S hn lq (a7 Int.ofNat (ok.ie.cR q qm).symm) _) ?_
   exact hN (S.gq rq lq).1 _
  ·have T:=OD S0 rs
   have I1:zM c (c.aZ.foldl gq (fun q9=>aF,[])):=⟨T.bm,T.bQ,fun p r hp np=>(T.pQ p hp).elim (fun z=>cG z) fun z=>bW z np⟩
   generalize c.aZ.foldl gq (fun q9=>aF,[])=s1 at I1⊢
   refine A0 (fun m ρ bS=>∃s,ρ=[ac (.fN (σ.length+2)),x,g.1,g.2] ∧bS=jT σ h c (aU h c::hO) H s∧zM c s∧pR c s=m) (fun m ρ bS N hI hN=>?_) ⟨s1,ag,ag,I1,ag⟩ (ni (a5 I1.bm.oT hn) (dT ag))
   refine aw fun kz=>?_
   obtain ⟨s,rfl,rfl,I,tm⟩:=hI
   obtain ⟨m',W⟩:=s
   refine kz ?_;try clear kz
   have wl:W.length≤500:=a5 (ff _ _) (a5 I.bm.oT hn)
   have K:Ey (jT σ h c (aU h c::hO) H (m',W)) (σ.length+2) h c (aU h c::hO) σ.length (σ.length+1):=jT.nH
   apply ai;exact K.GN
   apply ai;exact abR (a5 wl (dT ag))
   rcases aae W with rfl|⟨l,p,rfl⟩
   ·rw [← I.qz] at hq
    exact b8 (Q:=Q) hq jT.kR
   ·rw [aaf] at*
    have rp:=I.bm.tN p (I.bm.vI p (qU _ fF))
    have hr:c.aa[p]? =ac (c.aa[p]'(ku p rp)):=ed _
    have ⟨S,I2,t2⟩:=I.fR hr ku
    have mp:=I.bm.vI p (qU _ fF)
    refine ig (jx (by refine aq dg ?_;exact nz.mpr (qI _))) ?_
    apply ai;exact BL.2.2.2.2
    apply ai;exact K.GN
    apply ai;exact p7 CH.wai
    apply ai;exact abQ (a5 wl (dT ag))
    refine rc e (ad1 (s:=(m',l)) ok.ie ok.BK S hn hct hr mp) ?_
    exact hN _ _ _ (Nat.lt_of_succ_le (tm▸lm t2)) ⟨_,ag,ag,I2,ag⟩
end
section
variable{d:af}{σ:an}{h:Hd}{c:Cd}{aE:av}{H:af→af}
def YD{ov:am}{hO:ao am}(hn:c.aa.length≤500)(hko:(h.cx=.ah "block"∧rA (.f ov)=ac hO∧hO.length≤5)∨(h.cx=.ah "method"∧hO=[])){Q:KE}(q:Q (.fN (σ.length+2)) (jT σ h c (aU h c::hO) H (fun q9=>aF,[]))):vC a4 (d+1) 1003 [.f (aU h c),.f ov] σ Q:=by
 have dl:sN σ aF .mR (.f (.al [.aA])) (.f (.ae c.aa.length))=ac (.a6 σ.length,σ++[ac (.al (jO c.aa.length H fun q9=>aF))]):=by
  have e:jO c.aa.length H (fun q9=>aF)=mJ c.aa.length .aA:=by
   unfold jO
   (refine aq (show r7 H (fun q9=>aF)=fun q9=>am.aA from ag) ?_;refine aq aar ?_;refine aq sM ?_;rfl)
  refine aq e ?_
  exact (zF _ _ (a5 hn (dT ag))).trans (iD (by refine aq RB ?_;exact a5 hn (dT ag)))
 have e3:(σ++[ac (cD.al (jO c.aa.length H fun q9=>aF)),ac (.al [])]).length=σ.length+2:=dg
 have e4:Q (.fN (σ++[ac (cD.al (jO c.aa.length H fun q9=>aF)),ac (.al [])]).length) ((σ++[ac (.al (jO c.aa.length H fun q9=>aF)),ac (.al [])])++[ac (.lM 3 [.f (aU h c),.f (.al (aU h c::hO)),.a6 σ.length,.a6 (σ.length+1)])]):=by
  (refine aq e3 ?_;rw [qi]);exact q
 rcases hko with ⟨hk,hu,ho⟩|⟨hk,rfl⟩
 ·have e1:fg a4 σ .bN (.f h.cx) (.f (.ah "block"))=ac ak:=by refine aq hk ?_;kernel_rfl
  have e2:Kt σ (.f (aU h c)) (.f ov)=ac (.f (.al (aU h c::hO)),σ):=by
   show (rA (.f ov)).bind _=_
   refine aq hu ?_
   exact ol (jG (a5 ho (dT ag)))
  apply ai;exact e1
  apply ai;exact e2
  apply ai;exact eS hn
  apply ai;exact dl
  apply ai;exact uU (dT ag)
  exact e4
 ·have e1:fg a4 σ .bN (.f h.cx) (.f (.ah "block"))=ac aF:=by refine aq hk ?_;kernel_rfl
  apply ai;exact e1
  apply ai;exact eS hn
  apply ai;exact dl
  apply ai;exact uU (dT ag)
  exact e4
def vc{C C':bw}(e:C=C'){k:af}{args:ao aC}{σ:an}{Q:KE}(q:C' k args σ Q):C k args σ Q:=e▸q
def Vv{s:DW}{cC:ao am}:lB a4 (jT σ h c cC H s) (.fN (σ.length+2)) "run"=ac (.fn 17):=by
 have e:(jT σ h c cC H s)[σ.length+2]? =ac (ac (.lM 3 [.f (aU h c),.f (.al cC),.a6 σ.length,.a6 (σ.length+1)])):=Ep _ _ _ _ _
 exact a7 (lj · _) (AY e)
def jT.aiJ{s:DW}{cC:ao am}{x:aM cD}:((jT σ h c cC H s).set σ.length x).take σ.length=σ:=by
 unfold jT CH
 rw [my]
 exact DZ
def OE{args:ao aC}{ov:am}{hO:ao am}(ha:o7 wW args=ac [.f (aU h c),.f ov])(ok:kJ h c aE H){c6:ao sG}(hk:h.ft=c6.map d0)(hl:c6.length≤5)(hc:aE=ak→c6≠ [])(hb:∀k∈c6,k.1.cx=.ah "block")
  (hko:(h.cx=.ah "block"∧rA (.f ov)=ac hO∧hO.length≤5)∨(h.cx=.ah "method"∧hO=[]))
  (aiK:∀k∈c6,∃x,PC (vC a4 (d+5)) 18 [.f (d0 k),.f (.al (aU h c::hO))] x):PC (vC a4 (d+6)) 18 args (.al (jO c.aa.length H (lV c))):=pf ag ag ha ag fun C e σ Q hq=>by
 have hn:c.aa.length≤500:=a5 ok.bd.aa (dT ag)
 have ho:hO.length≤5:=by
  rcases hko with ⟨_,_,z⟩|⟨_,rfl⟩
  ·exact z
  ·exact fC _
 refine aw fun kz=>?_
 obtain ⟨kind,name,params,slots,ft⟩:=h
 refine kz ?_;try clear kz
 dsimp only at hk
 subst hk
 refine vc e (YD (H:=H) hn hko ?_)
 apply ai;exact dJ (a5 hl (dT ag))
 refine nK d0 (fun q9=>aF) d0 (fun v acc K hv q9 q=>q ag) ?_
 refine aq (Z9.mpr fun q9 q9=>mI) ?_
 apply ai;exact A8
 apply ai;exact Vv
 refine rc e (YC ok ag hl hc hb ho) ?_
 apply ai;exact dJ (a5 hl (dT ag))
 refine t9 (fun q9=>jT σ ⟨kind,name,params,slots,c6.map d0⟩ c (aU ⟨kind,name,params,slots,c6.map d0⟩ c::hO) H (lV c,[])) (fun _ (g:aM aC)=>[ac (.f (aU ⟨kind,name,params,slots,c6.map d0⟩ c)),ac (.f ov),ac (.fN (σ.length+2)),g,au]) (g:=au) (fun j k g N hj hN=>?_) fun g=>?_
 ·have km:=gM hj
  have e1:fg a4 (jT σ ⟨kind,name,params,slots,c6.map d0⟩ c (aU ⟨kind,name,params,slots,c6.map d0⟩ c::hO) H (lV c,[])) .bN (.f k.1.cx) (.f (.ah "block"))=ac ak:=by refine aq (hb k km) ?_;kernel_rfl
  obtain ⟨x,hx⟩:=aiK k km
  apply ai;exact e1
  apply ai;exact jT.nH.cC
  refine pc e hx ?_
  exact hN _
 ·apply ai;exact jT.nH.FF
  apply ai;exact kP CH.BK
  exact b8 (Q:=Q) hq jT.aiJ
end
def Im(k:sG):Prop:=(∃H,kJ k.1 k.2 aF H)∧(k.1.ft=[])∧(k.1.cx=.ah "block")
section
variable{k:sG}(s0:Im k)
include s0
def Im.bm:∃H,kJ k.1 k.2 aF H:=s0.1
def Im.aA:k.1.ft=[] :=s0.2.1
def Im.cx:k.1.cx=.ah "block":=s0.2.2
end
section
variable{d:af}{h:Hd}{c:Cd}{aE:av}{H:af→af}
def TV(ok:kJ h c aE H)(hm:h.cx=.ah "method"){c6:ao sG}(hk:h.ft=c6.map d0)(hl:c6.length≤5)(hc:aE=ak→c6≠ [])(hb:∀k∈c6,Im k):PC (vC a4 (d+8)) 63 [.f (aU h c)] (.al (jO c.aa.length H (lV c))):=pf ag ag ag ag fun C e σ Q hq=>by
 refine pc e (OE (d:=d+1) (ov:=.bE []) (hO:=[]) ag ok hk hl hc (fun k hk=>(hb k hk).cx) (.inr ⟨hm,ag⟩) fun k km=>?_) ?_
 ·obtain ⟨H',tJ⟩:=(hb k km).bm
  exact ⟨_,OE (d:=d) (ov:=.al [aU h c]) (hO:=[aU h c]) (c6:=[]) ag tJ (hb k km).aA (fC _) (fun z=>cG z) (fun q9 z=>bW z hU) (.inl ⟨(hb k km).cx,ag,dT ag⟩) fun q9 z=>bW z hU⟩
 ·exact b8 (Q:=Q) hq eG
end
def GB(fl:av)(m:af)(b:cD):Prop:=∃g s n:af,b=.al [.ae g,.ae s,.ae n,.aG fl] ∧s<2 ^ 31∧n≤m
def GB.up{fl:av}{m m':af}{b:cD}(h:GB fl m b)(le:m≤m'):GB fl m' b:=by obtain ⟨g,s,n,e,hs,hn⟩:=h;exact ⟨g,s,n,e,hs,a5 hn le⟩
structure EC(C:bw)(k:af)(args:ao aC)(fl:av)(j:af)(P:am→Prop):Prop where
 eu:∀(m:af)(b:cD)(τ:an)(Q:KE),m+j≤5000→GB fl m b→(∀(b':cD)(v:am),GB fl (m+j) b'→P v→Q (.f v) (ac b'::τ))→C k args (ac b::τ) Q
section
variable{d:af}{σ:an}{fz:av}
def agH{a b:aN}(ha:a.natAbs<2 ^ 64)(hb:b.natAbs<2 ^ 64):sN σ fz .mR (.f (.ae a)) (.f (.ae b))=ac (.f (.ae (a*b)),σ):=bD ⟨ha,hb⟩
def ab2{a b:aN}(hb:b≠0):sN σ fz .uO (.f (.ae a)) (.f (.ae b))=ac (.f (.ae (tD a b)),σ):=cL hb
def agI{a b:aN}(hb:b≠0)(hm:b.natAbs<1073741824):sN σ fz .yC (.f (.ae a)) (.f (.ae b))=ac (.f (.ae (Hr a b)),σ):=cL fun z=>z.elim hb fun z=>z hm
def agJ{a b:aN}(ha:a.natAbs<2 ^ 64)(h0:0≤b)(hb:b≤100):sN σ fz (.wB ()) (.f (.ae a)) (.f (.ae b))=ac (.f (.ae (a ^ b.toNat)),σ):=bD ⟨ha,h0,hb⟩
def A9{a:aN}{b:af}(hb:0<b):∃k<b,tD a b=(k:af):=by
 have b0:(b:aN)≠0:=fun z=>Rt hb (Mm z)
 have h1:=Int.emod_nonneg a b0
 have h2:=Int.emod_lt_of_pos a (nz.mpr hb)
 refine aq (Int.fmod_eq_emod_of_nonneg a (wA b)) ?_
 exact ⟨(a % b).toNat,(aaY h1).mpr h2,(aaQ h1).symm⟩
def agK{a:aN}{b:af}(hb:0<b):(tD a b).natAbs<b:=by
 obtain ⟨k,hk,e⟩:=A9 (a:=a) hb
 refine aq e ?_;exact hk
def KZ{x y:aN}{a b:af}(hx:x.natAbs≤a)(hy:y.natAbs≤b):(x+y).natAbs≤a+b:=a5 (Int.natAbs_add_le x y) (tq hx hy)
def ad2{x y:aN}{a b:af}(hx:x.natAbs≤a)(hy:y.natAbs≤b):(x*y).natAbs≤a*b:=by rw [Int.natAbs_mul];exact Ly hx hy
def SV{a b:aN}{p q:af}(ha:a.natAbs≤p)(hb:b.natAbs≤q)(hp:p<2 ^ 64)(hq:q<2 ^ 64):∃y:aN,y.natAbs≤p*q∧∀(σ:an)(fz:av),sN σ fz .mR (.f (.ae a)) (.f (.ae b))=ac (.f (.ae y),σ):=
 ⟨a*b,ad2 ha hb,fun q9 q9=>agH (ni ha hp) (ni hb hq)⟩
def ab3{a b:aN}{p:af}(ha:a.natAbs≤p)(hp:p<2 ^ 64)(h0:0≤b)(hb:b≤100):∃y:aN,∀(σ:an)(fz:av),sN σ fz (.wB ()) (.f (.ae a)) (.f (.ae b))=ac (.f (.ae y),σ):=
 ⟨_,fun q9 q9=>agJ (ni ha hp) h0 hb⟩
def gz{fl:av}{j4:af}(h0:0<j4)(hm:j4<1000):EC (vC a4 (d+1)) 40 [.a6 0,.f (.ae j4)] fl 1 fun v=>∃k<j4,v=.ae (k:af):=⟨fun m b τ Q hj hb hq=>by
 refine aw fun kz=>?_
 obtain ⟨g,s,n,rfl,hs,hn⟩:=hb
 have m0:(j4:aN)≠0:=fun z=>Rt h0 (Mm z)
 have n1:((n:aN)+1).natAbs≤5000:=a5 (jG hn) hj
 have q64:(5000:af)<2 ^ 64:=by decide
 obtain ⟨y1,h1,e1⟩:=SV (a:=40169) (p:=40169) (by decide) n1 (by decide) q64
 obtain ⟨y2,e2⟩:=ab3 (a:=s+y1+7) (b:=5) (KZ (KZ (jH hs) h1) (by decide:(7:Int).natAbs≤7)) (by decide) (by decide) (by decide)
 have h3:(tD y2 2147483647).natAbs≤2147483647:=jH (agK (b:=2147483647) (by decide))
 obtain ⟨y4,h4,e4⟩:=SV (a:=93001) (p:=93001) (by decide) n1 (by decide) q64
 obtain ⟨y5,e5⟩:=ab3 (a:=tD y2 2147483647+y4) (b:=3) (KZ h3 h4) (by decide) (by decide) (by decide)
 refine kz ?_;try clear kz
 refine MD (fun C e=>?_) ag ag ag ag
 refine bj (fun gg=>?_) fun gg=>?_
 ·apply ai;exact ab2 m0
  apply ai;exact agI m0 (Ru hm (dT ag))
  refine aw fun kz=>?_
  obtain ⟨k,hk,ek⟩:=A9 (a:=(g:aN)) h0
  refine kz ?_;try clear kz
  exact b8 (Q:=Q) (hq (.al [.ae (Hr g j4),.ae s,.ae n,.aG fl]) _ ⟨g / j4,s,n,by rw [Int.ofNat_fdiv],hs,ti hn⟩ ⟨k,hk,a7 am.ae ek⟩) (eG (l:=ac (.al [.ae (Hr g j4),.ae s,.ae n,.aG fl])::τ))
 ·apply ai;exact e1 _ _
  apply ai;exact e2 _ _
  apply ai;exact e4 _ _
  apply ai;exact e5 _ _
  apply ai;exact ab2 m0
  refine aw fun kz=>?_
  obtain ⟨k,hk,ek⟩:=A9 (a:=Hr (tD y5 2147483587) 16) h0
  refine kz ?_;try clear kz
  exact b8 (Q:=Q) (hq (.al [.ae g,.ae s,.ae ((n:aN)+1),.aG fl]) _ ⟨g,s,n+1,ag,hs,jG hn⟩ ⟨k,hk,a7 am.ae ek⟩) (eG (l:=ac (.al [.ae g,.ae s,.ae ((n:aN)+1),.aG fl])::τ))⟩
end
def ec{C C':bw}{k j m:af}{args:ao aC}{fl:av}{P:am→Prop}{b:cD}{τ:an}{Q:KE}(e:C=C')(h:EC C' k args fl j P)(hj:m+j≤5000)(hb:GB fl m b)(q:∀(b':cD)(v:am),GB fl (m+j) b'→P v→Q (.f v) (ac b'::τ)):C k args (ac b::τ) Q:=e▸h.eu m b τ Q hj hb q
def K0{d k j:af}{args as:ao aC}{F:cH}{bd:bK}{fl:av}{P:am→Prop}(h1:a4.tZ[k]? =ac F)(h2:F.bA=.bf bd)(h3:o7 F args=ac as)(h4:lx k 1000=ak)
  (h:∀C:bw,C=vC a4 d→∀(m:af)(b:cD)(τ:an)(Q:KE),m+j≤5000→GB fl m b→(∀(b':cD)(v:am)(σ:an),GB fl (m+j) b'→P v→σ=ac b'::τ→Q (.f v) σ)→E5 ⟨a4,C⟩ F bd as (ac b::τ) Q):EC (vC a4 (d+1)) k args fl j P:=
 ⟨fun m b τ Q hj hb q=>MD (fun C e=>h C e m b τ Q hj hb fun b' v σ gb p es=>es▸q b' v gb p) h1 h2 h3 h4⟩
def MK{b b':cD}{τ l:an}:(ac b'::(τ++l)).take (ac b::τ).length=ac b'::τ:=a7 (ac b':: ·) DZ
def xy{b b':cD}{τ:an}:(ac b'::τ).take (ac b::τ).length=ac b'::τ:=a7 (ac b':: ·) eG
def ML{xs:ao am}{k:af}(h:k<xs.length)(hn:xs.length≤1000):∃x∈xs,∀σ:an,lN a4 σ (.f (.al xs)) (.f (.ae k))=ac x:=
 ⟨xs[k],Av h,fun q9=>uv (ed h) (a5 hn (dT ag))⟩
def SW{xs:ao am}{k:af}(h:k<xs.length)(hn:xs.length≤1000):∃x∈xs,∀σ:an,lN a4 σ (.f (.bE xs)) (.f (.ae k))=ac x:=
 ⟨xs[k],Av h,fun q9=>On (ed h) (a5 hn (dT ag))⟩
structure W where
 ay:Op
 g:aM af
 a:am
 b:am
def W.MM(w:W):am:=cE w.ay.aO (w.g.elim .aA fun k=>.ae k) w.a
def W.m6(w:W):am:=.bE [.ah w.ay.bH,w.MM,w.b]
noncomputable def W.cq(w:W):R:=⟨w.ay,0,w.a,w.b,.aA,0⟩
structure GO(w:W):Prop where
 ay:w.ay=.dh
 gZ:iB w.a=ak
 b:w.b=.aA
 g:w.g=au
section
variable{d:af}{fl:av}
def YE:∀x∈([.aA,.aG ak,.aG aF,.ae 0,.ae 5,.ah "s"] :ao am),iB x=ak:=fun x hx=>ow.mp (show ([.aA,.aG ak,.aG aF,.ae 0,.ae 5,.ah "s"] :ao am).all iB=ak by kernel_rfl) x hx
def xz:EC (vC a4 (d+2)) 41 [.a6 0] fl 1 fun v=>∃w,GO w∧v=W.m6 w:=K0 ag ag ag ag fun C e m b τ Q hj hb hq=>by
 refine ec e (gz (j4:=6) (by decide) (by decide)) hj hb fun b1 v g1 p=>?_
 refine aw fun kz=>?_
 obtain ⟨k,hk,rfl⟩:=p
 obtain ⟨x,hx,ex⟩:=ML (xs:=[.aA,.aG ak,.aG aF,.ae 0,.ae 5,.ah "s"]) hk (by decide)
 refine kz ?_;try clear kz
 apply ai;exact ex _
 exact hq b1 _ _ g1 ⟨⟨.dh,au,x,.aA⟩,⟨ag,YE x hx,ag,ag⟩,ag⟩ xy
structure pS(h:af)(w:W):Prop where
 bm:w.cq.bm ak=ak
 bO:w.ay.bO≤h
 fW:h-w.ay.bO+w.ay.fW=h+1
 nj:w.ay.aO=aF
 ne:w.ay.c3=aF
 g:w.g=au
def GO.fW{h:af}{w:W}(k:GO w):pS h w:=by
 refine aw fun kz=>?_
 obtain ⟨op,g,a,b⟩:=w
 obtain ⟨rfl,k2,rfl,k4⟩:=k
 refine kz ?_;try clear kz
 exact ⟨by show (iB a&&ak&&ak)=ak;refine aq (show iB a=ak from k2) ?_;rfl,fC _,ag,ag,ag,k4⟩
noncomputable def TW:ao Op:=[.dh,.jR,.mL,.zq,.zr,.mD,.iI]
noncomputable def aiL:ao (cF aN aI×am):=[(.inr "getl",.ae 0),(.inr "geti",.ah "@x"),(.inr "getg",.ah "$x")]
def MN(op:Op):am:=(fD (.inr op.bH) aiL).getD .aA
def P9{σ:an}{es:ao (cF aN aI×am)}:lB a4 (σ++[ac (.dK es)]) (.a6 σ.length) "get"=ac .jV:=by
 show (jn _ _).elim ((pt _ _).bind _) _=_
 (refine aq (GD (dP _ _ _)) ?_;refine aq (uT (dP _ _ _)) ?_);rfl
def Vw{σ:an}{es:ao (cF aN aI×am)}{k:aI}:kG a4 (σ++[ac (.dK es)]) .jV (.a6 σ.length) [.f (.ah k)] =ac (.f ((fD (.inr k) es).getD .aA),σ++[ac (.dK es)]):=by
 exact a7 (lj · _) (uT (dP _ _ _))
def TX{k:af}(h:k<2):wL (.ae k)=ak:=rO (P:=fun k:af=>wL (.ae k)=ak) ag (rO ag acu) k h
def Vx{h k:af}(hk:k<2):pS h ⟨.mL,au,MN .mL,.ae k⟩:=by
 have a:MN .mL=.ae 0:=by kernel_rfl
 refine aq a ?_
 exact ⟨by show (v1 0 (.ae 0)&&wL (.ae k)&&ak)=ak;refine aq (TX hk) ?_;rfl,fC _,ag,ag,ag,ag⟩
def YF{h:af}{op:Op}(ho:op∈TW)(n1:(op.bH=="push")=aF)(n2:(op.bH=="dup"&&(h:aN)==0)=aF)(n3:(op.bH=="getl")=aF):pS h ⟨op,au,MN op,.aA⟩∧am.bE [.ah op.bH,MN op,.aA] =W.m6 ⟨op,au,MN op,.aA⟩:=by
 have n1:(op== .dh)=aF:=(gR op .dh).symm.trans n1
 have n3:(op== .mL)=aF:=(gR op .mL).symm.trans n3
 have n2:(op== .mD&&(h:aN)==0)=aF:=gR op .mD▸n2
 rcases eH.mp ho with rfl|ho
 ·exact cG n1
 rcases eH.mp ho with rfl|ho
 ·exact ⟨⟨by kernel_rfl,fC _,ag,ag,ag,ag⟩,ag⟩
 rcases eH.mp ho with rfl|ho
 ·exact cG n3
 rcases eH.mp ho with rfl|ho
 ·exact ⟨⟨by kernel_rfl,fC _,ag,ag,ag,ag⟩,ag⟩
 rcases eH.mp ho with rfl|ho
 ·exact ⟨⟨by kernel_rfl,fC _,ag,ag,ag,ag⟩,ag⟩
 rcases eH.mp ho with rfl|ho
 ·match h,n2 with
  |h+1,_=>exact ⟨⟨by kernel_rfl,jG (fC _),ag,ag,ag,ag⟩,ag⟩
 ·refine aq (jg.mp ho) ?_
  exact ⟨⟨by kernel_rfl,fC _,ag,ag,ag,ag⟩,ag⟩
def oc{h:af}:EC (vC a4 (d+3)) 42 [.a6 0,.f (.ae h)] fl 2 fun v=>∃w,pS h w∧v=W.m6 w:=K0 ag ag ag ag fun C e m b τ Q hj hb hq=>by
 refine ec e (gz (j4:=7) (by decide) (by decide)) (ou hj) hb fun b1 v g1 p=>?_
 refine aw fun kz=>?_
 obtain ⟨k,hk,rfl⟩:=p
 obtain ⟨x,hx,ex⟩:=SW (xs:=TW.map fun op=>.ah op.bH) hk (by decide)
 obtain ⟨op,ho,rfl⟩:=iO.mp hx
 refine kz ?_;try clear kz
 apply ai;exact ex _
 refine or2 (X:=⟨a4,C⟩) (A:=op.bH=="push") (B:=op.bH=="dup"&&(h:aN)==0) (fun K k=>?_) (fun q9=>Fx (fun K k=>?_) fun q9 K k=>?_) _ ?_
 ·exact k
 ·exact k
 ·exact k
 refine bj (fun g=>?_) fun g=>?_
 ·refine ec e xz hj g1 fun b2 v g2 p=>?_
  refine aw fun kz=>?_
  obtain ⟨w,hw,rfl⟩:=p
  refine kz ?_;try clear kz
  exact hq b2 _ _ g2 ⟨w,hw.fW,ag⟩ xy
 ·apply ai;exact P9
  apply ai;exact Vw
  refine bj (fun g4=>?_) fun g4=>?_
  ·refine ec e (gz (j4:=2) (by decide) (by decide)) hj g1 fun b2 v g2 p=>?_
   refine aw fun kz=>?_
   obtain ⟨k,hk,rfl⟩:=p
   obtain rfl:op=.mL:=cz ((gR op .mL).symm.trans g4)
   refine kz ?_;try clear kz
   exact hq b2 _ _ g2 ⟨⟨.mL,au,MN .mL,.ae k⟩,Vx hk,ag⟩ MK
  ·have z:=YF (h:=h) ho (Ls.mp g).1 (Ls.mp g).2 g4
   exact hq b1 _ _ (g1.up (fQ _)) ⟨_,z.1,z.2⟩ MK
end
structure zN(hs:ao af)(p:af)(w:W):Prop where
 bm:w.cq.bm ak=ak
 aiM:∃h,hs[p]? =ac h∧w.ay.bO≤h∧hs[p+1]? =ac (h-w.ay.bO+w.ay.fW)∧∀k,w.ay.aO=ak→w.g=ac k→hs[p+k]? =ac (h-w.ay.bO+w.ay.fW)
structure xA(w:W):Prop where
 bm:w.cq.bm ak=ak
 bO:w.ay.bO=1
 fW:w.ay.fW=0
 nj:w.ay.aO=aF
 ne:w.ay.c3=aF
 g:w.g=au
noncomputable def Cz:ao Op:=[.mM,.zt,.zu,.zv]
noncomputable def TY:ao (cF aN aI×am):=[(.inr "setl",.ae 0),(.inr "seti",.ah "@x"),(.inr "setg",.ah "$x"),(.inr "setc",.ah "C")]
def v7(op:Op):am:=(fD (.inr op.bH) TY).getD .aA
section
variable{d:af}{fl:av}
def ad3{σ:an}{es:ao (cF aN aI×am)}{k:aI}:lN a4 (σ++[ac (.dK es)]) (.a6 σ.length) (.f (.ah k))=fD (.inr k) es:=by
 exact a7 (lj · _) (uT (dP _ _ _))
def Nu{op:Op}(ho:op∈Cz):fD (.inr op.bH) TY=ac (v7 op):=by
 rcases eH.mp ho with rfl|ho
 ·kernel_rfl
 rcases eH.mp ho with rfl|ho
 ·kernel_rfl
 rcases eH.mp ho with rfl|ho
 ·kernel_rfl
 refine aq (jg.mp ho) ?_;kernel_rfl
def Nv{k:af}(hk:k<2):xA ⟨.mM,au,v7 .mM,.ae k⟩:=by
 have a:v7 .mM=.ae 0:=by kernel_rfl
 refine aq a ?_
 exact ⟨by show (v1 0 (.ae 0)&&wL (.ae k)&&ak)=ak;refine aq (TX hk) ?_;rfl,ag,ag,ag,ag,ag⟩
def Qa{op:Op}(ho:op∈Cz)(n3:(op.bH=="setl")=aF):xA ⟨op,au,v7 op,.aA⟩∧am.bE [.ah op.bH,v7 op,.aA] =W.m6 ⟨op,au,v7 op,.aA⟩:=by
 have n3:(op== .mM)=aF:=(gR op .mM).symm.trans n3
 rcases eH.mp ho with rfl|ho
 ·exact cG n3
 rcases eH.mp ho with rfl|ho
 ·exact ⟨⟨by kernel_rfl,ag,ag,ag,ag,ag⟩,ag⟩
 rcases eH.mp ho with rfl|ho
 ·exact ⟨⟨by kernel_rfl,ag,ag,ag,ag,ag⟩,ag⟩
 refine aq (jg.mp ho) ?_
 exact ⟨⟨by kernel_rfl,ag,ag,ag,ag,ag⟩,ag⟩
def GP:EC (vC a4 (d+2)) 43 [.a6 0] fl 2 fun v=>∃w,xA w∧v=W.m6 w:=K0 ag ag ag ag fun C e m b τ Q hj hb hq=>by
 refine ec e (gz (j4:=4) (by decide) (by decide)) (ou hj) hb fun b1 v g1 p=>?_
 refine aw fun kz=>?_
 obtain ⟨k,hk,rfl⟩:=p
 obtain ⟨x,hx,ex⟩:=SW (xs:=Cz.map fun op=>.ah op.bH) hk (by decide)
 obtain ⟨op,ho,rfl⟩:=iO.mp hx
 refine kz ?_;try clear kz
 apply ai;exact ex _
 apply ai;exact ad3.trans (Nu ho)
 refine bj (fun g4=>?_) fun g4=>?_
 ·refine ec e (gz (j4:=2) (by decide) (by decide)) hj g1 fun b2 v g2 p=>?_
  refine aw fun kz=>?_
  obtain ⟨k,hk,rfl⟩:=p
  obtain rfl:op=.mM:=cz ((gR op .mM).symm.trans g4)
  refine kz ?_;try clear kz
  exact hq b2 _ _ g2 ⟨⟨.mM,au,v7 .mM,.ae k⟩,Nv hk,ag⟩ MK
 ·have z:=Qa ho g4
  exact hq b1 _ _ (g1.up (fQ _)) ⟨_,z.1,z.2⟩ MK
noncomputable def gV(g:aM af):am:=g.elim .aA fun k=>.ae k
noncomputable def kK(op:Op)(g:aM af):W:=⟨op,g,.aA,.aA⟩
def uz(g:aM af):EC (vC a4 (d+2)) 44 [.a6 0,.f (gV g)] fl 1 fun v=>∃op:Op,op.aV=ak∧v=W.m6 (kK op g):=K0 ag ag ag ag fun C e m b τ Q hj hb hq=>by
 refine ec e (gz (j4:=2) (by decide) (by decide)) hj hb fun b1 v g1 p=>?_
 refine aw fun kz=>?_
 obtain ⟨k,hk,rfl⟩:=p
 obtain ⟨x,hx,ex⟩:=SW (xs:=[.ah "jumpif",.ah "jumpunless"]) hk (by decide)
 refine kz ?_;try clear kz
 apply ai;exact ex _
 refine hq b1 _ _ g1 ?_ xy
 rcases eH.mp hx with rfl|hx
 ·exact ⟨.iU,ag,ag⟩
 ·refine aq (jg.mp hx) ?_;exact ⟨.eY,ag,ag⟩
noncomputable def jU(op:Op):W:=⟨op,au,.aA,.aA⟩
noncomputable def SX:W:=⟨.qv,au,.ah "t",.aA⟩
noncomputable def K3:W:=⟨.wK,au,.ah "u",.aA⟩
noncomputable def acN:W:=⟨.lQ,au,.ae 0,.aA⟩
noncomputable def agL:W:=⟨.gY (),au,.ah "E",.ah "t"⟩
variable{hs:ao af}{p h:af}{w:W}
def pS.eb(x:hs[p]? =ac h)(y:hs[p+1]? =ac (h+1))(k:pS h w):zN hs p w:=⟨k.bm,h,x,k.bO,k.fW.symm▸y,fun q9 z=>bW (k.nj▸z) mI⟩
def xA.eb(x:hs[p]? =ac (h+1))(y:hs[p+1]? =ac h)(k:xA w):zN hs p w:=⟨k.bm,h+1,x,by refine aq k.bO ?_;exact jG (fC _),by (refine aq k.bO ?_;refine aq k.fW ?_);exact y,fun q9 z=>bW (k.nj▸z) mI⟩
def v8(x:hs[p]? =ac (h+1))(y:hs[p+1]? =ac h):zN hs p (jU .g6):=⟨by kernel_rfl,h+1,x,jG (fC _),y,fun q9 z=>cG z⟩
def Jj(x:hs[p]? =ac (h+1))(y:hs[p+1]? =ac h):zN hs p (jU .dY):=⟨by kernel_rfl,h+1,x,jG (fC _),y,fun q9 z=>cG z⟩
def K4(x:hs[p]? =ac (h+1))(y:hs[p+1]? =ac (h+2)):zN hs p (jU .mD):=⟨by kernel_rfl,h+1,x,jG (fC _),y,fun q9 z=>cG z⟩
def qA(x:hs[p]? =ac (h+2))(y:hs[p+1]? =ac (h+2)):zN hs p (jU .cA):=⟨by kernel_rfl,h+2,x,jG (jG (fC _)),y,fun q9 z=>cG z⟩
def sC{g:aM af}(x:hs[p]? =ac h)(y:hs[p+1]? =ac h)(z:∀k,g=ac k→hs[p+k]? =ac h):zN hs p (kK .bp g):=⟨ag,h,x,fC _,y,fun k q9=>z k⟩
def sX{g:aM af}(x:hs[p]? =ac (h+1))(y:hs[p+1]? =ac (h+1))(z:∀k,g=ac k→hs[p+k]? =ac (h+1)):zN hs p (kK .eB g):=⟨ag,h+1,x,jG (fC _),y,fun k q9=>z k⟩
def vL{op:Op}(hb:op.aV=ak){g:aM af}(x:hs[p]? =ac (h+1))(y:hs[p+1]? =ac h)(z:∀k,g=ac k→hs[p+k]? =ac h):zN hs p (kK op g):=by
 induction op<;>first|exact ⟨ag,h+1,x,jG (fC _),y,fun k q9=>z k⟩|exact cG hb
def Vy:pS h SX:=⟨by kernel_rfl,fC _,ag,ag,ag,ag⟩
def Qb:pS h K3:=⟨by kernel_rfl,fC _,ag,ag,ag,ag⟩
def YG:pS h acN:=⟨by kernel_rfl,fC _,ag,ag,ag,ag⟩
end
def yS(hs:ao af):af→ao W→Prop
 |_,[] =>kD
 |i,w::t=>zN hs i w∧yS hs (i+1) t
def yS.jV{hs:ao af}{l:ao W}:∀{i p:af}{w:W},yS hs i l→l[p]? =ac w→zN hs (i+p) w:=by
 induction l with
 |nil=>exact fun q9 e=>bn e
 |cons x t ih=>
  intro i p w h e
  induction p with
  |zero=>exact cp e▸h.1
  |succ p=>
   rw [← qH,qT]
   exact ih h.2 e
def MO(l:ao W):Prop:=∀(p:af)(v:W)(k:af),l[p]? =ac v→v.ay.aO=ak→v.g=ac k→p+k<l.length
structure uW(h:af)(l:ao W):Prop where
 aju:∃hs:ao af,hs[0]? =ac h∧hs.length=l.length+1∧yS hs 0 l
 bh:l.length≤5
 gx:∃t w,l=t++[w] ∧(w.ay.aO=aF→w.g=au)∧(w.ay.c3=ak→w.g≠ac 1→MO l)
def sY(l:ao W):am:=.al (l.map W.m6)
noncomputable def FM(F:cH):bK:=match F.bA with
 |.bf b=>b
 |_=>.ab
section
variable{d:af}{fl:av}
def kO{m j:af}(hj:m+j≤5000)(i:af)(h:i≤j):m+i≤5000:=a5 (kN h m) hj
def pS.up{h:af}{w:W}(k:pS h w):pS (h+1) w:=⟨k.bm,ti k.bO,by (refine aq (Nat.succ_sub k.bO) ?_;rewrite [ZY];refine aq k.fW ?_;rfl),k.nj,k.ne,k.g⟩
def Nw{h:af}:EC (vC a4 (d+4)) 45 [.a6 0,.f (.ae h)] fl 5 fun v=>∃l,uW h l∧v=sY l:=K0 ag ag ag ag fun C e m b τ Q hj hb hq=>by
 refine ec e (gz (j4:=3) (by decide) (by decide)) (kO hj 1 (by decide)) hb fun b1 v g1 p=>?_
 refine aw fun kz=>?_
 obtain ⟨k,hk,rfl⟩:=p
 refine kz ?_;try clear kz
 refine bj (fun g=>?_) fun g=>?_
 ·refine ec e oc (kO hj 3 (by decide)) g1 fun b2 v g2 p=>?_
  refine aw fun kz=>?_
  obtain ⟨w1,k1,rfl⟩:=p
  refine kz ?_;try clear kz
  refine ec e GP hj g2 fun b3 v g3 p=>?_
  refine aw fun kz=>?_
  obtain ⟨w2,k2,rfl⟩:=p
  refine kz ?_;try clear kz
  exact hq b3 _ _ g3 ⟨[w1,kK .eB (ac 3),jU .mD,w2,jU .g6],⟨⟨[h,h+1,h+1,h+2,h+1,h],ag,ag,k1.eb ag ag,sX ag ag (fun k e=>by obtain rfl:=cp e;rfl),K4 ag ag,k2.eb ag ag,v8 ag ag,di⟩,c9 5,⟨[w1,kK .eB (ac 3),jU .mD,w2],jU .g6,ag,fun q9=>ag,fun z=>cG z⟩⟩,ag⟩ xy
 refine bj (fun g=>?_) fun g=>?_
 ·refine ec e oc (kO hj 3 (by decide)) g1 fun b2 v g2 p=>?_
  refine aw fun kz=>?_
  obtain ⟨w1,k1,rfl⟩:=p
  refine kz ?_;try clear kz
  refine ec e oc hj g2 fun b3 v g3 p=>?_
  refine aw fun kz=>?_
  obtain ⟨w2,k2,rfl⟩:=p
  refine kz ?_;try clear kz
  exact hq b3 _ _ g3 ⟨[w1,kK .eB (ac 3),jU .g6,w2,jU .g6],⟨⟨[h,h+1,h+1,h,h+1,h],ag,ag,k1.eb ag ag,sX ag ag (fun k e=>by obtain rfl:=cp e;rfl),v8 ag ag,k2.eb ag ag,v8 ag ag,di⟩,c9 5,⟨[w1,kK .eB (ac 3),jU .g6,w2],jU .g6,ag,fun q9=>ag,fun z=>cG z⟩⟩,ag⟩ xy
 ·refine ec e oc (kO hj 3 (by decide)) g1 fun b2 v g2 p=>?_
  refine aw fun kz=>?_
  obtain ⟨w1,k1,rfl⟩:=p
  refine kz ?_;try clear kz
  refine ec e oc hj g2 fun b3 v g3 p=>?_
  refine aw fun kz=>?_
  obtain ⟨w2,k2,rfl⟩:=p
  refine kz ?_;try clear kz
  exact hq b3 _ _ g3 ⟨[w1,w2,kK .eB (ac 2),jU .cA,jU .cA],⟨⟨[h,h+1,h+2,h+2,h+2,h+2],ag,ag,k1.eb ag ag,k2.up.eb ag ag,sX ag ag (fun k e=>by obtain rfl:=cp e;rfl),qA ag ag,qA ag ag,di⟩,c9 5,⟨[w1,w2,kK .eB (ac 2),jU .cA],jU .cA,ag,fun q9=>ag,fun z=>cG z⟩⟩,ag⟩ xy
end
structure oU(h:af)(w:W):Prop where
 g:w.g=au
 bm:w.cq.bm ak=ak
 bO:w.ay.bO≤h
def LS(h:af)(τ dR:an)(j:af)(L:ao am):Prop:=(∃r,dR=τ++r)∧(dR[j]? =ac (ac (.al L)))∧(L.length≤12)∧(τ.length≤j)∧(∀x∈L,∃w,oU h w∧x=W.m6 w)
section
variable{h:af}{τ dR:an}{j:af}{L:ao am}(s0:LS h τ dR j L)
include s0
def LS.SY:∃r,dR=τ++r:=s0.1
def LS.eb:dR[j]? =ac (ac (.al L)):=s0.2.1
def LS.bh:L.length≤12:=s0.2.2.1
def LS.pH:τ.length≤j:=s0.2.2.2.1
def LS.all:∀x∈L,∃w,oU h w∧x=W.m6 w:=s0.2.2.2.2
end
def LS.pQ{h:af}{τ dR:an}{L:ao am}(pre:∃r,dR=τ++r)(len:L.length≤12)(all:∀x∈L,∃w,oU h w∧x=W.m6 w):LS h τ (dR++[ac (.al L)]) dR.length L:=
 let ⟨r,e⟩:=pre
 ⟨⟨r++[ac (.al L)],by (refine aq e ?_;rw [qi])⟩,dP _ _ _,len,by (refine aq e ?_;refine aq dg ?_);exact ff _ _,all⟩
def Nx{h:af}{L:ao am}{w:W}(a:∀x∈L,∃w,oU h w∧x=W.m6 w)(k:oU h w):∀x∈L++[w.m6],∃w,oU h w∧x=W.m6 w:=fun x hx=>
 (pD.mp hx).elim (a x) fun z=>⟨w,k,jg.mp z⟩
def YH{τ dR r:an}{j:af}{x:aM cD}(e:dR=τ++r)(hj:τ.length≤j):∃r,dR.set j x=τ++r:=⟨r.set (j-τ.length) x,by (refine aq e ?_;refine aq (Hc _ _ hj) ?_;rfl)⟩
def LS.dh{h:af}{τ dR:an}{j:af}{L:ao am}{w:W}(S:LS h τ dR j L)(k:oU h w)(len:L.length≤11):LS h τ (dR.set j (ac (.al (L++[w.m6])))) j (L++[w.m6]):=
 let ⟨r,e⟩:=S.SY
 ⟨YH e S.pH,LG (fM.mp S.eb).1,by refine aq dg ?_;exact jG len,S.pH,Nx S.all k⟩
def Jk{h:af}:∀{l:ao W},(∀w∈l,oU h w)→∀x∈l.map W.m6,∃w,oU h w∧x=W.m6 w:=fun {l} a x hx=>
 let ⟨w,hw,e⟩:=iO.mp hx
 ⟨w,a w hw,e.symm⟩
def pS.qb{h:af}{w:W}(k:pS h w):oU h w:=⟨k.g,k.bm,k.bO⟩
section
variable{d:af}{fl:av}
def ab4{b:cD}{dR:an}{j:af}{L:ao am}{x:am}(h:dR[j]? =ac (ac (.al L)))(len:L.length≤100000):kG a4 (ac b::dR) .eA (.a6 (j+1)) [.f x] =ac (.f .aA,ac b::dR.set j (ac (.al (L++[x])))):=jo (σ:=ac b::dR) h len
def agM{σ:an}{i:af}{xs ys:ao am}(h:σ[i]? =ac (ac (.al xs)))(hn:(xs++ys).length≤100000):sN σ aF .ci (.a6 i) (.f (.al ys))=ac (.a6 σ.length,σ++[ac (.al (xs++ys))]):=by
 have e:mV σ (.a6 i)=ac xs:=KF h
 show (mV σ (.a6 i)).bind _=_
 refine aq e ?_
 exact iD hn
def agN{h:af}:EC (vC a4 (d+4)) 46 [.a6 0,.f (.ae h)] fl 6 fun v=>∃w,oU h w∧v=W.m6 w:=K0 ag ag ag ag fun C e m b τ Q hj hb hq=>by
 have t4:∀(b1:cD)(dR:an)(j:af)(L:ao am),GB fl (m+5) b1→LS h τ dR j L→L≠ [] →fI ⟨a4,C⟩ (fu 4 (FM sO)) [ac (.a6 0),ac (.f (.ae h)),ac (.a6 (j+1))] (ac b1::dR) (oA aF (ac b::τ).length Q):=fun b1 dR j L g1 S nl=>by
  apply ai;exact yO (σ:=ac b1::dR) (i:=j+1) S.eb (a5 S.bh (by decide))
  refine ec e (gz (Hg.mpr nl) (ni S.bh (by decide))) hj g1 fun b2 v g2 p=>?_
  refine aw fun kz=>?_
  obtain ⟨k,hk,rfl⟩:=p
  refine kz ?_;try clear kz
  apply ai;exact Es (σ:=ac b2::dR) (i:=j+1) S.eb (ed hk) (a5 S.bh (by decide))
  obtain ⟨r,er⟩:=S.SY
  refine hq b2 _ _ g2 (S.all _ (Av hk)) ?_
  refine aq er ?_;exact MK
 have t3:∀(b1:cD)(dR:an)(j:af)(L:ao am),GB fl (m+3) b1→LS h τ dR j L→L.length≤6→(L=[] →h<3)→fI ⟨a4,C⟩ (fu 3 (FM sO)) [ac (.a6 0),ac (.f (.ae h)),ac (.a6 (j+1))] (ac b1::dR) (oA aF (ac b::τ).length Q):=fun b1 dR j L g1 S l6 nl=>by
  refine bj (fun g=>?_) fun g=>?_
  ·refine ec e oc (kO hj 5 (by decide)) g1 fun b2 v g2 p=>?_
   refine aw fun kz=>?_
   obtain ⟨w,k,rfl⟩:=p
   refine kz ?_;try clear kz
   have len:(L++[w,SX,K3,acN,kK .bp au].map W.m6).length≤11:=by refine aq dg ?_;exact qh l6 5
   have all:∀x∈L++[w,SX,K3,acN,kK .bp au].map W.m6,∃w,oU h w∧x=W.m6 w:=fun x hx=>(pD.mp hx).elim (S.all x) fun hx=>Jk (fun v hv=>by
    rcases eH.mp hv with rfl|hv
    ·exact k.qb
    rcases eH.mp hv with rfl|hv
    ·exact (Vy (h:=h)).qb
    rcases eH.mp hv with rfl|hv
    ·exact (Qb (h:=h)).qb
    rcases eH.mp hv with rfl|hv
    ·exact (YG (h:=h)).qb
    refine aq (jg.mp hv) ?_
    exact ⟨ag,ag,fC _⟩) x hx
   apply ai;exact agM (σ:=ac b2::dR) (i:=j+1) S.eb (a5 len (by decide))
   have S2:=LS.pQ S.SY (a5 len (by decide)) all
   apply ai;exact cT (σ:=ac b2::(dR++[_])) (i:=dR.length+1) S2.eb
   apply ai;exact ab4 S2.eb (a5 len (by decide))
   refine t4 _ _ _ _ g2 (S2.dh (w:=agL) ⟨ag,by kernel_rfl,fC _⟩ len) (by (rewrite [← Hg];refine aq dg ?_);exact qI _)
  ·refine t4 _ _ _ _ (g1.up (by lia)) S (fun z=>yi g (nz.mpr (nl z)))
 have t2:∀(b1:cD)(dR:an)(j:af)(L:ao am),GB fl (m+3) b1→LS h τ dR j L→L.length≤5→(L=[] →h<3)→fI ⟨a4,C⟩ (fu 2 (FM sO)) [ac (.a6 0),ac (.f (.ae h)),ac (.a6 (j+1))] (ac b1::dR) (oA aF (ac b::τ).length Q):=fun b1 dR j L g1 S l5 nl=>by
  refine bj (fun g=>?_) fun g=>?_
  ·apply ai;exact cT (σ:=ac b1::dR) (i:=j+1) S.eb
   apply ai;exact ab4 S.eb (a5 l5 (by decide))
   refine t3 _ _ _ _ g1 (S.dh (w:=jU .cA) ⟨ag,by kernel_rfl,nz.mp (eX g)⟩ (a5 l5 (by decide))) (by refine aq dg ?_;exact jG l5) (fun z=>?_)
   exact bW (a7 uI z) (by refine aq dg ?_;exact ZT _)
  ·exact t3 _ _ _ _ g1 S (ti l5) nl
 have S0:LS h τ (τ++[ac (.al [])]) τ.length [] :=LS.pQ ⟨[],(ny τ).symm⟩ (fC _) fun q9 z=>bW z hU
 apply ai;exact iD (σ:=ac b::τ) (by decide)
 refine bj (fun g=>?_) fun g=>?_
 ·refine ec e GP (kO hj 2 (by decide)) hb fun b1 v g1 p=>?_
  refine aw fun kz=>?_
  obtain ⟨w,k,rfl⟩:=p
  refine kz ?_;try clear kz
  refine ec e (uz au) (kO hj 3 (by decide)) g1 fun b2 v g2 p=>?_
  refine aw fun kz=>?_
  obtain ⟨op,ob,rfl⟩:=p
  refine kz ?_;try clear kz
  have h1:1≤h:=nz.mp (eX g)
  have all:∀v∈ [jU .g6,w,kK op au,kK .eB au,jU .dY],oU h v:=fun v hv=>by
   rcases eH.mp hv with rfl|hv
   ·exact ⟨ag,by kernel_rfl,h1⟩
   rcases eH.mp hv with rfl|hv
   ·exact ⟨k.g,k.bm,k.bO.symm▸h1⟩
   rcases eH.mp hv with rfl|hv
   ·induction op<;>first|exact ⟨ag,ag,h1⟩|exact cG ob
   rcases eH.mp hv with rfl|hv
   ·exact ⟨ag,ag,h1⟩
   refine aq (jg.mp hv) ?_
   exact ⟨ag,by kernel_rfl,h1⟩
  apply ai;exact iD (σ:=ac b2::(τ++[ac (.al [])])) (xs:=[jU .g6,w,kK op au,kK .eB au,jU .dY].map W.m6) (dT ag)
  exact t2 _ _ _ _ g2 (LS.pQ ⟨_,ag⟩ (dT ag) (Jk all)) (dT ag) fun z=>nomatch z
 ·exact t2 _ _ _ _ (hb.up (ff _ _)) S0 (fC _) fun q9=>Rq fun z=>yi g (nz.mpr (iN (by decide) z))
end
def MP(n:af):af→ao W→Prop
 |_,[] =>kD
 |i,w::t=>(∀k,w.g=ac k→i+k<n)∧MP n (i+1) t
def MP.jV{n:af}{l:ao W}:∀{i p k:af}{w:W},MP n i l→l[p]? =ac w→w.g=ac k→i+p+k<n:=by
 induction l with
 |nil=>exact fun q9 e=>bn e
 |cons x t ih=>
  intro i p k w h e g
  induction p with
  |zero=>exact h.1 k ((a7 W.g (cp e)).trans g)
  |succ p=>
   (rewrite [← qH];refine aq (qT i p 1) ?_)
   exact ih h.2 e g
def MO.eu{l:ao W}(h:MP l.length 0 l):MO l:=fun p v k e q9 g=>nu p▸h.jV e g
def qp{w:W}{P:af→Prop}(e:w.g=au):∀k,w.g=ac k→P k:=fun k z=>bW (e.symm.trans z) (fun z=>bn z)
def uW.HY{h:af}{l t:ao W}{w:W}(hs:ao af)(h0:hs[0]? =ac h)(hl:hs.length=l.length+1)(r:yS hs 0 l)(len:l.length≤5)(el:l=t++[w])(e:w.ay.c3=ak→w.g≠ac 1→MO l)(nj:w.ay.aO=aF→w.g=au):uW h l:=⟨⟨hs,h0,hl,r⟩,len,t,w,el,nj,e⟩
def YI{op:Op}(h:op.aV=ak):op.aO=ak:=by induction op<;>first|rfl|exact cG h
section
variable{d:af}{fl:av}{h:af}
def oU.agO{w:W}(k:oU h w):uW h [w] :=.HY (t:=[]) (w:=w) [h,h-w.ay.bO+w.ay.fW] ag ag ⟨⟨k.bm,h,ag,k.bO,ag,fun q9 q9 z=>qp (P:=fun k=>_) k.g _ z⟩,di⟩ (dT ag) ag (fun q9 q9=>.eu ⟨qp k.g,di⟩) fun q9=>k.g
def OF{way:af}:EC (vC a4 (d+5)) 47 [.a6 0,.f (.ae h),.f (.ae way)] fl 6 fun v=>∃l,uW h l∧v=sY l:=K0 ag ag ag ag fun C e m b τ Q hj hb hq=>by
 have u2:=kO hj 2 (by decide)
 have u4:=kO hj 4 (by decide)
 refine bj (fun g=>?_) fun g=>?_
 ·refine ec e oc u2 hb fun b1 v g1 p=>?_
  refine aw fun kz=>?_
  obtain ⟨w1,k1,rfl⟩:=p
  refine kz ?_;try clear kz
  refine ec e oc u4 g1 fun b2 v g2 p=>?_
  refine aw fun kz=>?_
  obtain ⟨w2,k2,rfl⟩:=p
  refine kz ?_;try clear kz
  exact hq b2 _ _ (g2.up (ff _ 2)) ⟨[w1,w2,jU .g6,jU .g6],.HY (t:=[w1,w2,jU .g6]) (w:=jU .g6) [h,h+1,h+2,h+1,h] ag ag ⟨k1.eb ag ag,k2.up.eb ag ag,v8 ag ag,v8 ag ag,di⟩ (dT ag) ag (fun z=>cG z) fun q9=>ag,ag⟩ xy
 refine bj (fun g=>?_) fun g=>?_
 ·refine ec e oc u2 hb fun b1 v g1 p=>?_
  refine aw fun kz=>?_
  obtain ⟨w1,k1,rfl⟩:=p
  refine kz ?_;try clear kz
  refine ec e (uz (ac 2)) (kO hj 3 (by decide)) g1 fun b2 v g2 p=>?_
  refine aw fun kz=>?_
  obtain ⟨op,ob,rfl⟩:=p
  refine kz ?_;try clear kz
  exact hq b2 _ _ (g2.up (ff _ 3)) ⟨[w1,kK op (ac 2),kK .bp au,kK .bp au],.HY (t:=[w1,kK op (ac 2),kK .bp au]) (w:=kK .bp au) [h,h+1,h,h,h] ag ag ⟨k1.eb ag ag,vL ob ag ag (fun k e=>by obtain rfl:=cp e;rfl),sC ag ag (qp (w:=kK .bp au) ag),sC ag ag (qp (w:=kK .bp au) ag),di⟩ (dT ag) ag (fun q9 q9=>.eu ⟨qp k1.g,(fun k e=>by obtain rfl:=cp e;exact dT ag),qp ag,qp ag,di⟩) fun q9=>ag,ag⟩ xy
 refine bj (fun g=>?_) fun g=>?_
 ·refine ec e oc u2 hb fun b1 v g1 p=>?_
  refine aw fun kz=>?_
  obtain ⟨w1,k1,rfl⟩:=p
  refine kz ?_;try clear kz
  refine ec e oc u4 g1 fun b2 v g2 p=>?_
  refine aw fun kz=>?_
  obtain ⟨w2,k2,rfl⟩:=p
  refine kz ?_;try clear kz
  refine ec e (gz (j4:=2) (by decide) (by decide)) (kO hj 5 (by decide)) g2 fun b3 v g3 p=>?_
  refine aw fun kz=>?_
  obtain ⟨k,hk,rfl⟩:=p
  refine kz ?_;try clear kz
  rcases k with _|_|k
  ·exact hq b3 _ _ (g3.up (fQ _)) ⟨[w1,w2,jU .cA,jU .cA],.HY (t:=[w1,w2,jU .cA]) (w:=jU .cA) [h,h+1,h+2,h+2,h+2] ag ag ⟨k1.eb ag ag,k2.up.eb ag ag,qA ag ag,qA ag ag,di⟩ (dT ag) ag (fun z=>cG z) fun q9=>ag,ag⟩ xy
  ·exact hq b3 _ _ (g3.up (fQ _)) ⟨[w1,w2,jU .cA,jU .cA,jU .cA],.HY (t:=[w1,w2,jU .cA,jU .cA]) (w:=jU .cA) [h,h+1,h+2,h+2,h+2,h+2] ag ag ⟨k1.eb ag ag,k2.up.eb ag ag,qA ag ag,qA ag ag,qA ag ag,di⟩ (dT ag) ag (fun z=>cG z) fun q9=>ag,ag⟩ xy
  ·exact bW hk (lw.mpr (G7 ..))
 refine bj (fun g=>?_) fun g=>?_
 ·refine ec e oc u2 hb fun b1 v g1 p=>?_
  refine aw fun kz=>?_
  obtain ⟨w1,k1,rfl⟩:=p
  refine kz ?_;try clear kz
  exact hq b1 _ _ (g1.up (ff _ 4)) ⟨[w1,jU .mD,jU .cA],.HY (t:=[w1,jU .mD]) (w:=jU .cA) [h,h+1,h+2,h+2] ag ag ⟨k1.eb ag ag,K4 ag ag,qA ag ag,di⟩ (dT ag) ag (fun z=>cG z) fun q9=>ag,ag⟩ xy
 refine bj (fun g=>?_) fun g=>?_
 ·refine ec e oc u2 hb fun b1 v g1 p=>?_
  refine aw fun kz=>?_
  obtain ⟨w1,k1,rfl⟩:=p
  refine kz ?_;try clear kz
  refine ec e GP u4 g1 fun b2 v g2 p=>?_
  refine aw fun kz=>?_
  obtain ⟨w2,k2,rfl⟩:=p
  refine kz ?_;try clear kz
  exact hq b2 _ _ (g2.up (ff _ 2)) ⟨[w1,jU .mD,w2,jU .g6],.HY (t:=[w1,jU .mD,w2]) (w:=jU .g6) [h,h+1,h+2,h+1,h] ag ag ⟨k1.eb ag ag,K4 ag ag,k2.eb ag ag,v8 ag ag,di⟩ (dT ag) ag (fun z=>cG z) fun q9=>ag,ag⟩ xy
 refine bj (fun g=>?_) fun g=>?_
 ·refine ec e Nw (kO hj 5 (by decide)) hb fun b1 v g1 p=>?_
  exact hq b1 _ _ (g1.up (fQ _)) p xy
 refine bj (fun g=>?_) fun g=>?_
 ·refine ec e xz (kO hj 1 (by decide)) hb fun b1 v g1 p=>?_
  refine aw fun kz=>?_
  obtain ⟨w1,k1,rfl⟩:=p
  refine kz ?_;try clear kz
  refine ec e (uz au) u2 g1 fun b2 v g2 p=>?_
  refine aw fun kz=>?_
  obtain ⟨op,ob,rfl⟩:=p
  refine kz ?_;try clear kz
  exact hq b2 _ _ (g2.up (ff _ 4)) ⟨[w1,kK op au],.HY (t:=[w1]) (w:=kK op au) [h,h+1,h] ag ag ⟨k1.fW.eb ag ag,vL ob ag ag (qp (w:=kK op au) ag),di⟩ (dT ag) ag (fun q9 q9=>.eu ⟨qp k1.g,qp ag,di⟩) fun q9=>ag,ag⟩ xy
 refine bj (fun g=>?_) fun g=>?_
 ·refine ec e xz (kO hj 1 (by decide)) hb fun b1 v g1 p=>?_
  refine aw fun kz=>?_
  obtain ⟨w1,k1,rfl⟩:=p
  refine kz ?_;try clear kz
  exact hq b1 _ _ (g1.up (ff _ 5)) ⟨[w1,kK .bp au],.HY (t:=[w1]) (w:=kK .bp au) [h,h+1,h+1] ag ag ⟨k1.fW.eb ag ag,sC ag ag (qp (w:=kK .bp au) ag),di⟩ (dT ag) ag (fun q9 q9=>.eu ⟨qp k1.g,qp ag,di⟩) fun q9=>ag,ag⟩ xy
 refine bj (fun g=>?_) fun g=>?_
 ·refine ec e oc u2 hb fun b1 v g1 p=>?_
  refine aw fun kz=>?_
  obtain ⟨w1,k1,rfl⟩:=p
  refine kz ?_;try clear kz
  refine ec e (uz (ac 1)) (kO hj 3 (by decide)) g1 fun b2 v g2 p=>?_
  refine aw fun kz=>?_
  obtain ⟨op,ob,rfl⟩:=p
  refine kz ?_;try clear kz
  refine ec e xz u4 g2 fun b3 v g3 p=>?_
  refine aw fun kz=>?_
  obtain ⟨w2,k2,rfl⟩:=p
  refine kz ?_;try clear kz
  refine ec e (gz (j4:=3) (by decide) (by decide)) (kO hj 5 (by decide)) g3 fun b4 v g4 p=>?_
  refine aw fun kz=>?_
  obtain ⟨k,hk,rfl⟩:=p
  refine kz ?_;try clear kz
  rcases k with _|_|_|k
  ·exact hq b4 _ _ (g4.up (fQ _)) ⟨[kK .bp (ac 1)],.HY (t:=[]) (w:=kK .bp (ac 1)) [h,h] ag ag ⟨sC ag ag (fun k e=>by obtain rfl:=cp e;rfl),di⟩ (dT ag) ag (fun q9 z=>bW ag z) (fun z=>cG z),ag⟩ xy
  ·exact hq b4 _ _ (g4.up (fQ _)) ⟨[w1,kK op (ac 1)],.HY (t:=[w1]) (w:=kK op (ac 1)) [h,h+1,h] ag ag ⟨k1.eb ag ag,vL ob ag ag (fun k e=>by obtain rfl:=cp e;rfl),di⟩ (dT ag) ag (fun q9 z=>bW ag z) (fun z=>bW ((YI ob).symm.trans z) (fun z=>cG z)),ag⟩ xy
  ·exact hq b4 _ _ (g4.up (fQ _)) ⟨[w2,kK .eB (ac 1)],.HY (t:=[w2]) (w:=kK .eB (ac 1)) [h,h+1,h+1] ag ag ⟨k2.fW.eb ag ag,sX ag ag (fun k e=>by obtain rfl:=cp e;rfl),di⟩ (dT ag) ag (fun q9 z=>bW ag z) (fun z=>cG z),ag⟩ xy
  ·exact bW hk (lw.mpr (G7 ..))
 refine bj (fun g=>?_) fun g=>?_
 ·refine ec e oc u2 hb fun b1 v g1 p=>?_
  refine aw fun kz=>?_
  obtain ⟨w1,k1,rfl⟩:=p
  refine kz ?_;try clear kz
  exact hq b1 _ _ (g1.up (ff _ 4)) ⟨[kK .bp (ac 3),w1,jU .g6],.HY (t:=[kK .bp (ac 3),w1]) (w:=jU .g6) [h,h,h+1,h] ag ag ⟨sC ag ag (fun k e=>by obtain rfl:=cp e;rfl),k1.eb ag ag,v8 ag ag,di⟩ (dT ag) ag (fun z=>cG z) fun q9=>ag,ag⟩ xy
 ·refine ec e agN hj hb fun b1 v g1 p=>?_
  refine aw fun kz=>?_
  obtain ⟨w1,k1,rfl⟩:=p
  refine kz ?_;try clear kz
  exact hq b1 _ _ g1 ⟨[w1],k1.agO,ag⟩ xy
end
def Jl(op:Op):aN:=(op.fW:aN)-op.bO
noncomputable def acO:Op→av
 |.g6|.dY=>ak
 |_=>aF
noncomputable def isZ:Op→av
 |.cA|.bp|.eB|.gY _=>ak
 |_=>aF
def aiN:(fx.all fun op=>d3 (jh (.ah op.bH) [.ah "pop",.ah "leave"]) (acO op))=ak:=by kernel_rfl
def z_b:(fx.all fun op=>d3 (jh (.ah op.bH) [.ah "swap",.ah "jump",.ah "jumpnil",.ah "fail"]) (isZ op))=ak:=by kernel_rfl
def ad4(op:Op):(cE (acO op||op.fU||op.aV) (Jl op== -1) (Jl op==cE (isZ op) 0 1))=ak:=kx (p:=fun op=>cE (acO op||op.fU||op.aV) (Jl op== -1) (Jl op==cE (isZ op) 0 1)) (by kernel_rfl) op
def YJ{op:Op}{h:af}(t:op.bO≤h):(h:aN)+Jl op=((h-op.bO+op.fW:af):aN):=by
 (rewrite [aaR];refine aq (Int.natCast_sub t) ?_)
 unfold Jl
 (refine aq Sm ?_;refine aq Sm ?_;rw [aaU,Int.add_comm (op.fW:aN)])
def PH(τ:an)(b:cD)(aa:ao W)(ba:ao af):an:=ac b::(τ++[ac (.al (aa.map W.m6)),ac (.al (bI ba))])
section
variable{d:af}
def Vz(op:Op):PC (vC a4 (d+1)) 48 [.f (.ah op.bH)] (.ae (Jl op)):=pf ag ag ag ag fun C e σ Q hq=>by
 have z:=ad4 op
 apply ai;exact rF aiN op
 refine bj (fun g=>?_) fun g=>?_
 ·rw [g] at z
  rw [cz (show (Jl op== -1)=ak from z)] at hq
  refine ig g ?_
  exact b8 (Q:=Q) hq eG
 apply ai;exact rF Cr op
 refine bj (fun g2=>?_) fun g2=>?_
 ·rw [g,g2] at z
  rw [cz (show (Jl op== -1)=ak from z)] at hq
  refine ig g2 ?_
  exact b8 (Q:=Q) hq eG
 apply ai;exact iw op
 refine bj (fun g3=>?_) fun g3=>?_
 ·rw [g,g2,g3] at z
  rw [cz (show (Jl op== -1)=ak from z)] at hq
  exact b8 (Q:=Q) hq eG
 rw [g,g2,g3] at z
 apply ai;exact rF z_b op
 refine bj (fun g4=>?_) fun g4=>?_
 ·rw [g4] at z
  rw [cz (show (Jl op==0)=ak from z)] at hq
  exact b8 (Q:=Q) hq eG
 ·rw [g4] at z
  rw [cz (show (Jl op==1)=ak from z)] at hq
  exact b8 (Q:=Q) hq eG
def PH.bh{τ:an}{b:cD}{aa gJ:ao W}{ba aiO:ao af}:(PH τ b aa ba).take (PH τ b gJ aiO).length=PH τ b aa ba:=Hb (by unfold PH;(refine aq o3 ?_;refine aq o3 ?_;refine aq dg ?_;refine aq dg ?_);exact c9 _)
def ad5{τ:an}{b:cD}{aa:ao W}{ba:ao af}:lB a4 (PH τ b aa ba) (.a6 (τ.length+1)) "append"=ac .eA:=cT (σ:=PH τ b aa ba) (i:=τ.length+1) (dP τ _ _)
def ad6{τ:an}{b:cD}{aa:ao W}{ba:ao af}:lB a4 (PH τ b aa ba) (.a6 (τ.length+2)) "append"=ac .eA:=cT (σ:=PH τ b aa ba) (i:=τ.length+2) (mZ τ _ _ _)
def agP{τ:an}{b:cD}{aa:ao W}{ba:ao af}{w:W}(hn:aa.length≤500):kG a4 (PH τ b aa ba) .eA (.a6 (τ.length+1)) [.f w.m6] =ac (.f .aA,PH τ b (aa++[w]) ba):=by
 refine (jo (σ:=PH τ b aa ba) (i:=τ.length+1) (dP τ _ _) (by rw [b9];exact a5 hn (by decide))).trans ?_
 unfold PH
 (refine aq DU ?_;rewrite [my];refine aq qJ ?_);rfl
def agQ{τ:an}{b:cD}{aa:ao W}{ba:ao af}{h:af}(hn:ba.length≤500):kG a4 (PH τ b aa ba) .eA (.a6 (τ.length+2)) [.f (.ae h)] =ac (.f .aA,PH τ b aa (ba++[h])):=by
 refine (jo (σ:=PH τ b aa ba) (i:=τ.length+2) (mZ τ _ _ _) (by unfold bI;rw [b9];exact a5 hn (by decide))).trans ?_
 unfold PH
 (refine aq DU ?_;rw [Er,sV])
def K5{τ:an}{b:cD}{aa l:ao W}{ba hs:ao af}{h h':af}(hr:yS hs 0 l)(h0:hs[0]? =ac h)(h1:hs[l.length]? =ac h')(nr:aa.length≤20)(nh:ba.length≤20)(nl:l.length≤5):
  RC (vC a4 (d+2)) 49 [.a6 (τ.length+1),.a6 (τ.length+2),.f (sY l),.f (.ae h)] (.ae h') (PH τ b aa ba) (PH τ b (aa++l) (ba++hs.take l.length)):=rf ag ag ag ag fun C e Q hq=>by
 apply ai;exact dJ (a5 nl (by decide))
 have e0:hs.getD 0 0=h:=by (rewrite [Ha];refine aq h0 ?_);rfl
 have e1:hs.getD l.length 0=h':=by (rewrite [Ha];refine aq h1 ?_);rfl
 subst e0
 have z:PH τ b aa ba=PH τ b (aa++l.take 0) (ba++hs.take 0):=by (refine aq RR ?_;refine aq RR ?_;rw [ny,ny])
 refine aq z ?_
 refine t9 (fun i=>PH τ b (aa++l.take i) (ba++hs.take i)) (fun i (g:aM aC)=>[ac (.a6 (τ.length+1)),ac (.a6 (τ.length+2)),ac (.f (sY l)),ac (.f (.ae (hs.getD i 0:af))),g]) (g:=au) (fun i w g N hi hN=>?_) fun g=>?_
 ·refine aw fun kz=>?_
  obtain ⟨_,hw,x,tk,y,_⟩:=hr.jV hi
  refine kz ?_;try clear kz
  rw [nu] at x y
  have ei:hs.getD i 0=hw:=by (rewrite [Ha];refine aq x ?_);rfl
  have ej:hs.getD (i+1) 0=hw-w.ay.bO+w.ay.fW:=by (rewrite [Ha];refine aq y ?_);rfl
  have hN:=hN (ac (.f w.m6))
  rw [ej,uG,hi,uG,x,← qi,← qi,← YJ tk] at hN
  have n1:(aa++l.take i).length≤25:=by
   refine aq dg ?_
   exact tq nr (a5 (wx _ _) nl)
  have il:i<l.length:=(fM.mp hi).1
  have n2:(ba++hs.take i).length≤25:=by
   refine aq dg ?_
   exact tq nh (a5 (Hh _ _) (a5 (jH il) nl))
  refine aq ei ?_
  apply ai;exact ad5
  apply ai;exact agP (a5 n1 (by decide))
  apply ai;exact ad6
  apply ai;exact agQ (a5 n2 (by decide))
  refine pc e (Vz w.ay) ?_
  exact hN
 ·(refine aq eG ?_;refine aq e1 ?_)
  exact b8 (Q:=Q) hq PH.bh
end
structure afj(ba hs:ao af)(p:af)(w:W):Prop where
 bm:w.cq.bm ak=ak
 aiM:∃h,ba[p]? =ac h∧w.ay.bO≤h∧(w.ay.c3=aF→hs[p+1]? =ac (h-w.ay.bO+w.ay.fW))∧∀k,w.ay.aO=ak→w.g=ac k→hs[p+k]? =ac (h-w.ay.bO+w.ay.fW)
def iW(aa:ao W)(ba:ao af)(e9:af):Prop:=(ba.length=aa.length)∧((ba++[e9])[0]? =ac 0)∧(∀(p:af)(w:W),aa[p]? =ac w→afj ba (ba++[e9]) p w)
section
variable{aa:ao W}{ba:ao af}{e9:af}(s0:iW aa ba e9)
include s0
def iW.bh:ba.length=aa.length:=s0.1
def iW.dm:(ba++[e9])[0]? =ac 0:=s0.2.1
def iW.cq:∀(p:af)(w:W),aa[p]? =ac w→afj ba (ba++[e9]) p w:=s0.2.2
end
def iW.ab:iW [] [] 0:=⟨ag,ag,fun q9 q9 z=>bn z⟩
def VA{hs:ao af}{n h':af}(hl:hs.length=n+1)(h1:hs[n]? =ac h'):hs.take n++[h'] =hs:=by
 have:=uG (l:=hs) (i:=n)
 rw [h1,Hb (lm hl)] at this
 exact this.symm
def iW.dB{aa l:ao W}{ba hs:ao af}{e9 h':af}(L:iW aa ba e9)(h0:hs[0]? =ac e9)(hl:hs.length=l.length+1)(h1:hs[l.length]? =ac h')(r:yS hs 0 l):iW (aa++l) (ba++hs.take l.length) h':=by
 have e1:(ba++hs.take l.length)++[h'] =ba++hs:=by (rewrite [qi];refine aq (VA hl h1) ?_;rfl)
 refine aw fun kz=>?_
 obtain ⟨sH,rfl⟩:∃sH,hs=e9::sH:=by
  induction hs with
  |nil=>exact bn h0
  |cons x sH _=>exact ⟨sH,by (refine aq (cp h0) ?_;rfl)⟩
 refine kz ?_;try clear kz
 have e2:ba++e9::sH=(ba++[e9])++sH:=by rw [qi];rfl
 have old:∀{q x:af},(ba++[e9])[q]? =ac x→(ba++e9::sH)[q]? =ac x:=fun {q x} z=>by
  (refine aq e2 ?_;rw [sJ (fM.mp z).1]);exact z
 have lt:((e9::sH).take l.length).length=l.length:=by (refine aq DY ?_;refine aq hl ?_);exact DN (fQ _)
 refine ⟨by (refine aq dg ?_;refine aq dg ?_;refine aq L.bh ?_;refine aq lt ?_;rfl),e1▸old L.dm,fun p w hp=>?_⟩
 refine aq e1 ?_
 by_cases hq:p<aa.length
 ·rw [sJ hq] at hp
  refine aw fun kz=>?_
  obtain ⟨ok,h,x,t,y,z⟩:=L.cq p w hp
  refine kz ?_;try clear kz
  exact ⟨ok,h,by rw [sJ (L.bh.symm▸hq)];exact x,t,fun g=>old (y g),fun k j g=>old (z k j g)⟩
 ·have hq:=vh hq
  rw [nO hq] at hp
  refine aw fun kz=>?_
  obtain ⟨ok,h,x,t,y,z⟩:=r.jV hp
  refine kz ?_;try clear kz
  rw [nu] at x y z
  have pl:=(fM.mp hp).1
  have up:∀{k x:af},(e9::sH)[p-aa.length+k]? =ac x→(ba++e9::sH)[p+k]? =ac x:=fun {k x} z=>by
   rw [nO (by refine aq L.bh ?_;exact a5 hq (ff _ _)),L.bh,Rr hq];exact z
  refine ⟨ok,h,?_,t,fun q9=>up y,fun k j g=>up (z k j g)⟩
  rw [nO (by refine aq L.bh ?_;exact hq),L.bh,LF pl]
  exact x
def FN(aa:ao W):Prop:=∀(p:af)(w:W)(k:af),aa[p]? =ac w→w.ay.aO=ak→w.g=ac k→p+k<aa.length
def iW.afk{aa l:ao W}{ba:ao af}{e9:af}(L:iW aa ba e9)(nl:l≠ [])(s:MO l):FN (aa++l):=fun p w k hp j g=>by
 refine aq dg ?_
 by_cases hq:p<aa.length
 ·rw [sJ hq] at hp
  obtain ⟨_,h,_,_,_,z⟩:=L.cq p w hp
  have:=(fM.mp (z k j g)).1
  rw [dg,L.bh] at this
  exact iN this (kN (Hg.mpr nl) _)
 ·have hq:=vh hq
  rw [nO hq] at hp
  have:=s _ w k hp j g
  rw [← Rr hq] at this
  exact (ZL (a5 hq (ff _ _))).mp this
def iW.YK{aa:ao W}{ba:ao af}{e9:af}(L:iW aa ba e9)(c:FN aa){t:ao W}{w:W}(e:aa=t++[w])(we:w.ay.c3=ak)(ab5:af):iW aa ba ab5:=by
 have Xs:∀{q x:af},q<aa.length→(ba++[e9])[q]? =ac x→(ba++[ab5])[q]? =ac x:=fun {q x} lt z=>by
  rw [sJ (L.bh.symm▸lt)] at z⊢;exact z
 have n0:0<aa.length:=by (refine aq e ?_;refine aq dg ?_);exact qI _
 refine ⟨L.bh,Xs n0 L.dm,fun p v hp=>?_⟩
 refine aw fun kz=>?_
 obtain ⟨ok,h,x,tk,y,z⟩:=L.cq p v hp
 refine kz ?_;try clear kz
 refine ⟨ok,h,x,tk,fun g=>Xs ?_ (y g),fun k j g=>Xs (c p v k hp j g) (z k j g)⟩
 have lp:=(fM.mp hp).1
 refine DM lp fun z=>?_
 rw [e,dg,zm] at z
 have z:=pG z
 rw [e,z,nO (c9 _),nZ] at hp
 rw [← cp hp,we] at g
 exact cG g
def FO{body:bJ→an→KS→Prop}{xs:ao af}{tp:av}{K:KS}(I:af→bJ→an→Prop):∀{items:ao am}{k:af},
  (∀(i:af)(v:am)(ρ:bJ)(σ:an)(N:bJ→an→Prop),v∈items→i<k+items.length→I i ρ σ→(∀dw bS,I (i+1) dw bS→N dw bS)→lE ρ xs tp v fun dw=>body dw σ (lF N K))→
  ∀{ρ:bJ}{σ:an},I k ρ σ→(∀ρ σ,I (k+items.length) ρ σ→K .aS ρ σ)→lP body xs tp K items ρ σ:=by
 intro items
 induction items with
 |nil=>
  intro _ _ _ _ h hK
  exact hK _ _ h
 |cons v vs ih=>
  intro k step _ _ h hK
  exact step k v _ _ _ fF (G6 (qI _)) h fun q9 q9 h'=>ih (k:=k+1) (fun i v ρ σ N hv hi=>step i v ρ σ N (jf _ hv) (by (refine aq o3 ?_;rw [← qH,qT]);exact hi)) h' fun ρ σ z=>hK ρ σ (by (refine aq o3 ?_;rw [← qH,qT]);exact z)
section
variable{d:af}{fl:av}{σ:an}
def Jm{t:ao W}{w:W}(h:(t++[w]).length≤1000):lN a4 σ (.f (sY (t++[w]))) (.f (.ae (-1)))=ac w.m6:=by
 have e:(sY (t++[w]))=.al (t.map W.m6++[w.m6]):=by unfold sY;refine aq qJ ?_;rfl
 have p:iH (-1) (t.map W.m6++[w.m6]).length=ac t.length:=by
  unfold iH
  rw [cL (by decide),dg,b9,bD ⟨by refine aq zm ?_;lia,by decide⟩]
  congr 1
  refine aq zm ?_;lia
 refine aq e ?_
 show (iH (-1) (t.map W.m6++[w.m6]).length).bind _=_
 refine aq p ?_
 show (t.map W.m6++[w.m6])[t.length]? =_
 rw [nO (by rw [b9];exact c9 _),b9,nZ];rfl
def YL{w:W}(nj:w.ay.aO=aF→w.g=au)(ok:w.cq.bm ak=ak)(we:w.ay.c3=ak):∃t,(t=ak→w.g≠ac 1)∧∀σ:an,fg a4 σ .ne (.f w.MM) (.f (.ae 1))=ac t:=by
 refine aw fun kz=>?_
 obtain ⟨op,g,a,b⟩:=w
 refine kz ?_;try clear kz
 induction op<;>try cases we
 ·match g with
  |none=>exact ⟨ak,(fun q9 z=>bn z),fun σ=>by kernel_rfl⟩
  |some k=>
   refine ⟨!((k:aN)==1),fun z e=>?_,fun σ=>ag⟩
   obtain rfl:=cp e
   exact cG z
 ·refine aw fun kz=>?_
  obtain ⟨h,_⟩:=jY.mp ok
  obtain ⟨h,_⟩:=jY.mp h
  obtain rfl:a=.aA:=jz h
  refine kz ?_;try clear kz
  exact ⟨ak,(fun q9 z=>nomatch (nj ag).symm.trans z),fun σ=>by kernel_rfl⟩
 ·refine aw fun kz=>?_
  obtain ⟨h,_⟩:=jY.mp ok
  obtain ⟨h,_⟩:=jY.mp h
  obtain rfl:a=.ah "E":=lR h
  refine kz ?_;try clear kz
  exact ⟨ak,(fun q9 z=>nomatch (nj ag).symm.trans z),fun σ=>by kernel_rfl⟩
end
noncomputable def Qc(most:af)(tn:aM aC)(n e9:af)(x8 x9:aM aC):bJ:=[ac (.a6 0),ac (.f (.ae most)),tn,au,au,ac (.a6 (n+1)),ac (.a6 (n+2)),ac (.f (.ae e9)),x8,x9]
def PI(fl:av)(τ:an)(most m:af)(i:af)(ρ:bJ)(σ:an):Prop:=∃(b:cD)(aa:ao W)(ba:ao af)(e9:af)(tn x8 x9:aM aC),ρ=Qc most tn τ.length e9 x8 x9∧σ=PH τ b aa ba∧GB fl (m+9*i) b∧iW aa ba e9∧aa.length+2≤most
section
variable{d:af}{fl:av}{τ:an}{b:cD}{aa:ao W}{ba:ao af}{most m e9:af}{tn x8 x9:aM aC}{C:bw}{N:bJ→an→Prop}{K:KS}
def Jo(e:C=vC a4 (d+5)){i:af}(hj:m+9*(i+1)≤5000)(g:GB fl (m+9*i+8) b)(L:iW aa ba e9)(hr:aa.length+2≤most)(BM:most≤20){l:ao W}(P:uW e9 l)(hN:∀dw bS,PI fl τ most m (i+1) dw bS→N dw bS):
  fI ⟨a4,C⟩ (fu 4 jQ) (Qc most tn τ.length e9 x8 (ac (.f (sY l)))) (PH τ b aa ba) (lF N K):=by
 have nr:aa.length≤20:=a5 (ou (ou hr)) BM
 have lr:eP (PH τ b aa ba) ak 0 [.a6 (τ.length+1)] =ac (.f (.ae aa.length),PH τ b aa ba):=by
  refine (yO (σ:=PH τ b aa ba) (i:=τ.length+1) (dP τ _ _) (by rw [b9];exact a5 nr (by decide))).trans ?_
  rw [b9]
 refine aw fun kz=>?_
 obtain ⟨⟨hs,h0,hl,rp⟩,len,t,w,el,nj,cl⟩:=P
 obtain ⟨h',h1⟩:∃h',hs[l.length]? =ac h':=⟨hs[l.length]'(by refine aq hl ?_;exact je _),ed _⟩
 refine kz ?_;try clear kz
 apply ai;exact lr
 apply ai;exact eS (a5 len (by decide))
 refine bj (fun gg=>?_) fun gg=>?_
 ·have L2:=L.dB h0 hl h1 rp
  have sz:(aa++l).length+2≤most:=by
   refine aq dg ?_;exact afV gg
  refine rc e (K5 rp h0 h1 nr (L.bh.symm▸nr) len) ?_
  have wl:l[t.length]? =ac w:=by (refine aq el ?_;rw [nO (c9 _),nZ]);rfl
  have rw_:=rp.jV wl
  apply ai;exact el▸Jm (el▸a5 len (by decide))
  have done:GB fl (m+9*(i+1)) b:=g.up (fQ _)
  apply ai;exact Cs w.ay
  refine bj (fun we=>?_) fun we=>?_
  ·refine aw fun kz=>?_
   obtain ⟨q,hq,eq⟩:=YL nj rw_.bm we
   refine kz ?_;try clear kz
   apply ai;exact el▸Jm (el▸a5 len (by decide))
   apply ai;exact eq _
   refine bj (fun qt=>?_) fun qt=>?_
   ·refine ec e (gz (j4:=3) (by decide) (by decide)) hj g fun b2 v g2 p=>?_
    refine aw fun kz=>?_
    obtain ⟨k,hk,rfl⟩:=p
    refine kz ?_;try clear kz
    have nl:l≠ [] :=fun z=>by rw [z] at wl;exact bn wl
    refine hN _ _ ⟨b2,_,_,k,_,_,_,ag,ag,g2,L2.YK (L.afk nl (cl we (hq qt))) (t:=aa++t) (w:=w) (by (refine aq el ?_;rw [qi])) we k,sz⟩
   ·exact hN _ _ ⟨b,_,_,h',_,_,_,ag,ag,done,L2,sz⟩
  ·refine dH we ?_
   exact hN _ _ ⟨b,_,_,h',_,_,_,ag,ag,done,L2,sz⟩
 ·exact hN _ _ ⟨b,aa,ba,e9,_,_,_,ag,ag,g.up (fQ _),L,hr⟩
def FP{m:af}{b:cD}(g:GB fl m b){τ:an}:lN a4 (ac b::τ) (.a6 0) (.f (.ae 3))=ac (.aG fl):=by
 obtain ⟨_,_,_,rfl,_,_⟩:=g
 rfl
def ad7(e:C=vC a4 (d+6)){i:af}(hj:m+9*(i+1)≤5000)(g:GB fl (m+9*i) b)(L:iW aa ba e9)(hr:aa.length+2≤most)(BM:most≤20){t:aN}(hN:∀dw bS,PI fl τ most m (i+1) dw bS→N dw bS):
  fI ⟨a4,C⟩ jQ (Qc most (ac (.f (.ae t))) τ.length e9 x8 x9) (PH τ b aa ba) (lF N K):=by
 have j8:m+9*i+8≤5000:=ou hj
 have j2:m+9*i+2≤5000:=a5 (ff _ 6) j8
 have t3:∀(b:cD)(k:af),GB fl (m+9*i+2) b→fI ⟨a4,C⟩ (fu 3 jQ) (Qc most (ac (.f (.ae t))) τ.length e9 (ac (.f (.ae k))) x9) (PH τ b aa ba) (lF N K):=fun b k g=>by
  refine bj (fun gd=>?_) fun gd=>?_
  ·refine ec e (OF (way:=k)) j8 g fun b2 v g2 p=>?_
   refine aw fun kz=>?_
   obtain ⟨l,P,rfl⟩:=p
   refine kz ?_;try clear kz
   exact Jo e hj g2 L hr BM P hN
  ·refine ec e (OF (way:=10)) j8 g fun b2 v g2 p=>?_
   refine aw fun kz=>?_
   obtain ⟨l,P,rfl⟩:=p
   refine kz ?_;try clear kz
   exact Jo e hj g2 L hr BM P hN
 have t2:∀(b:cD)(k:af),0<k→k<1000→GB fl (m+9*i+1) b→fI ⟨a4,C⟩ (fu 2 jQ) (Qc most (ac (.f (.ae t))) τ.length e9 (ac (.f (.ae k))) x9) (PH τ b aa ba) (lF N K):=fun b k k0 k1 g=>by
  apply ai;exact FP g
  refine bj (fun gf=>?_) fun gf=>?_
  ·exact t3 _ 0 (g.up (fQ _))
  ·refine ec e (gz k0 k1) j2 g fun b2 v g2 p=>?_
   refine aw fun kz=>?_
   obtain ⟨k,hk,rfl⟩:=p
   refine kz ?_;try clear kz
   exact t3 _ k g2
 have j1:m+9*i+1≤5000:=ou j2
 refine bj (fun gt=>?_) fun gt=>?_
 ·apply ai;exact FP g
  refine bj (fun gf=>?_) fun gf=>?_
  ·refine ig gf ?_
   exact t2 _ 6 (by decide) (by decide) (g.up (fQ _))
  ·refine ec e (gz (j4:=3) (by decide) (by decide)) j1 g fun b2 v g2 p=>?_
   refine aw fun kz=>?_
   obtain ⟨k,hk,rfl⟩:=p
   refine kz ?_;try clear kz
   refine bj (fun gk=>?_) fun gk=>?_
   ·exact t2 _ 6 (by decide) (by decide) g2
   ·exact t2 _ 13 (by decide) (by decide) g2
 ·refine dH gt ?_
  exact t2 _ 13 (by decide) (by decide) (g.up (fQ _))
end
def gG(aa:ao W)(ba:ao af)(size:af):Prop:=(ba.length=aa.length)∧(0<size)∧(size≤aa.length)∧(ba[0]? =ac 0)∧(∀(p:af)(w:W),aa[p]? =ac w→w.cq.bm ak=ak)∧(∀(p:af)(w:W),p<size→aa[p]? =ac w→∃h,ba[p]? =ac h∧w.ay.bO≤h∧(w.ay.c3=aF→p+1<size∧ba[p+1]? =ac (h-w.ay.bO+w.ay.fW))∧∀k,w.ay.aO=ak→w.g=ac k→p+k<size∧ba[p+k]? =ac (h-w.ay.bO+w.ay.fW))∧(∀(p:af)(w:W),size≤p→aa[p]? =ac w→w.ay.aO=ak→(∀k,w.g=ac k→p+k<aa.length)∧(w.g=au→w.ay.aV=ak∧ba[p]? =ac 1))
section
variable{aa:ao W}{ba:ao af}{size:af}(s0:gG aa ba size)
include s0
def gG.bh:ba.length=aa.length:=s0.1
def gG.AF:0<size:=s0.2.1
def gG.gP:size≤aa.length:=s0.2.2.1
def gG.dm:ba[0]? =ac 0:=s0.2.2.2.1
def gG.bm:∀(p:af)(w:W),aa[p]? =ac w→w.cq.bm ak=ak:=s0.2.2.2.2.1
def gG.cq:∀(p:af)(w:W),p<size→aa[p]? =ac w→∃h,ba[p]? =ac h∧w.ay.bO≤h∧(w.ay.c3=aF→p+1<size∧ba[p+1]? =ac (h-w.ay.bO+w.ay.fW))∧∀k,w.ay.aO=ak→w.g=ac k→p+k<size∧ba[p+k]? =ac (h-w.ay.bO+w.ay.fW):=s0.2.2.2.2.2.1
def gG.Fc:∀(p:af)(w:W),size≤p→aa[p]? =ac w→w.ay.aO=ak→(∀k,w.g=ac k→p+k<aa.length)∧(w.g=au→w.ay.aV=ak∧ba[p]? =ac 1):=s0.2.2.2.2.2.2
end
def gG.eu{aa t:ao W}{ba:ao af}{e9:af}{w:W}(L:iW aa ba e9)(c:FN aa)(e:aa=t++[w])(we:w.ay.c3=ak){ex:ao W}{exh:ao af}(hl:exh.length=ex.length)(ok:∀w∈ex,w.cq.bm ak=ak)
  (Fc:∀(p:af)(w:W),ex[p]? =ac w→w.ay.aO=ak→(∀k,w.g=ac k→p+k<ex.length)∧(w.g=au→w.ay.aV=ak∧exh[p]? =ac 1)):gG (aa++ex) (ba++exh) aa.length:=by
 have n0:0<aa.length:=by (refine aq e ?_;refine aq dg ?_);exact qI _
 have Xs:∀{q x:af},q<aa.length→(ba++[e9])[q]? =ac x→(ba++exh)[q]? =ac x:=fun {q x} lt z=>by
  rw [sJ (L.bh.symm▸lt)] at z⊢;exact z
 refine ⟨by (refine aq dg ?_;refine aq dg ?_;refine aq L.bh ?_;refine aq hl ?_;rfl),n0,by refine aq dg ?_;exact ff _ _,Xs n0 L.dm,fun p v hp=>?_,fun p v lp hp=>?_,fun p v lp hp j=>?_⟩
 ·by_cases lp:p<aa.length
  ·rw [sJ lp] at hp
   exact (L.cq p v hp).bm
  ·rw [nO (vh lp)] at hp
   exact ok v (gM hp)
 ·rw [sJ lp] at hp
  refine aw fun kz=>?_
  obtain ⟨_,h,x,tk,y,z⟩:=L.cq p v hp
  refine kz ?_;try clear kz
  refine ⟨h,by rw [sJ (L.bh.symm▸lp)];exact x,tk,fun ne=>?_,fun k j g=>⟨c p v k hp j g,Xs (c p v k hp j g) (z k j g)⟩⟩
  have lt:p+1<aa.length:=by
   refine DM lp fun z=>?_
   rw [e,dg,zm] at z
   have z:=pG z
   rw [e,z,nO (c9 _),nZ] at hp
   rw [← cp hp,we] at ne
   exact cG ne
  exact ⟨lt,Xs lt (y ne)⟩
 ·rw [nO lp] at hp
  obtain ⟨f1,f2⟩:=Fc _ v hp j
  refine ⟨fun k g=>?_,fun g=>⟨(f2 g).1,?_⟩⟩
  ·have:=f1 k g
   rw [← Rr lp] at this
   refine aq dg ?_
   exact (ZL (a5 lp (ff _ _))).mp this
  ·(rewrite [nO (L.bh.symm▸lp)];refine aq L.bh ?_)
   exact (f2 g).2
section
variable{d:af}{fl:av}{τ:an}{b:cD}{aa:ao W}{ba:ao af}{most m e9:af}{tn x8 x9:aM aC}{C:bw}
def TZ(aa:ao W)(ba:ao af)(size:af):am:=.bE [.al (aa.map W.m6),.al (bI ba),.ae size]
noncomputable def ab6(most:af)(tn tl:aM aC)(size n e9:af)(x8 x9:aM aC):bJ:=[ac (.a6 0),ac (.f (.ae most)),tn,tl,ac (.f (.ae size)),ac (.a6 (n+1)),ac (.a6 (n+2)),ac (.f (.ae e9)),x8,x9]
def FQ{tl:aM aC}{size:af}{b0:cD}{Q:KE}(hq:Q (.f (TZ aa ba size)) (ac b::τ)):fI ⟨a4,C⟩ (fu 7 (FM kH)) (ab6 most tn tl size τ.length e9 x8 x9) (PH τ b aa ba) (oA aF (ac b0::τ).length Q):=by
 apply ai;exact kP (σ:=PH τ b aa ba) (i:=τ.length+1) (dP τ _ _)
 apply ai;exact kP (i:=τ.length+2) (xs:=bI ba) (by
  show ((τ++_).set τ.length au)[τ.length+1]? =_
  rw [my];exact mZ _ _ _ _)
 refine b8 (Q:=Q) hq ?_
 show ac b::((((τ++_).set τ.length au).set (τ.length+1) au).take τ.length)=_
 (rewrite [my,Er];refine aq DZ ?_;rfl)
def agR(nr:aa.length≤500):eP (PH τ b aa ba) ak 0 [.a6 (τ.length+1)] =ac (.f (.ae aa.length),PH τ b aa ba):=by
 refine (yO (σ:=PH τ b aa ba) (i:=τ.length+1) (dP τ _ _) (by rw [b9];exact a5 nr (by decide))).trans ?_
 rw [b9]
def T0(most:af)(v:am):Prop:=∃aa ba size,gG aa ba size∧aa.length≤most∧v=TZ aa ba size
def w8(e:C=vC a4 (d+6))(hj:m+3≤5000)(g:GB fl m b){b0:cD}{Q:KE}(hq:∀(b':cD)(v:am)(σ:an),GB fl (m+3) b'→T0 most v→σ=ac b'::τ→Q (.f v) σ)
  (L:iW aa ba e9) (hr:aa.length+2≤most) (BM:most≤20) {l t:ao W} {w:W} {hs:ao af} (h0:hs[0]? =ac e9) (hl:hs.length=l.length+1) (rp:yS hs 0 l) (len:l.length≤2) (el:l=t++[w]) (we:w.ay.c3=ak) (sh:MO l):
  fI ⟨a4,C⟩ (fu 4 (FM kH)) [ac (.a6 0),ac (.f (.ae most)),tn,ac (.f (sY l)),au,ac (.a6 (τ.length+1)),ac (.a6 (τ.length+2)),ac (.f (.ae e9)),x8,x9] (PH τ b aa ba) (oA aF (ac b0::τ).length Q):=by
 have nr:aa.length≤20:=a5 (ou (ou hr)) BM
 obtain ⟨h',h1⟩:∃h',hs[l.length]? =ac h':=⟨hs[l.length]'(by refine aq hl ?_;exact je _),ed _⟩
 have L2:=L.dB h0 hl h1 rp
 have c2:FN (aa++l):=L.afk (fun z=>by rw [z] at el;exact bW (a7 uI el) (by refine aq dg ?_;exact (ZT _).symm)) sh
 have sz:(aa++l).length≤most:=by refine aq dg ?_;exact a5 (kN len _) hr
 have e2:aa++l=(aa++t)++[w] :=by (refine aq el ?_;rw [qi])
 have nh2:(ba++hs.take l.length).length≤20:=by refine aq L2.bh ?_;exact a5 sz BM
 refine rc e (K5 rp h0 h1 nr (L.bh.symm▸nr) (a5 len (by decide))) ?_
 apply ai;exact agR (a5 sz (a5 BM (by decide)))
 have P0:gG (aa++l) (ba++hs.take l.length) (aa++l).length:=by
  have:=gG.eu L2 c2 e2 we (ex:=[]) (exh:=[]) ag (fun q9 z=>bW z hU) (fun q9 q9 z=>bn z)
  rw [ny,ny] at this;exact this
 generalize aa++l=yT at*
 generalize ba++hs.take l.length=acP at*
 have fJ:∀b',GB fl (m+3) b'→fI ⟨a4,C⟩ (fu 7 (FM kH)) (ab6 most tn (ac (.f (sY l))) yT.length τ.length e9 x8 x9) (PH τ b' yT acP) (oA aF (ac b0::τ).length Q):=fun b' g'=>
  FQ (hq b' _ _ g' ⟨yT,acP,yT.length,P0,sz,ag⟩ ag)
 apply ai;exact FP g
 refine bj (fun gf=>?_) fun gf=>?_
 ·refine bj (fun gs=>?_) fun gs=>?_
  ·refine ec e (gz (j4:=3) (by decide) (by decide)) (kO hj 1 (by decide)) g fun b2 v g2 p=>?_
   refine aw fun kz=>?_
   obtain ⟨k,hk,rfl⟩:=p
   refine kz ?_;try clear kz
   refine bj (fun gk=>?_) fun gk=>?_
   ·refine ec e xz (kO hj 2 (by decide)) g2 fun b3 v g3 p=>?_
    refine aw fun kz=>?_
    obtain ⟨w1,k1,rfl⟩:=p
    refine kz ?_;try clear kz
    refine ec e (uz au) hj g3 fun b4 v g4 p=>?_
    refine aw fun kz=>?_
    obtain ⟨op,ob,rfl⟩:=p
    refine kz ?_;try clear kz
    have s3:yT.length+3≤most:=tC.mp (eX gs)
    have r2:yT.length≤20:=a5 sz BM
    refine rc e (K5 (l:=[kK .bp (ac 1),w1,kK op au]) (hs:=[0,0,1,0]) (h:=0) (h':=0) ⟨sC (h:=0) ag ag (fun k e=>by obtain rfl:=cp e;rfl),k1.fW.eb (h:=0) ag ag,vL (h:=0) ob ag ag (qp (w:=kK op au) ag),di⟩ ag ag r2 nh2 (dT ag)) ?_
    refine FQ (hq b4 _ _ g4 ⟨yT++[kK .bp (ac 1),w1,kK op au],acP++[0,0,1],yT.length,gG.eu L2 c2 e2 we ag (fun v hv=>?_) (fun p v hp j=>?_),by refine aq dg ?_;exact s3,ag⟩ ag)
    ·rcases eH.mp hv with rfl|hv
     ·rfl
     rcases eH.mp hv with rfl|hv
     ·exact (k1.fW (h:=0)).bm
     refine aq (jg.mp hv) ?_
     induction op<;>first|rfl|exact cG ob
    ·match p,hp with
     | 0,hp=>
      obtain rfl:=cp hp
      exact ⟨fun k z=>by obtain rfl:=cp z;exact dT ag,fun z=>bn (Eq.symm z)⟩
     | 1,hp=>
      obtain rfl:=cp hp
      rw [(k1.fW (h:=0)).nj] at j
      exact cG j
     | 2,hp=>
      obtain rfl:=cp hp
      exact ⟨(fun k z=>bn z),fun q9=>⟨ob,ag⟩⟩
     |p+3,hp=>exact bn hp
   ·exact fJ _ (g2.up (ff _ 2))
  ·refine dH gs ?_
   exact fJ _ (g.up (ff _ 3))
 ·refine dH gf ?_
  exact fJ _ (g.up (ff _ 3))
end
section
variable{d:af}{fl:av}{most:af}
def YM{X:g9}(h0:X.T=a4){m:af}{b:cD}{τ:an}{ρ:bJ}(g:GB fl m b)(hr:ρ[0]? =ac (ac (.a6 0))){K:KE}(k:K (.f (.ae ((cE fl 1 4:af):aN))) (ac b::τ)):vE X (.fB (.bx (.az 0) (.ae 3)) (.ae 1) (.ae 4)) ρ (ac b::τ) K:=by
 obtain ⟨T,C⟩:=X
 dsimp only at h0
 subst h0
 have e:(ρ[0]?).join=ac (.a6 0):=by refine aq hr ?_;rfl
 apply ai;exact e
 apply ai;exact FP g
 induction fl
 ·exact k
 ·exact k
def Qd{n:af}{v:am}(h:v∈cU (n:aN)):∃t:af,t<n∧v=.ae t:=by
 unfold cU at h
 rw [Ea] at h
 obtain ⟨t,ht,e⟩:=iO.mp h
 exact ⟨t,qk.mp ht,e.symm⟩
def VC{σ:an}:fg a4 σ .bN (.f (sY [jU .dY])) (.f (sY [jU .dY]))=ac ak:=by kernel_rfl
def YN{σ:an}:fg a4 σ .bN (.f (sY [kK .bp au])) (.f (sY [jU .dY]))=ac aF:=by kernel_rfl
def YO{X:g9}{σ:an}{K:KS}{x0 x1:aM aC}(k:K .aS [x0,x1,au,au,au,ac (.a6 σ.length),ac (.a6 (σ.length+1)),ac (.f (.ae 0)),au,au] (σ++[ac (.al []),ac (.al [])])):vS X (.dS [5,6,7] (.O (.al aF .ab) (.O (.al aF .ab) (.O (.ae 0) .ab)))) [x0,x1,au,au,au,au,au,au,au,au] σ K:=by
 refine ai (iD (σ:=σ) (xs:=[]) (fC _)) ?_
 refine ai (uU (σ:=σ) (xs:=[]) (fC _)) ?_
 exact k
def YQ(h6:2≤most)(BM:most≤20):EC (vC a4 (d+7)) 50 [.a6 0,.f (.ae most)] fl 42 (T0 most):=K0 ag ag ag ag fun C e m b τ Q hj hb hq=>by
 refine YO ?_
 refine YM (X:=⟨a4,C⟩) ag (τ:=τ++[ac (.al []),ac (.al [])]) (ρ:=[ac (.a6 0),ac (.f (.ae most)),au,au,au,ac (.a6 (τ.length+1)),ac (.a6 (τ.length+2)),ac (.f (.ae 0)),au,au]) hb ag ?_
 have n4:(cE fl 1 4:af)≤4:=by induction fl<;>decide
 generalize (cE fl 1 4:af)=n at n4⊢
 apply ai;exact jq (a5 n4 (by decide))
 refine FO (k:=0) (PI fl τ most m) (fun i v ρ σ N hv hi hI hN=>?_) ⟨b,[],[],0,_,_,_,ag,ag,hb,.ab,h6⟩ fun ρ σ hI=>?_
 ·refine aw fun kz=>?_
  obtain ⟨t,ht,rfl⟩:=Qd hv
  obtain ⟨b,aa,ba,e9,tn,x8,x9,rfl,rfl,g,L,hr⟩:=hI
  refine kz ?_;try clear kz
  rw [nV,nu] at hi
  have hi4:i+1≤4:=a5 hi n4
  exact ad7 (x8:=x8) (x9:=x9) e (a5 (kN (a5 (uC 9 hi4) (by decide)) m) hj) g L hr BM hN
 ·rw [nV,nu] at hI
  refine aw fun kz=>?_
  obtain ⟨b,aa,ba,e9,tn,x8,x9,rfl,rfl,g,L,hr⟩:=hI
  refine kz ?_;try clear kz
  have g:GB fl (m+36) b:=g.up (kN (uC 9 n4) m)
  have lv:∀b1,GB fl (m+37) b1→fI ⟨a4,C⟩ (fu 3 (FM kH)) [ac (.a6 0),ac (.f (.ae most)),tn,ac (.f (sY [jU .dY])),au,ac (.a6 (τ.length+1)),ac (.a6 (τ.length+2)),ac (.f (.ae e9)),x8,x9] (PH τ b1 aa ba) (oA aF (ac b::τ).length Q):=fun b1 g1=>by
   refine bj (fun g0=>?_) fun g0=>?_
   ·apply ai;exact VC
    refine ec e (oc (h:=0)) (kO hj 39 (by decide)) g1 fun b2 v g2 p=>?_
    refine aw fun kz=>?_
    obtain ⟨w1,k1,rfl⟩:=p
    obtain rfl:e9=0:=Mm (cz g0)
    refine kz ?_;try clear kz
    exact w8 (m:=m+39) e hj g2 hq L hr BM (l:=[w1,jU .dY]) (t:=[w1]) (w:=jU .dY) (hs:=[0,1,0]) ag ag ⟨k1.eb ag ag,Jj (h:=0) ag ag,di⟩ (c9 2) ag ag (.eu ⟨qp k1.g,qp ag,di⟩)
   ·refine dH g0 ?_
    match e9,g0,L with
    | 0,g0,_=>exact cG g0
    |h+1,_,L=>exact w8 (m:=m+39) e hj (g1.up (ff _ 2)) hq L hr BM (l:=[jU .dY]) (t:=[]) (w:=jU .dY) (hs:=[h+1,h]) ag ag ⟨Jj (h:=h) ag ag,di⟩ (dT ag) ag ag (.eu ⟨qp ag,di⟩)
  have jp:∀b1,GB fl (m+37) b1→fI ⟨a4,C⟩ (fu 3 (FM kH)) [ac (.a6 0),ac (.f (.ae most)),tn,ac (.f (sY [kK .bp au])),au,ac (.a6 (τ.length+1)),ac (.a6 (τ.length+2)),ac (.f (.ae e9)),x8,x9] (PH τ b1 aa ba) (oA aF (ac b::τ).length Q):=fun b1 g1=>by
   have fJ:=w8 (b0:=b) (tn:=tn) (x8:=x8) (x9:=x9) (m:=m+39) e hj (g1.up (ff _ 2)) hq L hr BM (l:=[kK .bp au]) (t:=[]) (w:=kK .bp au) (hs:=[e9,e9]) ag ag ⟨sC ag ag (qp (w:=kK .bp au) ag),di⟩ (dT ag) ag ag (.eu ⟨qp ag,di⟩)
   refine bj (fun g0=>?_) fun g0=>?_
   ·apply ai;exact YN
    exact fJ
   ·refine dH g0 ?_
    exact fJ
  apply ai;exact FP g
  refine bj (fun gf=>?_) fun gf=>?_
  ·refine ig gf ?_
   exact lv _ (g.up (fQ _))
  ·refine ec e (gz (j4:=4) (by decide) (by decide)) (kO hj 37 (by decide)) g fun b2 v g2 p=>?_
   refine aw fun kz=>?_
   obtain ⟨k,hk,rfl⟩:=p
   refine kz ?_;try clear kz
   refine bj (fun gk=>?_) fun gk=>?_
   ·exact lv _ g2
   ·exact jp _ g2
end
def vM(n:af):cU (n:aN)=(gw n).map e7:=by unfold cU;rw [Ea];rfl
def T4:ao am:=[.al [.ah "jump"],.bE vD,.al [.ah "pop",.ah "swap",.ah "leave"],.bE TF]
noncomputable def agS:Op→av
 |.g6|.cA|.dY=>ak
 |_=>aF
def agT:(fx.all fun op=>d3 (jh (.ah op.bH) [.ah "pop",.ah "swap",.ah "leave"]) (agS op))=ak:=by kernel_rfl
def YR{x:am}(h:x∈T4):∃f:Op→av,∀(op:Op)(σ:an),fg a4 σ .fw (.f (.ah op.bH)) (.f x)=ac (f op):=by
 rcases eH.mp h with rfl|h
 ·exact ⟨_,fun op σ=>ua TJ op⟩
 rcases eH.mp h with rfl|h
 ·exact ⟨_,fun op σ=>rF sU op⟩
 rcases eH.mp h with rfl|h
 ·exact ⟨_,fun op σ=>ua agT op⟩
 refine aq (jg.mp h) ?_
 exact ⟨_,fun op σ=>rF GC op⟩
def YS{σ:an}{x:am}{l:ao am}:fg a4 σ .ne (.f (.al (x::l))) (.f (.al []))=ac ak:=by
 show (oy _ _).map _=_
 unfold oy;rfl
def OG{a b:af}:((ac a:aM af)==ac b)=((a:aN)==(b:aN)):=by
 rw [Al,mi,mi,Option.some.injEq,aaV]
section
variable{d:af}{fl:av}{aa:ao W}{ba:ao af}{size p h r8:af}{w:W}
def ad8{C:bw}{m:af}{b b0:cD}{τ:an}{Q:KE}{nd:aN}(e:C=vC a4 (d+1))(nh:ba.length≤20)(ns:size≤ba.length)(nr:aa.length≤20)(lr:ba.length=aa.length)(hn:nd=(r8:aN))(he:∃s<size,ba[s]? =ac r8)(hj:m+2≤5000)(hb:GB fl m b)
  (hq:∀(b':cD)(v:am)(σ:an),GB fl (m+2) b'→(∃s<size,ba[s]? =ac r8∧v=.ae s)→σ=ac b'::τ→Q (.f v) σ):
  fI ⟨a4,C⟩ (fu 1 (FM uZ)) [ac (.a6 0),ac (.f (.al (aa.map W.m6))),ac (.f (.al (bI ba))),ac (.f (.ae p)),ac (.f (.ae size)),ac (.f (.ae nd)),au,au,au,au,au] (ac b::τ) (oA aF (ac b0::τ).length Q):=by
 have T5:=a5 ns nh
 subst hn
 apply ai;exact jq (a5 T5 (by decide))
 rw [vM]
 refine nK e7 (fun s=>ba[s]? ==ac r8) e7 (fun s acc K hs k1 k2=>?_) ?_
 ·have sl:=iN (qk.mp hs) ns
  apply ai;exact iJ (ed sl) (a5 nh (by decide))
  have z:(ba[s]? ==ac r8)=((ba[s] :aN)==(r8:aN)):=by
   rw [ed sl]
   exact OG
  rw [z] at k1 k2
  exact bj k1 k2
 generalize hg:(gw size).filter (fun s=>ba[s]? ==ac r8)=yU
 have mem:∀s,s∈yU→s<size∧ba[s]? =ac r8:=fun s hs=>by
  rw [← hg] at hs
  have:=o5.mp hs
  exact ⟨qk.mp this.1,cz this.2⟩
 have len:yU.length≤20:=by
  refine iu hg ?_
  exact a5 (wv _ _) (by refine aq sM ?_;exact T5)
 have ne:yU≠ [] :=fun z=>by
  refine aw fun kz=>?_
  obtain ⟨s,hs,e⟩:=he
  refine kz ?_;try clear kz
  have:s∈yU:=hg▸o5.mpr ⟨qk.mpr hs,mi.mpr e⟩
  rw [z] at this
  cases this
 clear hg
 apply ai;exact nU (f:=e7) (a5 len (by decide))
 refine ec e (gz (j4:=4) (by decide) (by decide)) (ou hj) hb fun b1 v g1 p=>?_
 refine aw fun kz=>?_
 obtain ⟨k,hk,rfl⟩:=p
 obtain ⟨x,hx,ex⟩:=ML (xs:=T4) hk (by decide)
 refine kz ?_;try clear kz
 apply ai;exact ex _
 obtain ⟨f,hf⟩:=YR hx
 apply ai;exact dJ (a5 len (by decide))
 refine nK e7 (fun s=>(aa[s]?).any fun w=>f w.ay) e7 (fun s acc K hs k1 k2=>?_) ?_
 ·have sl:s<aa.length:=iN (mem s hs).1 (lr▸ns)
  apply ai;exact iJ (ed sl) (a5 nr (by decide))
  apply ai;exact hf _ _
  have z:((aa[s]?).any fun w=>f w.ay)=f aa[s].ay:=by rw [ed sl];rfl
  rw [z] at k1 k2
  exact bj k1 k2
 have fJ:∀(l:ao af){x8:aM aC},(∀s∈l,s∈yU)→l≠ [] →l.length≤20→fI ⟨a4,C⟩ (fu 5 (FM uZ)) [ac (.a6 0),ac (.f (.al (aa.map W.m6))),ac (.f (.al (bI ba))),ac (.f (.ae p)),ac (.f (.ae size)),ac (.f (.ae r8)),ac (.f (.al (bI l))),ac (.f x),x8,au,au] (ac b1::τ) (oA aF (ac b0::τ).length Q):=fun l x8 hl nl len=>by
  apply ai;exact eS (f:=e7) (a5 len (by decide))
  refine ec e (gz (Hg.mpr nl) (ni len (by decide))) hj g1 fun b2 v g2 p=>?_
  refine aw fun kz=>?_
  obtain ⟨k,hk,rfl⟩:=p
  refine kz ?_;try clear kz
  apply ai;exact iJ (f:=e7) (ed hk) (a5 len (by decide))
  have:=mem _ (hl _ (Av hk))
  exact hq b2 _ _ g2 ⟨_,this.1,this.2,ag⟩ xy
 generalize hg:yU.filter (fun s=>(aa[s]?).any fun w=>f w.ay)=near
 have nm:∀s∈near,s∈yU:=fun s hs=>(o5.mp (hg▸hs)).1
 have nl:near.length≤20:=a5 (hg▸wv _ _) len
 apply ai;exact nU (f:=e7) (a5 nl (by decide))
 clear hg
 induction near with
 |nil=>
  apply ai;exact A8
  exact fJ yU (fun q9 h=>h) ne len
 |cons y t=>
  apply ai;exact YS
  exact fJ (y::t) nm (fun z=>nomatch z) nl
def ad9(P:gG aa ba size)(hp:aa[p]? =ac w)(hh:ba[p]? =ac h)(nr:aa.length≤20)(hn:(h:aN)-(if w.ay.aV then 1 else 0)=(r8:aN))(he:∃s<size,ba[s]? =ac r8):
  EC (vC a4 (d+2)) 51 [.a6 0,.f (.al (aa.map W.m6)),.f (.al (bI ba)),.f (.ae p),.f (.ae size)] fl 2 fun v=>∃s<size,ba[s]? =ac r8∧v=.ae s:=K0 ag ag ag ag fun C e m b τ Q hj hb hq=>by
 have nh:ba.length≤20:=P.bh.symm▸nr
 apply ai;exact iJ hh (a5 nh (by decide))
 apply ai;exact iJ hp (a5 nr (by decide))
 apply ai;exact iw w.ay
 exact ad8 e nh (P.bh.symm▸P.gP) nr P.bh hn he hj hb hq
end
def l0(ba:ao af)(size:af)(k:Ct):Prop:=(k.nA=.ah "rescue"∨k.nA=.ah "ensure")∧(k.dm<k.gx)∧(k.gx≤ba.length)∧(k.bC<size)∧(ba[k.bC]? =ac (k.cQ+1))∧(∀q h:af,k.dm≤q→q<k.gx→ba[q]? =ac h→k.cQ≤h)
section
variable{ba:ao af}{size:af}{k:Ct}(s0:l0 ba size k)
include s0
def l0.nA:k.nA=.ah "rescue"∨k.nA=.ah "ensure":=s0.1
def l0.lz:k.dm<k.gx:=s0.2.1
def l0.gP:k.gx≤ba.length:=s0.2.2.1
def l0.tlt:k.bC<size:=s0.2.2.2.1
def l0.tgt:ba[k.bC]? =ac (k.cQ+1):=s0.2.2.2.2.1
def l0.HZ:∀q h:af,k.dm≤q→q<k.gx→ba[q]? =ac h→k.cQ≤h:=s0.2.2.2.2.2
end
def OH{n:af}(h:n≤1000):v0 (.f (.ae n))=ac (ac n):=bD ⟨wA n,ni h (dT ag)⟩
def YT{σ:an}{l:ao af}{a b:af}(hl:l.length≤500)(ha:a≤1000)(hb:b≤1000):lO σ ak (.f (.al (bI l))) (.f (.ae a)) (.f (.ae b))=ac (.f (.al (bI ((l.take b).drop a))),σ):=by
 unfold lO
 (refine aq (OH ha) ?_;refine aq (OH hb) ?_;rw [ri,ri])
 show (if (bI l).length≤100000 then jJ σ ak (CJ (bI l) (ac a) (ac b)) else au)=_
 rw [bD (by rw [b9];exact a5 hl (by decide))]
 show jJ σ ak (((bI l).take b).drop a)=_
 (refine iu RU ?_;refine iu List.map_drop ?_)
 exact nU (a5 (by refine aq DX ?_;exact a5 (DP _ _) (wx _ _)) hl)
def aea:∀l:ao af,Hy (bI l)=ac (l.map fun (i:af)=>(i:aN)):=by
 intro l
 induction l with
 |nil=>
  exact ag
 |cons x l ih=>
  exact a7 (qG ((x:aN):: ·)) (ih)
def VD:∀(l:ao aN)(i:aN),l.foldl min i≤i∧∀x∈l,l.foldl min i≤x:=by
 intro l
 induction l with
 |nil=>
  intro i
  exact ⟨Int.le_refl _,fun q9 z=>bW z hU⟩
 |cons x l ih=>
  intro i
  obtain ⟨h1,h2⟩:=ih (min i x)
  refine ⟨yy h1 (Int.min_le_left _ _),fun y hy=>?_⟩
  rcases eH.mp hy with rfl|hy
  ·exact yy h1 (Int.min_le_right _ _)
  ·exact h2 y hy
def agU{σ:an}{l:ao af}(h:l≠ []):∃x:aN,(∀i∈l,x≤(i:aN))∧eP σ ak 3 [.f (.al (bI l))] =ac (.f (.ae x),σ):=by
 match l,h with
 |a::l,_=>
  obtain ⟨h1,h2⟩:=VD (l.map fun (i:af)=>(i:aN)) a
  refine ⟨_,fun i hi=>?_,a7 (fun o=>lj o _) (aea (a::l))⟩
  rcases eH.mp hi with rfl|hi
  ·exact h1
  ·exact h2 _ (iO.mpr ⟨i,hi,ag⟩)
def agV{X:g9}{ρ:bJ}{σ:an}{K:KE}(k:K (.a6 σ.length) (σ++[ac (.al [])])):vE X (.al aF .ab) ρ σ K:=ai (iD (fC _)) k
def FH(τ:an)(b:cD)(cs:ao Ct):an:=ac b::(τ++[ac (.al (cs.map nD))])
def agW{τ:an}{b:cD}{cs:ao Ct}{v:am}{k:Ct}(e:v=nD k)(h:cs.length≤500):kG a4 (FH τ b cs) .eA (.a6 (τ.length+1)) [.f v] =ac (.f .aA,FH τ b (cs++[k])):=by
 refine (jo (σ:=FH τ b cs) (i:=τ.length+1) (dP τ _ _) (by rw [b9];exact a5 h (by decide))).trans ?_
 unfold FH
 (refine aq DU ?_;rewrite [my];refine aq qJ ?_;refine aq e ?_);rfl
def acQ(ba:ao af)(size n:af)(eE:ao af)(tn x6 x7 x8 x9:aM aC):bJ:=[ac (.a6 0),ac (.f (.al (bI ba))),ac (.f (.ae size)),tn,ac (.a6 (n+1)),ac (.f (.al (bI eE))),x6,x7,x8,x9,au]
def FI(fl:av)(τ:an)(ba:ao af)(size:af)(eE:ao af)(m:af)(i:af)(ρ:bJ)(σ:an):Prop:=∃(b:cD)(cs:ao Ct)(tn x6 x7 x8 x9:aM aC),ρ=acQ ba size τ.length eE tn x6 x7 x8 x9∧σ=FH τ b cs∧GB fl (m+4*i) b∧cs.length≤i∧∀k∈cs,l0 ba size k
section
variable{d:af}{fl:av}{ba eE:ao af}{size:af}
def aeb{x:aN}{j4:af}(e:x=(j4:aN))(h0:0<j4)(hm:j4<1000):EC (vC a4 (d+1)) 40 [.a6 0,.f (.ae x)] fl 1 fun v=>∃k<j4,v=.ae (k:af):=e▸gz h0 hm
def YU{σ:an}{l:ao af}{a:af}{y:aN}{b:af}(e:y=(b:aN))(hl:l.length≤500)(ha:a≤1000)(hb:b≤1000):lO σ ak (.f (.al (bI l))) (.f (.ae a)) (.f (.ae y))=ac (.f (.al (bI ((l.take b).drop a))),σ):=e▸YT hl ha hb
def aec{C:bw}{m i:af}{b:cD}{τ:an}{cs:ao Ct}{tn x6 x7 x8 x9:aM aC}{N:bJ→an→Prop}{K:KS}(e:C=vC a4 (d+1))(nh:ba.length≤20)(h0:0<ba.length)(ns:size≤ba.length)(ng:eE≠ [])(lg:eE.length≤20)(hg:∀s∈eE,s<size∧∃h,ba[s]? =ac (h+1))
  (hj:m+4*(i+1)≤5000) (hb:GB fl (m+4*i) b) (lc:cs.length≤i) (l2:i≤2) (hc:∀k∈cs,l0 ba size k) (hN:∀dw bS,FI fl τ ba size eE m (i+1) dw bS→N dw bS):
  fI ⟨a4,C⟩ nG (acQ ba size τ.length eE tn x6 x7 x8 x9) (FH τ b cs) (lF N K):=by
 have hj:m+4*i+4≤5000:=hj
 apply ai;exact eS (f:=e7) (a5 lg (by decide))
 refine ec e (gz (Hg.mpr ng) (ni lg (by decide))) (kO hj 1 (by decide)) hb fun b1 v g1 p=>?_
 refine aw fun kz=>?_
 obtain ⟨k,hk,rfl⟩:=p
 obtain ⟨tl,h,th⟩:=hg _ (Av hk)
 refine kz ?_;try clear kz
 apply ai;exact iJ (f:=e7) (ed hk) (a5 lg (by decide))
 generalize eE[k] =acR at*
 apply ai;exact eS (f:=e7) (a5 nh (by decide))
 refine ec e (gz h0 (ni nh (by decide))) (kO hj 2 (by decide)) g1 fun b2 v g2 p=>?_
 refine aw fun kz=>?_
 obtain ⟨first,hf,rfl⟩:=p
 refine kz ?_;try clear kz
 apply ai;exact eS (f:=e7) (a5 nh (by decide))
 refine ec e (aeb (j4:=ba.length-first) (aaS (jH hf)).symm (Nat.sub_pos_of_lt hf) (ni (a5 (DP _ _) nh) (by decide))) (kO hj 3 (by decide)) g2 fun b3 v g3 p=>?_
 refine aw fun kz=>?_
 obtain ⟨j,hj2,rfl⟩:=p
 refine kz ?_;try clear kz
 have le:first+1+j≤ba.length:=qT first j 1▸uE j first▸ZP hj2
 refine ec e (gz (j4:=2) (by decide) (by decide)) hj g3 fun b4 v g4 p=>?_
 refine aw fun kz=>?_
 obtain ⟨k,hk,rfl⟩:=p
 obtain ⟨nA,hs,ex⟩:=ML (xs:=[.ah "rescue",.ah "ensure"]) hk (by decide)
 refine kz ?_;try clear kz
 apply ai;exact ex _
 have f20:first≤1000:=a5 (jH hf) (a5 nh (by decide))
 have t20:first+1+j≤1000:=a5 le (a5 nh (by decide))
 have key:∀q,first≤q→q<first+1+j→∀x,ba[q]? =ac x→x∈(ba.take (first+1+j)).drop first:=fun q h1 h2 x hx=>by
  refine gM (i:=q-first) ?_
  (rewrite [RJ];refine aq (Nat.add_sub_cancel' h1) ?_;rw [LF h2]);exact hx
 refine aw fun kz=>?_
 obtain ⟨x,hx,ex⟩:=agU (σ:=FH τ b4 cs) (l:=(ba.take (first+1+j)).drop first) (fun z=>by
  have:=key first (c9 _) (iN (je _) (ff _ _)) _ (ed hf)
  rw [z] at this
  cases this)
 refine kz ?_;try clear kz
 apply ai;exact YU (b:=first+1+j) ag (a5 nh (by decide)) f20 t20
 apply ai;exact ex
 apply ai;exact iJ (f:=e7) th (a5 nh (by decide))
 refine bj (fun gg=>?_) fun gg=>?_
 ·apply ai;exact cT (σ:=FH τ b4 cs) (i:=τ.length+1) (dP τ _ _)
  apply ai;exact iJ (f:=e7) th (a5 nh (by decide))
  refine pc e (Fq ..) ?_
  have hd:((h+1:af):aN)-1=h:=by rw [aaR];exact Int.add_sub_cancel _ _
  apply ai;exact agW (k:=⟨nA,first,first+1+j,acR,h⟩) (a7 (fun z=>am.ic 1 [nA,.ae first,.ae (first+1+j),e7 acR,.ae z]) hd) (a5 lc (a5 l2 (by decide)))
  refine hN _ _ ⟨b4,cs++[⟨nA,first,first+1+j,acR,h⟩],_,_,_,_,_,ag,ag,g4,by refine aq dg ?_;exact jG lc,fun k hk=>?_⟩
  rcases pD.mp hk with hk|hk
  ·exact hc k hk
  refine aq (jg.mp hk) ?_
  refine ⟨?_,iN (je _) (ff _ _),le,tl,th,fun q y h1 h2 hy=>?_⟩
  ·rcases eH.mp hs with rfl|hs
   ·exact .inl ag
   ·exact .inr (jg.mp hs)
  ·have h1:=hx y (key q h1 h2 y hy)
   rw [hd] at gg
   exact tC.mp (yy (eX gg) h1)
 ·exact hN _ _ ⟨b4,cs,_,_,_,_,_,ag,ag,g4,ti lc,hc⟩
def Qe(nh:ba.length≤20)(h0:0<ba.length)(ns:size≤ba.length):
  EC (vC a4 (d+2)) 52 [.a6 0,.f (.al (bI ba)),.f (.ae size)] fl 9 fun v=>∃cs:ao Ct,cs.length≤2∧(∀k∈cs,l0 ba size k)∧v=.al (cs.map nD):=K0 ag ag ag ag fun C e m b τ Q hj hb hq=>by
 have T5:=a5 ns nh
 refine agV (X:=⟨a4,C⟩) (ρ:=[]) ?_
 apply ai;exact jq (a5 T5 (by decide))
 rw [vM]
 refine nK e7 (fun s=>(ba[s]?).any fun (h:af)=>dc ((0:aN)<(h:aN))) e7 (fun s acc K hs k1 k2=>?_) ?_
 ·have sl:=iN (qk.mp hs) ns
  apply ai;exact iJ (ed sl) (a5 nh (by decide))
  have z:((ba[s]?).any fun (h:af)=>dc ((0:aN)<(h:aN)))=dc ((0:aN)<(ba[s] :aN)):=by rw [ed sl];rfl
  rw [z] at k1 k2
  exact bj k1 k2
 generalize T6:(gw size).filter (fun s=>(ba[s]?).any fun (h:af)=>dc ((0:aN)<(h:aN)))=eE
 have mem:∀s∈eE,s<size∧∃h,ba[s]? =ac (h+1):=fun s hs=>by
  obtain ⟨h1,h2⟩:=o5.mp (T6▸hs)
  refine ⟨qk.mp h1,?_⟩
  have sl:=iN (qk.mp h1) ns
  rw [ed sl] at h2⊢
  exact ⟨ba[s]-1,a7 ac (tg (nz.mp (eX h2))).symm⟩
 have len:eE.length≤20:=by
  refine iu T6 ?_
  exact a5 (wv _ _) (by refine aq sM ?_;exact T5)
 clear T6
 apply ai;exact nU (f:=e7) (a5 len (by decide))
 have fJ:∀(b1:cD)(n:af),n≤2→(0<n→eE≠ [])→GB fl (m+1) b1→lP (fI ⟨a4,C⟩ nG) [3] aF (Ih (fI ⟨a4,C⟩ (fu 2 (FM vm))) (oA aF (ac b::τ).length Q)) (cU n) (acQ ba size τ.length eE au au au au au) (FH τ b1 []):=fun b1 n n2 hn g1=>by
  refine FO (k:=0) (FI fl τ ba size eE (m+1)) (fun i v ρ σ N hv hi hI hN=>?_) ⟨b1,[],_,_,_,_,_,ag,ag,g1,c9 0,fun q9 z=>bW z hU⟩ fun ρ σ hI=>?_
  ·rw [nV,nu] at hi
   refine aw fun kz=>?_
   obtain ⟨b2,cs,tn,x6,x7,x8,x9,rfl,rfl,g2,lc,hc⟩:=hI
   refine kz ?_;try clear kz
   exact aec e nh h0 ns (hn (ni (fC _) hi)) len mem (a5 (kN (uC 4 (a5 hi n2)) (m+1)) hj) g2 lc (a5 (jH hi) n2) hc hN
  ·rw [nV,nu] at hI
   refine aw fun kz=>?_
   obtain ⟨b2,cs,tn,x6,x7,x8,x9,rfl,rfl,g2,lc,hc⟩:=hI
   refine kz ?_;try clear kz
   apply ai;exact kP (σ:=FH τ b2 cs) (i:=τ.length+1) (dP τ _ _)
   refine hq b2 _ _ (g2.up (kN (uC 4 n2) (m+1))) ⟨cs,a5 lc n2,hc,ag⟩ ?_
   show ac b2::(((τ++_).set τ.length au).take τ.length)=_
   (rewrite [my];refine aq DZ ?_;rfl)
 refine or2 (X:=⟨a4,C⟩) (A:=fl) (B:=eE.isEmpty) (fun K k=>?_) (fun q9 K k=>?_) _ ?_
 ·apply ai;exact FP hb
  exact k
 ·induction eE with
  |nil=>apply ai;exact xu;exact k
  |cons x l=>apply ai;exact xv;exact k
 refine bj (fun g=>?_) fun g=>?_
 ·exact fJ b 0 (by decide) (fun z=>bW z (G8 0)) (hb.up (fQ _))
 ·refine ec e (gz (j4:=3) (by decide) (by decide)) (kO hj 1 (by decide)) hb fun b1 v g1 p=>?_
  refine aw fun kz=>?_
  obtain ⟨k,hk,rfl⟩:=p
  refine kz ?_;try clear kz
  apply ai;exact jq (a5 (jH hk) (by decide))
  exact fJ b1 k (uf hk) (fun q9 z=>by rw [z] at g;induction fl<;>exact cG g) g1
end
structure Io(n:af)(ba:ao af)(size:af)(op:Op)(t p:af):Prop where
 tl:op.aO=ak→t<n
 cq:p<size→∃h,ba[p]? =ac h∧op.bO≤h∧(op.c3=aF→p+1<size∧ba[p+1]? =ac (h-op.bO+op.fW))∧(op.aO=ak→t<size∧ba[t]? =ac (h-op.bO+op.fW))
def YV{op:Op}(j:op.aO=ak):op.bO=(if op.aV then 1 else 0)+op.fW∧(op.aV=ak→op.fW=0∧op.c3=aF):=by induction op<;>first|exact ⟨ag,fun q9=>⟨ag,ag⟩⟩|exact ⟨ag,fun z=>cG z⟩|exact cG j
def YW{w:W}(j:w.ay.aO=ak)(ok:w.cq.bm ak=ak):w.a=.aA:=by
 refine aw fun kz=>?_
 obtain ⟨op,g,a,b⟩:=w
 obtain ⟨h,_⟩:=jY.mp (show (c8 a&&c8 b&&ak)=ak by induction op<;>first|exact ok|exact cG j)
 obtain ⟨h,_⟩:=jY.mp h
 refine kz ?_;try clear kz
 exact jz h
def VE{op:Op}{t:af}{a b c:am}{l:aN}{ch:av}(ok:R.bm ak ⟨op,0,a,b,c,0⟩=ak)(h:op=.lQ→ch=ak):R.bm ch ⟨op,t,a,b,c,l⟩=ak:=by
 induction ch with
 |true=>exact ok
 |false=>induction op<;>first|exact ok|exact bW (h ag) mI
section
variable{d:af}{fl:av}{aa:ao W}{ba:ao af}{size p:af}{w:W}
def VF(P:gG aa ba size)(hp:aa[p]? =ac w)(j:w.ay.aO=ak)(g:w.g=au):∃h r8:af,ba[p]? =ac h∧(h:aN)-(if w.ay.aV then 1 else 0)=(r8:aN)∧(∃s<size,ba[s]? =ac r8)∧
  ∀t,t<size→ba[t]? =ac r8→Io aa.length ba size w.ay t p:=by
 obtain ⟨z1,z2⟩:=YV j
 by_cases lp:p<size
 ·refine aw fun kz=>?_
  obtain ⟨h,x,tk,y,_⟩:=P.cq p w lp hp
  refine kz ?_;try clear kz
  have key:(h:aN)-(if w.ay.aV then 1 else 0)=((h-w.ay.bO+w.ay.fW:af):aN):=by
   clear z2 y
   generalize w.ay.bO=t at*
   generalize w.ay.fW=u at*
   generalize w.ay.aV=B at*
   induction B with
   |true=>
    have z1:t=1+u:=z1
    subst z1
    exact Xv tk
   |false=>
    have z1:t=0+u:=z1
    subst z1
    exact Xw tk
  refine ⟨h,h-w.ay.bO+w.ay.fW,x,key,?_,fun t lt ht=>⟨fun q9=>iN lt P.gP,fun q9=>⟨h,x,tk,y,fun q9=>⟨lt,ht⟩⟩⟩⟩
  cases b:w.ay.aV
  ·rw [b] at z1
   refine ⟨p,lp,?_⟩
   refine aq x ?_
   congr 1
   rw [z1] at tk⊢
   rw [show (if aF=ak then 1 else 0)+w.ay.fW=w.ay.fW from nu _] at tk⊢
   exact (tg tk).symm
  ·exact ⟨p+1,y (z2 b).2⟩
 ·obtain ⟨b,x⟩:=(P.Fc p w (vh lp) hp j).2 g
  refine ⟨1,0,x,by refine aq b ?_;rfl,⟨0,P.AF,P.dm⟩,fun t lt ht=>⟨fun q9=>iN lt P.gP,fun z=>bW z lp⟩⟩
def VG(P:gG aa ba size)(hp:aa[p]? =ac w)(j:w.ay.aO=ak){k:af}(g:w.g=ac k):Io aa.length ba size w.ay (p+k) p:=by
 by_cases lp:p<size
 ·obtain ⟨h,x,tk,y,z⟩:=P.cq p w lp hp
  exact ⟨fun q9=>iN (z k j g).1 P.gP,fun q9=>⟨h,x,tk,y,fun q9=>z k j g⟩⟩
 ·exact ⟨fun q9=>(P.Fc p w (vh lp) hp j).1 k g,fun z=>bW z lp⟩
def YX(P:gG aa ba size)(hp:aa[p]? =ac w)(j:w.ay.aO=aF):Io aa.length ba size w.ay 0 p:=
 ⟨fun z=>bW (j▸z) mI,fun lp=>by obtain ⟨h,x,tk,y,_⟩:=P.cq p w lp hp;exact ⟨h,x,tk,y,fun z=>bW (j▸z) mI⟩⟩
end
def Qf{body:bJ→an→KS→Prop}{xs:ao af}{tp:av}{K:KS}:∀{items:ao am}(I:af→bJ→an→Prop),
  (∀(i:af)(v:am)(ρ:bJ)(σ:an)(N:bJ→an→Prop),items[i]? =ac v→I i ρ σ→(∀dw bS,I (i+1) dw bS→N dw bS)→lE ρ xs tp v fun dw=>body dw σ (lF N K))→
  ∀{ρ:bJ}{σ:an},I 0 ρ σ→(∀ρ σ,I items.length ρ σ→K .aS ρ σ)→lP body xs tp K items ρ σ:=by
 intro items
 induction items with
 |nil=>
  intro _ _ _ _ h hK
  exact hK _ _ h
 |cons v vs ih=>
  intro I step _ _ h hK
  exact step 0 v _ _ _ ag h fun q9 q9 h'=>ih (fun i=>I (i+1)) (fun i v ρ σ N hi=>step (i+1) v ρ σ N hi) h' hK
def RH(τ:an)(b:cD)(rs:ao R):an:=ac b::(τ++[ac (.al (rs.map eJ))])
def ab7{τ:an}{b:cD}{rs:ao R}{r:R}(h:rs.length≤500):kG a4 (RH τ b rs) .eA (.a6 (τ.length+1)) [.f (eJ r)] =ac (.f .aA,RH τ b (rs++[r])):=by
 refine (jo (σ:=RH τ b rs) (i:=τ.length+1) (dP τ _ _) (by rw [b9];exact a5 h (by decide))).trans ?_
 unfold RH
 (refine aq DU ?_;rewrite [my];refine aq qJ ?_);rfl
def qQ(n:af)(ba:ao af)(size:af)(ch:av)(rs:ao R):Prop:=(∀r∈rs,r.bm ch=ak)∧(∀(p:af)(r:R),rs[p]? =ac r→Io n ba size r.ay r.t p)
section
variable{n:af}{ba:ao af}{size:af}{ch:av}{rs:ao R}(s0:qQ n ba size ch rs)
include s0
def qQ.bm:∀r∈rs,r.bm ch=ak:=s0.1
def qQ.cq:∀(p:af)(r:R),rs[p]? =ac r→Io n ba size r.ay r.t p:=s0.2
end
def qQ.afl{n:af}{ba:ao af}{size:af}{ch:av}{rs:ao R}{r:R}(h:qQ n ba size ch rs)(ok:r.bm ch=ak)(f:Io n ba size r.ay r.t rs.length):qQ n ba size ch (rs++[r]):=by
 refine ⟨fun x hx=>?_,fun p x hx=>?_⟩
 ·rcases pD.mp hx with hx|hx
  ·exact h.bm x hx
  ·refine aq (jg.mp hx) ?_;exact ok
 ·by_cases lp:p<rs.length
  ·rw [sJ lp] at hx
   exact h.cq p x hx
  ·have lp:=vh lp
   rw [nO lp] at hx
   have:=(fM.mp hx).1
   obtain rfl:p=rs.length:=wp (ZM (Rs.mp this)) lp
   rw [nZ] at hx
   obtain rfl:=cp hx
   exact f
def Qg(most:af)(kind:am)(within:ao am)(aa:ao W)(ba:ao af)(size n:af)(x8 x9 gh K6 K7 FR:aM aC):bJ:=[ac (.a6 0),ac (.f (.ae most)),ac (.f kind),ac (.f (.al within)),ac (.f (.al (aa.map W.m6))),ac (.f (.al (bI ba))),ac (.f (.ae size)),ac (.a6 (n+1)),x8,x9,gh,au,au,K6,K7,FR,au]
def SI(fl:av)(τ:an)(L:aM aC→aM aC→aM aC→aM aC→aM aC→bJ)(n:af)(ba:ao af)(size:af)(ch:av)(m i:af)(ρ:bJ)(σ:an):Prop:=∃(b:cD)(rs:ao R)(x9 gh K6 K7 FR:aM aC),ρ=L x9 gh K6 K7 FR∧σ=RH τ b rs∧GB fl (m+2*i) b∧rs.length=i∧qQ n ba size ch rs
section
variable{d:af}{fl ch:av}{aa:ao W}{ba:ao af}{size p:af}{w:W}{most:af}{kind:am}{within:ao am}
def K8{C:bw}{m:af}{b:cD}{τ:an}{rs:ao R}{x8 x9 gh FR:aM aC}{N:bJ→an→Prop}{K:KS}{x:am}{t:af}(e:C=vC a4 (d+2))(hw:ch=ak↔within≠ [])(lp:p≤20)(x9e:x9=ac (.f (.ae p)))(aiP:FR=ac (.f w.b))(hb:GB fl (m+2*(p+1)) b)(lr:rs.length=p)(F:qQ aa.length ba size ch rs)
  (ok:w.cq.bm ak=ak) (f:Io aa.length ba size w.ay t p) (hx:x=fa ⟨w.ay,t,w.a,w.b,.aA,p+1⟩) (hN:∀dw bS,SI fl τ (Qg most kind within aa ba size τ.length x8) aa.length ba size ch m (p+1) dw bS→N dw bS):
  fI ⟨a4,C⟩ (fu 2 pw) (Qg most kind within aa ba size τ.length x8 x9 gh (ac (.f (.ah w.ay.bH))) (ac (.f x)) FR) (RH τ b rs) (lF N K):=by
 subst x9e aiP
 have afm:rs.length≤500:=by refine aq lr ?_;exact a5 lp (by decide)
 refine Fx (X:=⟨a4,C⟩) (A:=w.ay== .lQ) (B:=within.isEmpty) (fun K k=>?_) (fun q9 K k=>?_) _ ?_
 ·rw [← gR] at k;exact k
 ·induction within with
  |nil=>apply ai;exact xu;exact k
  |cons x l=>apply ai;exact xv;exact k
 refine bj (fun g=>?_) fun g=>?_
 ·obtain ⟨g1,g2⟩:=jY.mp g
  have g1:=cz g1
  apply ai;exact cT (σ:=RH τ b rs) (i:=τ.length+1) (dP τ _ _)
  refine aw fun kz=>?_
  obtain ⟨op,gg,a,b'⟩:=w
  subst g1
  obtain ⟨h1,_⟩:=jY.mp ok
  obtain ⟨_,h2⟩:=jY.mp h1
  obtain rfl:b'=.aA:=jz h2
  refine kz ?_;try clear kz
  refine pc e (sB ..) ?_
  apply ai;exact ab7 (r:=⟨.qv,0,.ah "u",.aA,.aA,p+1⟩) afm
  refine hN _ _ ⟨b,_,_,_,_,_,_,ag,ag,hb,by (refine aq dg ?_;refine aq lr ?_);rfl,F.afl (by induction ch<;>kernel_rfl) (by refine aq lr ?_;exact ⟨(fun z=>cG z),fun l=>by obtain ⟨h,y1,y2,y3,_⟩:=f.cq l;exact ⟨h,y1,y2,y3,(fun z=>cG z)⟩⟩)⟩
 ·apply ai;exact cT (σ:=RH τ b rs) (i:=τ.length+1) (dP τ _ _)
  refine pc e (sB ..) ?_
  subst hx
  apply ai;exact ab7 (r:=⟨w.ay,t,w.a,w.b,.aA,p+1⟩) afm
  refine hN _ _ ⟨b,_,_,_,_,_,_,ag,ag,hb,by (refine aq dg ?_;refine aq lr ?_);rfl,F.afl (VE ok fun z=>?_) (lr▸f)⟩
  have g:within.isEmpty=aF:=by
   rcases Bool.and_eq_false_iff.mp g with g|g
   ·rw [z] at g;exact cG g
   ·exact g
  exact hw.mpr fun z=>by rw [z] at g;exact cG g
def aed{C:bw}{m:af}{b:cD}{τ:an}{rs:ao R}{x8 gh K6 K7 FR:aM aC}{N:bJ→an→Prop}{K:KS}(e:C=vC a4 (d+2))(P:gG aa ba size)(nr:aa.length≤20)(hp:aa[p]? =ac w)(hw:ch=ak↔within≠ [])(hj:m+2*(p+1)≤5000)(hb:GB fl (m+2*p) b)(lr:rs.length=p)(F:qQ aa.length ba size ch rs)
  (hN:∀dw bS,SI fl τ (Qg most kind within aa ba size τ.length x8) aa.length ba size ch m (p+1) dw bS→N dw bS):
  fI ⟨a4,C⟩ pw (Qg most kind within aa ba size τ.length x8 (ac (.f (.ae p))) (ac (.f w.m6)) K6 K7 FR) (RH τ b rs) (lF N K):=by
 have lp:p≤20:=a5 (jH (fM.mp hp).1) nr
 have ok:=P.bm p w hp
 apply ai;exact Fw _ w.ay
 have ha:w.MM=cE w.ay.aO (gV w.g) w.a:=ag
 generalize w.MM=a at ha⊢
 refine bj (fun g=>?_) fun g=>?_
 ·have j:=(mz w.ay).symm.trans g
  rw [j] at ha
  have wa:=YW j ok
  cases hg:w.g with
  |none=>
   rw [hg] at ha
   refine aw fun kz=>?_
   obtain rfl:a=.aA:=ha
   obtain ⟨h,r8,x,hn,he,q⟩:=VF P hp j hg
   refine kz ?_;try clear kz
   refine ec e (ad9 P hp x nr hn he) hj hb fun b1 v g1 p1=>?_
   refine aw fun kz=>?_
   obtain ⟨t,lt,ht,rfl⟩:=p1
   refine kz ?_;try clear kz
   exact K8 (t:=t) e hw lp ag ag g1 lr F ok (q t lt ht) (by unfold fa;refine aq j ?_;rfl) hN
  |some k=>
   rw [hg] at ha
   obtain rfl:a=.ae k:=ha
   exact K8 (t:=p+k) e hw lp ag ag (hb.up (ff _ 2)) lr F ok (VG P hp j hg) (by unfold fa;refine aq j ?_;rfl) hN
 ·have j:=(mz w.ay).symm.trans g
  rw [j] at ha
  obtain rfl:a=w.a:=ha
  exact K8 (t:=0) e hw lp ag ag (hb.up (ff _ 2)) lr F ok (YX P hp j) (by unfold fa;refine aq j ?_;rfl) hN
end
noncomputable def K9(ba:ao af)(p:af):af:=ba.getD p 0
def v9{ba:ao af}{p h:af}(e:ba[p]? =ac h):K9 ba p=h:=by unfold K9;(rewrite [Ha];refine aq e ?_);rfl
def BN{c:Cd}{p:af}{o:aM R}(e:c.nc.aa[p]? =ac o):∃r,c.aa[p]? =ac r∧o=ac r:=by
 obtain ⟨r,h1,h2⟩:=sA (e:=ac) (l:=c.aa) e
 exact ⟨r,h1,h2.symm⟩
section
variable{ba:ao af}{size:af}{ch:av}{rs:ao R}{cs:ao Ct}{st:ao af}
def Lb(F:qQ rs.length ba size ch rs)(hc:∀k∈cs,l0 ba size k)(hs:∀s∈st,s<size∧ba[s]? =ac 0){p:af}(h:bb (Cd.nc ⟨rs,cs,st⟩) p):p<size:=by
 induction h with
 |cR h=>exact (hs _ h).1
 |nS h e _=>obtain ⟨r,_,z⟩:=BN e;exact bn z
 |d7 h e k ih=>
  refine aw fun kz=>?_
  obtain ⟨r,e,z⟩:=BN e
  refine kz ?_;try clear kz
  obtain rfl:=cp z
  refine aw fun kz=>?_
  obtain ⟨_,_,_,y,_⟩:=(F.cq _ _ e).cq ih
  refine kz ?_;try clear kz
  exact (y k).1
 |bp h e k ih=>
  refine aw fun kz=>?_
  obtain ⟨r,e,z⟩:=BN e
  refine kz ?_;try clear kz
  obtain rfl:=cp z
  refine aw fun kz=>?_
  obtain ⟨_,_,_,_,y⟩:=(F.cq _ _ e).cq ih
  refine kz ?_;try clear kz
  exact (y k).1
 |cM h e m k ih=>exact (hc _ m).tlt
def cov{k:Ct}{p:af}(h:k.bU p=ak):k.dm≤p∧p<k.gx:=by
 obtain ⟨h1,h2⟩:=jY.mp h
 exact ⟨eX h1,eX h2⟩
def OI(hn:ba.length=rs.length)(hc:∀k∈cs,l0 ba size k)(ns:size≤rs.length){p:af}(lp:p<size){k:Ct}(hk:k∈cs)(hv:k.bU p=ak):k.cQ≤K9 ba p:=by
 obtain ⟨h1,h2⟩:=cov hv
 have e:=ed (l:=ba) (hn▸iN lp ns:p<ba.length)
 refine aq (v9 e) ?_
 exact (hc k hk).HZ p _ h1 h2 e
def Qh(hn:ba.length=rs.length)(ns:size≤rs.length)(F:qQ rs.length ba size ch rs)(hc:∀k∈cs,l0 ba size k)(hs:∀s∈st,s<size∧ba[s]? =ac 0):dG (Cd.nc ⟨rs,cs,st⟩) (K9 ba) where
 cR p h:=v9 (hs p h).2
 mW p h:=by
  show p<(rs.map ac).length
  rw [b9];exact iN (Lb F hc hs h) ns
 nS p h e:=by obtain ⟨r,_,z⟩:=BN e;exact bn z
 cq p r h e:=by
  refine aw fun kz=>?_
  obtain ⟨r',e,z⟩:=BN e
  refine kz ?_;try clear kz
  obtain rfl:=cp z
  have lp:=Lb F hc hs h
  refine aw fun kz=>?_
  obtain ⟨x,y1,y2,y3,y4⟩:=(F.cq p r e).cq lp
  refine kz ?_;try clear kz
  have ex:=v9 y1
  refine ⟨ex.symm▸y2,fun z=>?_,fun z=>?_,fun k hk hv=>v9 (hc k hk).tgt,fun q9 k hk hv=>OI hn hc ns lp hk hv⟩
  ·(refine aq ex ?_;refine aq (v9 (y3 z).2) ?_;rewrite [qT];refine aq (tg y2) ?_;rfl)
  ·(refine aq ex ?_;refine aq (v9 (y4 z).2) ?_;rewrite [qT];refine aq (tg y2) ?_;rfl)
def mA(h:Hd)(c:Cd)(ch:av)(ba:ao af):Prop:=(kJ h c ch (K9 ba))∧(ba.length=c.aa.length)∧(j7 c)
section
variable{h:Hd}{c:Cd}{ch:av}{ba:ao af}(s0:mA h c ch ba)
include s0
def mA.nH:kJ h c ch (K9 ba):=s0.1
def mA.bh:ba.length=c.aa.length:=s0.2.1
def mA.lH:j7 c:=s0.2.2
end
def aee{h:Hd}(hk:h.cx=.ah "block"∨h.cx=.ah "method")(P7:∃x y,h.gE=.al [x,y])(Oz:rs.length≤20)(hn:ba.length=rs.length)(ns:size≤rs.length)(F:qQ rs.length ba size ch rs)(c2:cs.length≤2)(hc:∀k∈cs,l0 ba size k)(s2:st.length≤2)(s0:st≠ [])(hs:∀s∈st,s<size∧ba[s]? =ac 0):mA h ⟨rs,cs,st⟩ ch ba:=by
 have tl:∀r∈rs,r.ay.aO=ak→r.t<rs.length:=fun r hr j=>by
  obtain ⟨p,hp⟩:=ww hr
  exact (F.cq p r hp).tl j
 exact ⟨⟨hk,P7,F.bm,tl,fun k m=>⟨(hc k m).nA,(hc k m).lz,hn▸(hc k m).gP,iN (hc k m).tlt ns⟩,s0,Qh hn ns F hc hs,fun p hp k m hv=>OI hn hc ns (Lb F hc hs hp) m hv,Oz,a5 c2 (by decide),a5 s2 (by decide)⟩,hn,
  ⟨fun r hr j=>jH (tl r hr j),fun k m=>⟨(hc k m).lz,hn▸(hc k m).gP,jH (iN (hc k m).tlt ns)⟩,fun s m=>jH (iN (hs s m).1 ns),s0⟩⟩
end
noncomputable def jX(kind:am)(within:ao am):Hd:=⟨kind,.ah "c",.aA,.al [.ah "x",.ah "y"],within⟩
def afn(most:af)(kind:am)(within:ao am)(ch:av)(v:am):Prop:=∃c ba,mA (jX kind within) c ch ba∧c.aa.length≤most∧v=.bE [aU (jX kind within) c,.al (bI ba)]
def YY{X:g9}{ρ:bJ}{σ:an}{R:bK}{K:KS}(h:fI X R ρ σ K):fI X .ab ρ σ (Ih (fI X R) K):=h
def agX{τ:an}{b:cD}{rs:ao R}:acA (RH τ b rs) (.a6 (τ.length+1))=ac (.f (.al (rs.map eJ)),ac b::(τ++[au])):=by
 refine (kP (σ:=RH τ b rs) (i:=τ.length+1) (dP τ _ _)).trans ?_
 unfold RH
 (refine aq DU ?_;rw [my])
def YZ{X:g9}{σ:an}{K:KS}{x0 x1 x2 x3 x4 x5 x6 x7 x8:aM aC}{r:bJ}(k:K .aS (x0::x1::x2::x3::x4::x5::x6::ac (.a6 σ.length)::ac (.f (.al (bI [0])))::r) (σ++[ac (.al [])])):vS X (.dS [7,8] (.O (.al aF .ab) (.O (.al ak (.O (.ae 0) .ab)) .ab))) (x0::x1::x2::x3::x4::x5::x6::x7::x8::r) σ K:=by
 refine ai (iD (σ:=σ) (xs:=[]) (fC _)) ?_
 exact k
section
variable{d:af}{fl ch:av}{aa:ao W}{ba:ao af}{size:af}{most:af}{kind:am}{within:ao am}
def OJ{C:bw}{m:af}{b b0:cD}{τ:an}{rs:ao R}{st:ao af}{x9 gh fX x12 K6 K7 FR:aM aC}{Q:KE}(e:C=vC a4 (d+2))(hk:kind=.ah "block"∨kind=.ah "method")(nm:rs.length≤most)(Oz:rs.length≤20)(hn:ba.length=rs.length)(s0':0<size)(ns:size≤rs.length)(F:qQ rs.length ba size ch rs)(s2:st.length≤2)(s0:st≠ [])(hs:∀s∈st,s<size∧ba[s]? =ac 0)(hj:m+9≤5000)(hb:GB fl m b)
  (hq:∀(b':cD)(v:am)(σ:an),GB fl (m+9) b'→afn most kind within ch v→σ=ac b'::τ→Q (.f v) σ):
  fI ⟨a4,C⟩ (fu 4 (FM yH)) [ac (.a6 0),ac (.f (.ae most)),ac (.f kind),ac (.f (.al within)),ac (.f (.al (aa.map W.m6))),ac (.f (.al (bI ba))),ac (.f (.ae size)),ac (.a6 (τ.length+1)),ac (.f (.al (bI st))),x9,gh,fX,x12,K6,K7,FR,au] (RH τ b rs) (oA aF (ac b0::τ).length Q):=by
 apply ai;exact agX
 have nh:ba.length≤20:=hn▸Oz
 refine ec e (Qe nh (iN s0' (hn▸ns)) (hn▸ns)) hj hb fun b1 v g1 p=>?_
 refine aw fun kz=>?_
 obtain ⟨cs,c2,hc,rfl⟩:=p
 refine kz ?_;try clear kz
 refine pc e (IY ..) ?_
 exact hq b1 _ _ g1 ⟨⟨rs,cs,st⟩,ba,aee hk ⟨_,_,ag⟩ Oz hn ns F c2 hc s2 s0 hs,nm,ag⟩ MK
def Y0{more:af}{x:am}(h:x∈([.al (bI [0]),.al (bI [0,more]),.al (bI [more]),.al (bI [more,0])] :ao am)):∃st:ao af,x=.al (bI st)∧st.length≤2∧st≠ [] ∧∀s∈st,s=0∨s=more:=by
 rcases eH.mp h with rfl|h
 ·exact ⟨_,ag,dT ag,(fun z=>nomatch z),fun s hs=>.inl (jg.mp hs)⟩
 rcases eH.mp h with rfl|h
 ·exact ⟨_,ag,dT ag,(fun z=>nomatch z),fun s hs=>(eH.mp hs).imp id jg.mp⟩
 rcases eH.mp h with rfl|h
 ·exact ⟨_,ag,dT ag,(fun z=>nomatch z),fun s hs=>.inr (jg.mp hs)⟩
 refine aq (jg.mp h) ?_
 exact ⟨_,ag,dT ag,(fun z=>nomatch z),fun s hs=>((eH.mp hs).imp id jg.mp).symm⟩
def OK(h6:2≤most)(BM:most≤20)(hk:kind=.ah "block"∨kind=.ah "method")(hw:ch=ak↔within≠ []):EC (vC a4 (d+8)) 53 [.a6 0,.f (.ae most),.f kind,.f (.al within)] fl 93 (afn most kind within ch):=K0 ag ag ag ag fun C e m b τ Q hj hb hq=>by
 refine ec e (YQ h6 BM) (kO hj 42 (by decide)) hb fun b1 v g1 p=>?_
 refine aw fun kz=>?_
 obtain ⟨aa,ba,size,P,lr,rfl⟩:=p
 refine kz ?_;try clear kz
 have nr:=a5 lr BM
 refine YZ (σ:=ac b1::τ) ?_
 apply ai;exact qd (a5 nr (by decide))
 refine Qf (SI fl τ (Qg most kind within aa ba size τ.length (ac (.f (.al (bI [0]))))) aa.length ba size ch (m+42)) (fun i v ρ σ N hv hI hN=>?_) ⟨b1,[],_,_,_,_,_,ag,ag,g1,ag,(fun q9 z=>bW z hU),fun q9 q9 z=>bn z⟩ fun ρ σ hI=>?_
 ·refine aw fun kz=>?_
  obtain ⟨x,hx,rfl⟩:=Cp hv
  obtain ⟨w,hp,rfl⟩:=sA hx
  obtain ⟨b2,rs,x9,gh,K6,K7,FR,rfl,rfl,g2,l2,F⟩:=hI
  refine kz ?_;try clear kz
  have li:i+1≤20:=a5 (fM.mp hp).1 nr
  exact aed (gh:=gh) (K6:=K6) (K7:=K7) (FR:=FR) e P nr hp hw (a5 (kN (uC 2 li) (m+42)) (kO hj 82 (by decide))) g2 l2 F hN
 ·rw [IU,b9] at hI
  refine aw fun kz=>?_
  obtain ⟨b2,rs,x9,gh,K6,K7,FR,rfl,rfl,g2,l2,F⟩:=hI
  refine kz ?_;try clear kz
  have g2:GB fl (m+82) b2:=g2.up (kN (uC 2 nr) (m+42))
  rw [← l2] at F
  have hn:ba.length=rs.length:=P.bh.trans l2.symm
  have ns:size≤rs.length:=l2.symm▸P.gP
  have Oz:rs.length≤20:=l2.symm▸nr
  have h00:∀s∈ [0],s<size∧ba[s]? =ac 0:=fun s hs=>by refine aq (jg.mp hs) ?_;exact ⟨P.AF,P.dm⟩
  apply ai;exact FP g2
  refine bj (fun gf=>?_) fun gf=>?_
  ·have T5:size≤20:=a5 ns Oz
   have nh:ba.length≤20:=hn▸Oz
   apply ai;exact jq (a5 T5 (by decide))
   rw [vM]
   refine nK e7 (fun s=>ba[s]? ==ac 0) e7 (fun s acc K hs k1 k2=>?_) ?_
   ·have sl:s<ba.length:=iN (qk.mp hs) (hn▸ns)
    apply ai;exact iJ (ed sl) (a5 nh (by decide))
    have z:(ba[s]? ==ac 0)=((ba[s] :aN)==0):=by
     rw [ed sl]
     exact OG (b:=0)
    rw [z] at k1 k2
    exact bj k1 k2
   generalize T6:(gw size).filter (fun s=>ba[s]? ==ac 0)=Xb
   have mem:∀s∈Xb,s<size∧ba[s]? =ac 0:=fun s hs=>by
    obtain ⟨h1,h2⟩:=o5.mp (T6▸hs)
    exact ⟨qk.mp h1,cz h2⟩
   have len:Xb.length≤20:=by
    refine iu T6 ?_
    exact a5 (wv _ _) (by refine aq sM ?_;exact T5)
   have pos:0<Xb.length:=by
    refine List.length_pos_of_mem (a:=0) (T6▸o5.mpr ⟨qk.mpr P.AF,mi.mpr P.dm⟩)
   clear T6
   apply ai;exact nU (f:=e7) (a5 len (by decide))
   apply ai;exact eS (f:=e7) (a5 len (by decide))
   refine ec e (gz pos (ni len (by decide))) (kO hj 83 (by decide)) g2 fun b3 v g3 p=>?_
   refine aw fun kz=>?_
   obtain ⟨k,hk2,rfl⟩:=p
   refine kz ?_;try clear kz
   apply ai;exact iJ (f:=e7) (ed hk2) (a5 len (by decide))
   have mm:=mem _ (Av hk2)
   generalize Xb[k] =more at mm⊢
   refine ec e (gz (j4:=4) (by decide) (by decide)) (kO hj 84 (by decide)) g3 fun b4 v g4 p=>?_
   refine aw fun kz=>?_
   obtain ⟨k,hk3,rfl⟩:=p
   obtain ⟨x,hx,ex⟩:=ML (xs:=[.al (bI [0]),.al (bI [0,more]),.al (bI [more]),.al (bI [more,0])]) hk3 (dT ag)
   refine kz ?_;try clear kz
   apply ai;exact ex _
   refine aw fun kz=>?_
   obtain ⟨st,rfl,t2,t0,ts⟩:=Y0 hx
   refine kz ?_;try clear kz
   exact OJ (m:=m+84) e hk (l2.symm▸lr) Oz hn P.AF ns F t2 t0 (fun s hs=>by
    rcases ts s hs with rfl|rfl
    ·exact ⟨P.AF,P.dm⟩
    ·exact mm) hj g4 hq
  ·refine YY ?_
   exact OJ (m:=m+84) e hk (l2.symm▸lr) Oz hn P.AF ns F (st:=[0]) (by decide) (fun z=>nomatch z) h00 hj (g2.up (ff _ 2)) hq
end
def Y1(x:af):∃g:af,tD x ((10:aN)^(90:aN).toNat)=g:=by
 obtain ⟨g,hg⟩:=aaP (Int.fmod_nonneg (a:=x) (b:=(10:aN)^(90:aN).toNat) (wA x) (Int.pow_nonneg (by decide)))
 exact ⟨g,hg⟩
section
variable{d:af}{is:ao aN}
def Jp{n:af}(h:is.length≤63)(hn:n≤1000)(σ:an):lO σ ak (.f (.al (is.map .ae))) (.f .aA) (.f (.ae n))=ac (.f (.al ((is.take n).map .ae)),σ):=by
 refine aq RU ?_
 exact Cy ag (by rw [b9];exact a5 h (by decide)) hn
def agY{σ:an}{l:ao aN}{f:aN→aN}:∃x:af,eP σ ak 2 [.f (.al (.ae 0::l.map fun a=>.ae (f a)))] =ac (.f (.ae x),σ):=by
 have a:∀l:ao aN,Hy (l.map fun a=>.ae (f a))=ac (l.map f):=fun l=>by
  induction l with
  |nil=>rfl
  |cons x l ih=>exact a7 (qG (f x:: ·)) ih
 have b:∀(l:ao aN)(i:aN),i≤l.foldl max i:=fun l=>by
  induction l with
  |nil=>exact fun i=>Int.le_refl i
  |cons x l ih=>exact fun i=>yy (Int.le_max_left i x) (ih _)
 obtain ⟨x,hx⟩:=aaP (b (l.map f) 0)
 refine ⟨x,(a7 (fun o=>lj (qG (0:: ·) o) _) (a l)).trans ?_⟩
 show ac (aC.f (.ae ((l.map f).foldl max 0)),σ)=_
 (refine aq hx ?_;rfl)
def agZ(h:is.length≤63)(Q:KE)(hq:∀(b:cD)(fl:av),GB fl 0 b→Q (.a6 0) [ac b]):vC a4 (d+1) 39 [.f (.al (is.map .ae))] [] Q:=MD (fun C e=>by
 apply ai;exact Jp (n:=1) h (by decide) _
 have l1:(is.take 1).length≤1:=Hh _ _
 apply ai;exact dJ (a5 l1 (by decide))
 refine jC .ae (fun a=>.ae (a-(10:aN)^(18:aN).toNat)) (fun a acc K ha hK=>hK) ?_
 apply ai;exact nU (a5 l1 (by decide))
 apply ai;exact ol (xs:=.ae 0::(is.take 1).map fun a=>.ae (a-(10:aN)^(18:aN).toNat)) (jG (by rw [b9];exact a5 l1 (by decide)))
 obtain ⟨x,ex⟩:=agY (σ:=[]) (l:=is.take 1) (f:=fun a=>a-(10:aN)^(18:aN).toNat)
 apply ai;exact ex
 obtain ⟨g,hg⟩:=Y1 x
 apply ai;exact Jp (n:=24) h (by decide) _
 apply ai;exact dJ (a5 (Hh _ _) (by decide))
 refine AW (fun ρ σ=>∃(s:af)(x1:aM aC),s<2 ^ 31∧ρ=[ac (.f (.al (is.map .ae))),x1,ac (.f (.ae (tD x ((10:aN)^(90:aN).toNat)))),ac (.f (.ae s)),au] ∧σ=[]) (fun v ρ σ N hv hI hN=>?_) ⟨33023,au,by decide,ag,ag⟩ fun ρ σ hI=>?_
 ·obtain ⟨a,_,rfl⟩:=iO.mp hv
  obtain ⟨s,x1,hs,rfl,rfl⟩:=hI
  obtain ⟨y,_,ey⟩:=SV (a:=s) (b:=48271) (jH hs) (by decide:(48271:Int).natAbs≤48271) (by decide) (by decide)
  apply ai;exact ey _ _
  obtain ⟨k,hk,ek⟩:=A9 (a:=y+a) (b:=2147483629) (by decide)
  exact hN _ _ ⟨k,_,Ru hk (by decide),a7 (fun z=>[_,_,_,ac (aC.f (.ae z)),au]) ek,ag⟩
 ·obtain ⟨s,x1,hs,rfl,rfl⟩:=hI
  have l63:is.length≤500:=a5 h (by decide)
  have key:∃fl:av,VB ⟨a4,C⟩ (.iP (.O (.aL (.az 0) (.O .bN (.al ak .ab) .ab)) (.O (.dX (.O (.aL (.aD ak (.aJ 12) (.O (.az 0) .ab)) (.O .bN (.ae 1) .ab)) (.O (.aL (.aD ak (.aJ 42) (.O (.bx (.az 0) (.ae 0)) .ab)) (.O .lz (.ae 10) .ab)) .ab))) .ab))) [ac (.f (.al (is.map .ae))),x1,ac (.f (.ae (tD x ((10:aN)^(90:aN).toNat)))),ac (.f (.ae s)),au] [] fl:=by
   match is,l63 with
   |[],_=>exact ⟨ak,fun K k=>by
    apply ai;exact xu
    exact k⟩
   |i::l,l63=>exact ⟨_,or2 (A:=aF) (B:=((l.length+1:af):aN)==1&&dc ((i.natAbs:aN)<10)) (fun K k=>by
    apply ai;exact xv
    exact k) fun q9=>Fx (fun K k=>by
    apply ai;exact eS (f:=am.ae) l63
    exact k) fun q9 K k=>by
    apply ai;exact iJ (l:=i::l) (f:=am.ae) (k:=0) ag l63
    exact k⟩
  obtain ⟨fl,key⟩:=key
  refine key _ ?_
  apply ai;exact iD (dT ag)
  refine b8 (Q:=Q) (hq (.al [.ae (tD x ((10:aN)^(90:aN).toNat)),.ae s,.ae 0,.aG fl]) fl ⟨g,s,0,a7 (fun z=>cD.al [.ae z,.ae s,.ae 0,.aG fl]) hg,hs,c9 0⟩) ag) ag ag ag ag
end
def wP(c c':Cd):Prop:=∀k'∈c'.aK,∃k∈c.aK,k'.nA=k.nA∧k'.cQ=k.cQ
def wP.bL(c:Cd)(aa:aR):wP c (c.bL aa):=fun k' h=>by
 refine aw fun kz=>?_
 obtain ⟨k,m,e⟩:=LL.mp h
 refine kz ?_;try clear kz
 unfold Ct.fL at e
 split at e
 ·refine iu (cp e) ?_;exact ⟨k,m,ag,ag⟩
 ·exact bn e
def wP.aX{a b c:Cd}(h:wP a b)(h':wP b c):wP a c:=fun k hk=>by
 obtain ⟨k1,m1,e1,f1⟩:=h' k hk
 obtain ⟨k2,m2,e2,f2⟩:=h k1 m1
 exact ⟨k2,m2,e1.trans e2,f1.trans f2⟩
def FS(c:Cd):wP c (jj c):=(((((((wP.bL c _).aX (.bL _ _)).aX (.bL _ _)).aX (.bL _ _)).aX (.bL _ _)).aX (.bL _ _)).aX (.bL _ _)).aX (.bL _ _)
def Jq:∀(k:af)(c:Cd),wP c (dz k c):=by
 intro k
 induction k with
 |zero=>
  intro c
  exact fun k hk=>⟨k,hk,ag,ag⟩
 |succ k ih=>
  intro c
  unfold dz
  split
  ·exact FS c
  ·exact (FS c).aX (ih _)
section
variable{h h':Hd}{c:Cd}{ch:av}{ba:ao af}
def mA.gZ(S:mA h c ch ba):mY c ch:=⟨⟨⟨_,S.nH.ie⟩,fun p r e=>S.nH.aa r (gM (cP.mp e))⟩,S.lH,S.nH.jW⟩
def mA.Qi(S:mA h c ch ba)(n:c.aa.length≤10):iq (dz 24 c) ch∧fK c.nc (dz 24 c).nc:=
 XU 24 S.gZ (jG (a5 (tq n (a5 aad n)) (by decide)))
def VH{v:am}(h:v=.ah "rescue"∨v=.ah "ensure"):gI v=ak:=by rcases h with rfl|rfl<;>rfl
def mA.H3(S:mA h c ch ba):xt c:=fun k hk=>VH (S.nH.aK k hk).nA
def mA.T7(S:mA h c ch ba)(n:af):xt (dz n c):=fun k hk=>by
 obtain ⟨k',m,e,_⟩:=Jq n c k hk
 refine aq e ?_;exact S.H3 k' m
def r9(R:iq c ch):∀r∈c.aa,r.bm ch=ak:=fun r hr=>by
 obtain ⟨p,hp⟩:=ww hr
 exact R.gZ.bm.bm p r (cP.mpr hp)
def vN(G:iC c)(b:Bd c):∀r∈c.aa,r.ay.aO=ak→r.t≤1000:=fun r hr j=>a5 (jH (G r hr j)) (a5 b.aa (by decide))
def Jr(S:mA h c ch ba)(n:c.aa.length≤10)(z:∀k∈c.aK,k.cQ=0)(hk:h'.cx=.ah "block"∨h'.cx=.ah "method")(hs:∃x y,h'.gE=.al [x,y]):∃H,kJ h' (dz 24 c) ch H:=by
 have R:=(S.Qi n).1
 have sub:=Jq 24 c
 have bd:=GJ 24 S.gZ S.nH.bd
 generalize dz 24 c=c' at*
 obtain ⟨H,T⟩:=R.gZ.bm.ie
 refine ⟨H,hk,hs,r9 R,R.gZ.ia,fun k hk=>?_,R.gZ.lH.Fh,T,fun p q9 k hk q9=>?_,bd⟩
 ·obtain ⟨k',m,e,_⟩:=sub k hk
  obtain ⟨lt,le,_⟩:=R.gZ.lH.aK k hk
  have f:=iN lt le
  refine ⟨e▸(S.nH.aK k' m).nA,lt,le,?_⟩
  have:=T.mW _ (.cM (R.PB.2 _ f) (cP.mpr (ed f)) hk (by unfold Ct.bU;(refine aq (jx (c9 _)) ?_;refine aq (jx lt) ?_);rfl))
  rw [show c'.nc.aa=c'.aa.map ac from ag,b9] at this
  exact this
 ·obtain ⟨k',m,_,e⟩:=sub k hk
  (refine aq e ?_;refine aq (z k' m) ?_);exact fC _
end
noncomputable def Ip:ao aI:=["threaded","known branches","turned branches","short jumps","dead rows","pushes","copies","swaps"]
noncomputable def Iq:ao aI:=["copies","dead rows","known branches","pushes","short jumps","swaps","threaded","turned branches"]
def Qj(a b c:aI)(h1:ji a b=ak)(h2:ji b c=ak):ji a c=ak:=jx (RV (eX h1) (eX h2))
def Qk(a b:aI):(ji a b||ji b a)=ak:=by
 rcases aax a.cps.toList b.cps.toList with h|h
 ·exact qS.mpr (.inl (jx h))
 ·exact qS.mpr (.inr (jx h))
def VI:Ip.mergeSort ji=Iq:=
 abe (le:=fun a b=>ji a b=ak) (fun a b ha hb=>(show∀a∈Ip,∀b∈Iq,ji a b=ak→ji b a=ak→a=b by decide+kernel) a ((RG Ip ji).mem_iff.mp ha) b hb) (Z7 Qj Qk Ip) (by decide+kernel) ((RG Ip ji).trans (by decide+kernel))
def VJ{σ:an}:eP σ ak 7 [.f (.al (Ip.map .ah))] =ac (.f (.al (Iq.map .ah)),σ):=by
 show jJ σ ak ((Ip.mergeSort ji).map .ah)=_
 refine aq VI ?_
 exact nU (dT ag)
def ph(k:sG):Prop:=(k.1=jX (.ah "block") [])∧(∃ba,mA k.1 k.2 aF ba)∧(k.2.aa.length≤10)
section
variable{k:sG}(s0:ph k)
include s0
def ph.hd:k.1=jX (.ah "block") [] :=s0.1
def ph.bm:∃ba,mA k.1 k.2 aF ba:=s0.2.1
def ph.n:k.2.aa.length≤10:=s0.2.2
end
def AG{kind:am}(h:gI kind=ak)(w:ao am):xW (jX kind w):=⟨h,ag,ag,[.ah "x",.ah "y"],ag,dT ag,fun x hx=>by
 rcases eH.mp hx with rfl|hx
 ·rfl
 ·refine aq (jg.mp hx) ?_;rfl⟩
section
variable{k:sG}
def ph.aA(K:ph k):k.1.ft=[] :=by refine aq K.hd ?_;rfl
def ph.hdo(K:ph k):xW k.1:=by refine aq K.hd ?_;exact AG ag _
def ph.Eu(K:ph k):yP k:=by obtain ⟨_,S⟩:=K.bm;exact ⟨S.gZ,S.nH.bd,K.aA⟩
def ph.acS(K:ph k):A4 k:=by obtain ⟨_,S⟩:=K.bm;exact ⟨K.hdo,S.nH.bd,S.nH.aa,vN S.nH.jW S.nH.bd,K.aA⟩
def ph.acT(K:ph k):Im k:=by obtain ⟨_,S⟩:=K.bm;exact ⟨⟨_,S.nH⟩,K.aA,by refine aq K.hd ?_;rfl⟩
def ph.jR(K:ph k):nE 10 (qP k.1 k.2 []):=by obtain ⟨_,S⟩:=K.bm;exact vK (n:=5) K.hdo S.H3 S.nH.aa fun q9 z=>bW z hU
def pi(h:Hd)(c':Cd)(z:Prop):Prop:=(iq c' aF)∧(Bd c')∧(xt c')∧(h=jX (.ah "block") [])∧(z→∃H,kJ h c' aF H)
section
variable{h:Hd}{c':Cd}{z:Prop}(s0:pi h c' z)
include s0
def pi.on:iq c' aF:=s0.1
def pi.bd:Bd c':=s0.2.1
def pi.H3:xt c':=s0.2.2.1
def pi.hd:h=jX (.ah "block") [] :=s0.2.2.2.1
def pi.nH:z→∃H,kJ h c' aF H:=s0.2.2.2.2
end
def ph.aiQ(K:ph k):∃c',i9 k=(k.1,c')∧fK k.2.nc c'.nc∧pi k.1 c' (∀q∈k.2.aK,q.cQ=0):=by
 obtain ⟨_,S⟩:=K.bm
 have T:=S.Qi K.n
 have B:=GJ 24 S.gZ S.nH.bd
 have s:=S.T7 24
 have t:=fun z=>Jr (h':=k.1) S K.n z (.inl (by refine aq K.hd ?_;rfl)) ⟨.ah "x",.ah "y",by refine aq K.hd ?_;rfl⟩
 have e:i9 k=(k.1,dz 24 k.2):=by unfold i9;with_reducible rfl
 generalize dz 24 k.2=c' at*
 exact ⟨c',e,T.2,T.1,B,s,K.hd,t⟩
variable{h:Hd}{c':Cd}{z:Prop}
def pi.aA(U:pi h c' z):h.ft=[] :=by refine aq U.hd ?_;rfl
def pi.aiR(U:pi h c' z):Il (h,c'):=⟨U.on,U.bd,U.aA⟩
def pi.Eu(U:pi h c' z):yP (h,c'):=⟨U.on.gZ,U.bd,U.aA⟩
def pi.acS(U:pi h c' z):A4 (h,c'):=⟨by refine aq U.hd ?_;exact AG ag _,U.bd,r9 U.on,vN U.on.gZ.ia U.bd,U.aA⟩
def pi.acT(U:pi h c' z)(p:z):Im (h,c'):=⟨U.nH p,U.aA,by refine aq U.hd ?_;rfl⟩
def pi.jR(U:pi h c' z):nE 10 (qP h c' []):=vK (n:=5) (by refine aq U.hd ?_;exact AG ag _) U.H3 (r9 U.on) fun q9 z=>bW z hU
end
section
variable{σ:an}{x:am}
def GQ(h:nE 12 x)(l:∃xs,x=.al xs):fg a4 σ .ne (.f x) (.f x)=ac aF:=by
 obtain ⟨xs,rfl⟩:=l
 show (oy (.al xs) (.al xs)).map _=_
 unfold oy
 refine aq (show qs nJ (.al xs) (.al xs)=ac ak from h) ?_;rfl
def Y2(h:nE 12 x)(l:∃xs,x=.al xs):fg a4 σ .bN (.f x) (.f x)=ac ak:=by
 obtain ⟨xs,rfl⟩:=l
 show oy (.al xs) (.al xs)=_
 unfold oy
 exact h
def Ql(n:af)(H:af→af)(m:af→av):m5 (jO n H m):=fun v hv=>by
 refine aw fun kz=>?_
 obtain ⟨p,_,rfl⟩:=iO.mp hv
 refine kz ?_;try clear kz
 unfold r7
 cases m p<;>exact fE ag
end
abbrev fO:=Hd×Cd×Cd
def fO.f(t:fO):am:=aU t.1 t.2.1
def fO.g(t:fO):am:=aU t.1 t.2.2
def oF(C:bw)(T:ao fO)(h:Hd)(c c2:Cd)(ba lI:ao af)(V1 V2:ao am):Prop:=(PC C 54 [.f (aU (h.wk (T.map fO.f)) c)] (.al V1))∧(PC C 54 [.f (aU (h.wk (T.map fO.g)) c2)] (.al V2))∧(nE 12 (.al V1))∧(nE 12 (.al V2))∧(PC C 55 [.f (aU (h.wk (T.map fO.f)) c)] (.al (bI lI)))∧(PC C 63 [.f (aU (h.wk (T.map fO.f)) c)] (.al (jO ba.length (K9 ba) fun p=>lI.contains p)))∧(PC C 36 [.f (aU (h.wk (T.map fO.f)) c)] (aU (h.wk (T.map fO.g)) c2))∧(PC C 36 [.f (aU (h.wk (T.map fO.g)) c2)] (aU (h.wk (T.map fO.g)) c2))∧(PC C 59 [.f (aU (h.wk (T.map fO.g)) c2)] (.aG ak))∧(PC C 62 [.f (aU (h.wk (T.map fO.f)) c),.f (aU (h.wk (T.map fO.g)) c2)] (.aG ak))∧(∀t∈T,PC C 59 [.f t.g] (.aG ak))∧(∀t∈T,PC C 62 [.f t.f,.f t.g] (.aG ak))∧(∀s∈Iq,PC C 38 [.f (aU (h.wk (T.map fO.g)) c2),.f (.al [.ah s])] (aU (h.wk (T.map fO.g)) c2))∧((∀k∈c.aK,k.cQ=0)→(∀t∈T,∀k∈t.2.1.aK,k.cQ=0)→∃n H,PC C 63 [.f (aU (h.wk (T.map fO.g)) c2)] (.al (jO n H fun q9=>ak)))∧(ba.length≤20)∧(T.length≤5)∧(c.aK.length≤8)∧(∀t∈T,t.2.1.aK.length≤8)
section
variable{C:bw}{T:ao fO}{h:Hd}{c c2:Cd}{ba lI:ao af}{V1 V2:ao am}(s0:oF C T h c c2 ba lI V1 V2)
include s0
def oF.ab8:PC C 54 [.f (aU (h.wk (T.map fO.f)) c)] (.al V1):=s0.1
def oF.SZ:PC C 54 [.f (aU (h.wk (T.map fO.g)) c2)] (.al V2):=s0.2.1
def oF.s1:nE 12 (.al V1):=s0.2.2.1
def oF.s2:nE 12 (.al V2):=s0.2.2.2.1
def oF.aiS:PC C 55 [.f (aU (h.wk (T.map fO.f)) c)] (.al (bI lI)):=s0.2.2.2.2.1
def oF.aiT:PC C 63 [.f (aU (h.wk (T.map fO.f)) c)] (.al (jO ba.length (K9 ba) fun p=>lI.contains p)):=s0.2.2.2.2.2.1
def oF.Qi:PC C 36 [.f (aU (h.wk (T.map fO.f)) c)] (aU (h.wk (T.map fO.g)) c2):=s0.2.2.2.2.2.2.1
def oF.ag0:PC C 36 [.f (aU (h.wk (T.map fO.g)) c2)] (aU (h.wk (T.map fO.g)) c2):=s0.2.2.2.2.2.2.2.1
def oF.on:PC C 59 [.f (aU (h.wk (T.map fO.g)) c2)] (.aG ak):=s0.2.2.2.2.2.2.2.2.1
def oF.kt:PC C 62 [.f (aU (h.wk (T.map fO.f)) c),.f (aU (h.wk (T.map fO.g)) c2)] (.aG ak):=s0.2.2.2.2.2.2.2.2.2.1
def oF.ag1:∀t∈T,PC C 59 [.f t.g] (.aG ak):=s0.2.2.2.2.2.2.2.2.2.2.1
def oF.ag2:∀t∈T,PC C 62 [.f t.f,.f t.g] (.aG ak):=s0.2.2.2.2.2.2.2.2.2.2.2.1
def oF.aiU:∀s∈Iq,PC C 38 [.f (aU (h.wk (T.map fO.g)) c2),.f (.al [.ah s])] (aU (h.wk (T.map fO.g)) c2):=s0.2.2.2.2.2.2.2.2.2.2.2.2.1
def oF.gx:(∀k∈c.aK,k.cQ=0)→(∀t∈T,∀k∈t.2.1.aK,k.cQ=0)→∃n H,PC C 63 [.f (aU (h.wk (T.map fO.g)) c2)] (.al (jO n H fun q9=>ak)):=s0.2.2.2.2.2.2.2.2.2.2.2.2.2.1
def oF.nh:ba.length≤20:=s0.2.2.2.2.2.2.2.2.2.2.2.2.2.2.1
def oF.nT:T.length≤5:=s0.2.2.2.2.2.2.2.2.2.2.2.2.2.2.2.1
def oF.nk:c.aK.length≤8:=s0.2.2.2.2.2.2.2.2.2.2.2.2.2.2.2.2.1
def oF.nkt:∀t∈T,t.2.1.aK.length≤8:=s0.2.2.2.2.2.2.2.2.2.2.2.2.2.2.2.2.2
end
section
variable{C:bw}{T:ao fO}{h:Hd}{c c2:Cd}{ba lI:ao af}{V1 V2:ao am}(F:oF C T h c c2 ba lI V1 V2){σ:an}
def vO(T:ao fO)(h:Hd)(c:Cd)(ba:ao af)(x0 x1 x3 x4 x5 x8 x9 gh fX:aM aC):bJ:=[x0,x1,ac (.f (.al (T.map fO.f))),x3,x4,x5,ac (.f (aU (h.wk (T.map fO.f)) c)),ac (.f (.al (bI ba))),x8,x9,gh,fX,au,au,au,au,au,au]
include F
def ag3{K:KS}{x0 x1 x8 gh fX:aM aC}(hK:K .aS (vO T h c ba x0 x1 au au au x8 (ac (.f (.al (bI lI)))) gh fX) σ):
  vS ⟨a4,C⟩ (.bg (.aL (.aD ak (.aJ 76) (.O (.az 6) .ab)) (.O .ne EZ .ab)) (.O (.a9 (.aG aF)) .ab) .ab) (vO T h c ba x0 x1 au au au x8 (ac (.f (.al (bI lI)))) gh fX) σ K:=by
 refine pc ag F.aiT ?_
 apply ai;exact eS (f:=e7) (a5 F.nh (by decide))
 apply ai;exact jq (a5 F.nh (by decide))
 rw [vM]
 refine jC e7 (r7 (K9 ba) fun p=>lI.contains p) (fun s acc K hs hK=>?_) ?_
 ·apply ai;exact Yg lI s
  have sl:s<ba.length:=qk.mp hs
  have hK:K (acc++[cE (lI.contains s) (.ae (K9 ba s)) .aA]) σ:=hK
  refine bj (fun g=>?_) fun g=>?_
  ·rw [g,v9 (ed sl)] at hK
   apply ai;exact iJ (f:=e7) (ed sl) (a5 F.nh (by decide))
   exact hK
  ·rw [g] at hK
   exact hK
 apply ai;exact nU (a5 (lm sM) (a5 F.nh (by decide)))
 apply ai;exact GL (Ql ba.length (K9 ba) fun p=>lI.contains p)
 exact hK
def ag4{K:KS}{x0 x1 x8 x9 gh fX:aM aC}(hK:K .aS (vO T h c ba x0 x1 (ac (.f (aU (h.wk (T.map fO.g)) c2))) au au x8 x9 gh fX) σ):
  vS ⟨a4,C⟩ (.bg (.iP (.O (.aL (.aD ak (.aJ 12) (.O (.aB (.az 3) "children") .ab)) (.O .ne (.aD ak (.aJ 12) (.O (.az 2) .ab)) .ab)) (.O (.aL (.aD ak (.aJ 78) (.O E0 .ab)) (.O .ne (.aD ak (.aJ 9) (.O (.aJ 77) .ab)) .ab)) .ab))) (.O (.a9 (.aG aF)) .ab) .ab) (vO T h c ba x0 x1 (ac (.f (aU (h.wk (T.map fO.g)) c2))) au au x8 x9 gh fX) σ K:=by
 have nT:T.length≤500:=a5 F.nT (by decide)
 refine or2 (X:=⟨a4,C⟩) (A:=aF) (B:=aF) (fun K k=>?_) (fun q9 K k=>?_) _ ?_
 ·apply ai;exact eS (f:=fO.g) nT
  apply ai;exact eS (f:=fO.f) nT
  have z:(!((T.length:aN)==(T.length:aN)))=aF:=by rw [ug];rfl
  rw [← z] at k
  exact k
 ·apply ai;exact VJ
  apply ai;exact GQ (x:=.al (Iq.map .ah)) (lY fun v hv=>by
   obtain ⟨s,_,rfl⟩:=iO.mp hv
   exact fE ag) ⟨_,ag⟩
  exact k
 exact hK
end
def VK{α:Type}(f g:α→am):∀l:ao α,jB (l.map f) (l.map g)=l.map fun t=>.bE [f t,g t] :=by
 intro l
 induction l with
 |nil=>
  exact ag
 |cons x l ih=>
  exact a7 (am.bE [f x,g x] :: ·) (ih)
def VL{α β:Type}{f:α→ao β}:∀{l:ao α},(∀x∈l,(f x).length≤8)→(l.flatMap f).length≤8*l.length:=by
 intro l
 induction l with
 |nil=>
  intro _
  exact c9 0
 |cons x l ih=>
  intro h
  (refine aq RN ?_;refine aq dg ?_;refine aq o3 ?_;rw [DO,uE])
  exact tq (ih fun y hy=>h y (jf _ hy)) (h x fF)
def Y3{σ:an}(n:af)(H:af→af):fg a4 σ .fw (.f .aA) (.f (.al (jO n H fun q9=>ak)))=ac aF:=by
 show jh .aA (jO n H fun q9=>ak)=_
 unfold jh jO
 induction gw n with
 |nil=>rfl
 |cons x l ih=>
  show (qG _ (Ei .aA (l.map (r7 H fun q9=>ak))))=_
  refine aq ih ?_;rfl
def aef{α:Type}{g:bJ→an→ao am→KL→Prop}{xs:ao af}{tp:av}{ρ:bJ}{σ:an}(e:α→am)(f:α→ao am){N m:af}:∀{l:ao α}{acc:ao am}{K:KL},
  (∀(v:α)(acc:ao am)(K:KL),v∈l→acc.length≤N→K (acc++f v) σ→lE ρ xs tp (e v) fun dw=>g dw σ acc K)→(∀v∈l,(f v).length≤m)→acc.length+l.length*m≤N→K (acc++l.flatMap f) σ→rB g ρ xs tp (l.map e) σ acc K:=by
 intro l
 induction l with
 |nil=>
  intro acc K _ _ _ h
  rw [aan,ny] at h;exact h
 |cons v vs ih=>
  intro acc K step hm hN h
  exact step v acc _ fF (a5 (ff _ _) hN) (ih (fun u acc K hu=>step u acc K (jf _ hu)) (fun u hu=>hm u (jf _ hu))
   (by
    (refine aq dg ?_;rw [qH])
    refine a5 (kN ?_ _) hN
    (refine aq o3 ?_;rw [Nat.succ_mul,uE])
    exact kN (hm v fF) _) (by (rewrite [qi];refine iu RN ?_);exact h))
section
variable{C:bw}{T:ao fO}{h:Hd}{c c2:Cd}{ba lI:ao af}{V1 V2:ao am}(F:oF C T h c c2 ba lI V1 V2){σ:an}
include F
def ag5{K:KS}{x0 x1 x8 x9:aM aC}(hK:∀gh fX,K .aS (vO T h c ba x0 x1 (ac (.f (aU (h.wk (T.map fO.g)) c2))) au au x8 x9 gh fX) σ):
  vS ⟨a4,C⟩ (.fY [10,11] ak (.Eh (.d6 ak .ci (.al ak (.O (.az 6) .ab)) (.az 2)) (.d6 ak .ci (.al ak (.O (.az 3) .ab)) (.aB (.az 3) "children"))) E1) (vO T h c ba x0 x1 (ac (.f (aU (h.wk (T.map fO.g)) c2))) au au x8 x9 au au) σ K:=by
 have nT:∀{f:fO→am}{x:am},(x::T.map f).length≤100000:=jG (by rw [b9];exact a5 F.nT (by decide))
 apply ai;exact ol (xs:=_::T.map fO.f) nT
 apply ai;exact ol (xs:=_::T.map fO.g) nT
 apply ai;exact bD nT
 refine AW (fun ρ bS=>∃gh fX,ρ=vO T h c ba x0 x1 (ac (.f (aU (h.wk (T.map fO.g)) c2))) au au x8 x9 gh fX∧bS=σ) (fun v ρ bS N hv hI hN=>?_) ⟨_,_,ag,ag⟩ fun ρ bS hI=>?_
 ·refine aw fun kz=>?_
  obtain ⟨gh,fX,rfl,rfl⟩:=hI
  have key:∃a b,v=.bE [a,b] ∧PC C 59 [.f b] (.aG ak)∧PC C 62 [.f a,.f b] (.aG ak):=by
   rcases eH.mp hv with rfl|hv
   ·exact ⟨_,_,ag,F.on,F.kt⟩
   ·have hv:v∈jB (T.map fO.f) (T.map fO.g):=hv
    rw [VK] at hv
    obtain ⟨t,ht,rfl⟩:=iO.mp hv
    exact ⟨_,_,ag,F.ag1 t ht,F.ag2 t ht⟩
  obtain ⟨a,b,rfl,p1,p2⟩:=key
  refine kz ?_;try clear kz
  refine pc ag p1 ?_
  refine pc ag p2 ?_
  exact hN _ _ ⟨_,_,ag,ag⟩
 ·refine aw fun kz=>?_
  obtain ⟨gh,fX,rfl,rfl⟩:=hI
  refine kz ?_;try clear kz
  exact hK _ _
def ag6{K:KS}{x0 x1 x8 x9 gh fX:aM aC}(hK:K .aS (vO T h c ba x0 x1 (ac (.f (aU (h.wk (T.map fO.g)) c2))) (ac (.f (.al V2))) au x8 x9 gh fX) σ):
  vS ⟨a4,C⟩ (.bg (.iP (.O (.aL E2 (.O .ne (.al ak .ab) .ab)) (.O (.aL (.aD ak (.aJ 67) (.O (.aD ak (.aJ 38) (.O (.az 3) .ab)) .ab)) (.O .ne (.az 4) .ab)) .ab))) (.O (.a9 (.aG aF)) .ab) .ab) (vO T h c ba x0 x1 (ac (.f (aU (h.wk (T.map fO.g)) c2))) (ac (.f (.al V2))) au x8 x9 gh fX) σ K:=by
 iterate 8
  refine pc ag (F.aiU _ (by decide+kernel)) ?_
  refine pc ag F.SZ ?_
  apply ai;exact GQ F.s2 ⟨_,ag⟩
 apply ai;exact A8
 refine pc ag F.ag0 ?_
 refine pc ag F.SZ ?_
 apply ai;exact GQ F.s2 ⟨_,ag⟩
 exact hK
def fZ(p:sG):ao am:=(p.2.aK.filter fun k=>dc ((0:aN)<(k.cQ:Int))).map nD
def qR(T:ao fO)(h:Hd)(c:Cd):ao sG:=(h.wk (T.map fO.f),c)::T.map fun t=>(t.1,t.2.1)
def aeg{K:KS}{x0 x1 x3 x4 x8 x9 gh fX:aM aC}(hK:K .aS (vO T h c ba x0 x1 x3 x4 (ac (.f (.al ((qR T h c).flatMap fZ)))) x8 x9 gh fX) σ):
  vS ⟨a4,C⟩ (.aW 5 E3) (vO T h c ba x0 x1 x3 x4 au x8 x9 gh fX) σ K:=by
 have nT:∀{f:fO→am}{x:am},(x::T.map f).length≤100000:=jG (by rw [b9];exact a5 F.nT (by decide))
 have z:aU (h.wk (T.map fO.f)) c::T.map fO.f=(qR T h c).map d0:=by unfold qR;(refine aq Hj ?_;refine aq oM ?_);rfl
 have bd:∀p∈qR T h c,p.2.aK.length≤8:=fun p hp=>by
  rcases eH.mp hp with rfl|hp
  ·exact F.nk
  ·obtain ⟨t,ht,rfl⟩:=iO.mp hp
   exact F.nkt t ht
 apply ai;exact ol (xs:=_::T.map fO.f) nT
 apply ai;exact KC nT
 refine aq z ?_
 have ln:(qR T h c).length≤6:=jG (by rw [b9];exact F.nT)
 have lk:∀p∈qR T h c,(fZ p).length≤8:=fun p hp=>by
  unfold fZ
  rw [b9]
  exact a5 (wv _ _) (bd p hp)
 refine aef (N:=48) d0 fZ (fun p acc K hp ha hK=>?_) lk (a5 (kN (Nat.mul_le_mul_right 8 ln) _) (by decide)) ?_
 ·apply ai;exact dJ (a5 (bd p hp) (by decide))
  apply ai;exact KC (a5 ha (by decide))
  refine nK nD (fun k=>dc ((0:aN)<(k.cQ:aN))) nD (fun k acc K hk k1 k2=>?_) ?_
  ·exact bj k1 k2
  ·exact hK
 apply ai;exact ol (xs:=(qR T h c).flatMap fZ) (a5 (VL lk) (a5 (uC 8 ln) (by decide)))
 exact hK
def VM(e:(qR T h c).flatMap fZ=[]):∃n H,PC C 63 [.f (aU (h.wk (T.map fO.g)) c2)] (.al (jO n H fun q9=>ak)):=by
 have z:∀p∈qR T h c,∀k∈p.2.aK,k.cQ=0:=fun p hp k hk=>by
  refine Nat.eq_zero_of_not_pos fun z=>?_
  have m:nD k∈(qR T h c).flatMap fZ:=List.mem_flatMap.mpr ⟨p,hp,iO.mpr ⟨k,o5.mpr ⟨hk,jx (nz.mpr z)⟩,ag⟩⟩
  rw [e] at m
  cases m
 exact F.gx (z _ fF) fun t ht=>z (t.1,t.2.1) (jf _ (iO.mpr ⟨t,ht,ag⟩))
def aeh{K:KS}{x0 x1 x4 x8 x9 gh fX:aM aC}(hK:K .aS (vO T h c ba x0 x1 (ac (.f (aU (h.wk (T.map fO.g)) c2))) x4 (ac (.f (.al ((qR T h c).flatMap fZ)))) x8 x9 gh fX) σ):
  vS ⟨a4,C⟩ (.bg (.dX (.O (.aL (.az 5) (.O .bN (.al ak .ab) .ab)) (.O (.aL .aA (.O .fw (.aD ak (.aJ 76) (.O (.az 3) .ab)) .ab)) .ab))) (.O (.a9 (.aG aF)) .ab) .ab) (vO T h c ba x0 x1 (ac (.f (aU (h.wk (T.map fO.g)) c2))) x4 (ac (.f (.al ((qR T h c).flatMap fZ)))) x8 x9 gh fX) σ K:=by
 have kn:=VM F
 generalize (qR T h c).flatMap fZ=l at kn hK⊢
 induction l with
 |nil=>
  apply ai;exact xu
  refine aw fun kz=>?_
  obtain ⟨n,H,p⟩:=kn ag
  refine kz ?_;try clear kz
  refine pc ag p ?_
  apply ai;exact Y3 n H
  exact hK
 |cons x l=>
  refine Fx (X:=⟨a4,C⟩) (A:=aF) (B:=aF) (fun K k=>?_) (fun z=>cG z) _ ?_
  ·apply ai;exact xv
   exact k
  exact hK
def ag7{x0 x1:aM aC}{τ:an}{Q:KE}(hQ:∀σ,Q (.f (.aG ak)) σ):
  fI ⟨a4,C⟩ (fu 3 (FM Kr)) (vO T h c ba x0 x1 au au au au au au au) σ (oA aF τ.length Q):=by
 refine pc ag F.ab8 ?_
 refine pc ag F.aiS ?_
 refine ag3 F ?_
 refine pc ag F.Qi ?_
 refine ag4 F ?_
 refine ag5 F fun gh fX=>?_
 refine pc ag F.SZ ?_
 refine ag6 F ?_
 refine aeg F ?_
 refine aeh F ?_
 refine pc ag F.ab8 ?_
 apply ai;exact Y2 F.s1 ⟨_,ag⟩
 exact hQ _
end
def AH(t:fO):Prop:=(ph (t.1,t.2.1))∧(i9 (t.1,t.2.1)=(t.1,t.2.2))∧(fK t.2.1.nc t.2.2.nc)∧(pi t.1 t.2.2 (∀q∈t.2.1.aK,q.cQ=0))
section
variable{t:fO}(s0:AH t)
include s0
def AH.s:ph (t.1,t.2.1):=s0.1
def AH.e:i9 (t.1,t.2.1)=(t.1,t.2.2):=s0.2.1
def AH.b:fK t.2.1.nc t.2.2.nc:=s0.2.2.1
def AH.u:pi t.1 t.2.2 (∀q∈t.2.1.aK,q.cQ=0):=s0.2.2.2
end
noncomputable def kf(t:fO):sG:=(t.1,t.2.1)
noncomputable def kg(t:fO):sG:=(t.1,t.2.2)
def S3(T:ao fO):(T.map kf).map d0=T.map fO.f:=by refine aq oM ?_;rfl
def ab9(T:ao fO):(T.map kg).map d0=T.map fO.g:=by refine aq oM ?_;rfl
def wQ{α:Type}{P:α→Prop}{f:fO→α}{T:ao fO}(h:∀t∈T,P (f t)):∀k∈T.map f,P k:=fun k hk=>by
 obtain ⟨t,ht,rfl⟩:=iO.mp hk
 exact h t ht
def aei:∀s∈Iq,∃p∈lW,p.1=s:=by decide+kernel
def VN{c:Cd}{H:af→af}(h:∀q,q<c.aa.length→bb c.nc q):jO c.aa.length H (lV c)=jO c.aa.length H fun q9=>ak:=
 DT fun p hp=>by unfold r7;(refine aq ((n9 c p).mpr (h p (qk.mp hp))) ?_;rfl)
def ag8{d:af}{T:ao fO}{c:Cd}{ba:ao af}{ch:av}(hT:∀t∈T,AH t)(nT:T.length≤5)(hc:ch=ak→T≠ [])(S:mA (jX (.ah "method") (T.map fO.f)) c ch ba)(n:c.aa.length≤10):
  ∃c2 lI V1 V2,oF (vC a4 (d+8)) T (jX (.ah "method") []) c c2 ba lI V1 V2:=by
 have wk:∀l,(jX (.ah "method") []).wk l=jX (.ah "method") l:=fun q9=>ag
 have lf:(T.map kf).length≤5:=by rw [b9];exact nT
 have lg:(T.map kg).length≤5:=by rw [b9];exact nT
 have l5:5≤500:=by decide
 refine aw fun kz=>?_
 obtain ⟨lI,hw,_,ew⟩:=TM (jX (.ah "method") (T.map fO.f)) c S.gZ.bm S.nH.bd
 refine kz ?_;try clear kz
 have wr:lV c=fun p=>lI.contains p:=rj fun p=>by rw [Al,n9,vi,hw]
 have t1:=TQ (d:=d+6) (jX (.ah "method") []) (AG ag _) S.nH.bd S.nH.aa (vN S.nH.jW S.nH.bd) (c6:=T.map kf) (a5 lf l5) (wQ fun t ht=>(hT t ht).s.acS)
 have s1:nE 12 (qP (jX (.ah "method") []) c ((T.map kf).map fun k=>qP k.1 k.2 [])):=vK (n:=7) (AG ag _) S.H3 S.nH.aa fun x hx=>by
  refine aw fun kz=>?_
  obtain ⟨k,hk,rfl⟩:=iO.mp hx
  refine kz ?_;try clear kz
  exact wQ (P:=fun k=>nE 10 (qP k.1 k.2 [])) (f:=kf) (fun t ht=>(hT t ht).s.jR) k hk
 have sd:=TV (d:=d) S.nH ag (c6:=T.map kf) (S3 T).symm lf (fun z w=>hc z (RE.mp w)) (wQ fun t ht=>(hT t ht).s.acT)
 rw [← S.bh,wr] at sd
 have td:=TL (d:=d+1) (jX (.ah "method") []) S.gZ S.nH.bd (c6:=T.map kf) (a5 lf l5) (wQ fun t ht=>(hT t ht).s.Eu)
 have eg:((T.map kf).map fun k=>d0 (i9 k))=T.map fO.g:=by
  refine aq oM ?_
  refine DT fun t ht=>?_
  show d0 (i9 (t.1,t.2.1))=_
  refine aq ((hT t ht).e) ?_;rfl
 rw [eg] at td
 have R:=S.Qi n
 have b2:=GJ 24 S.gZ S.nH.bd
 have so:=S.T7 24
 have tc:=fun z=>Jr (h':=jX (.ah "method") (T.map fO.g)) S n z (.inr ag) ⟨_,_,ag⟩
 generalize dz 24 c=c2 at td R b2 so tc
 obtain ⟨R,B⟩:=R
 have t2:=TQ (d:=d+6) (jX (.ah "method") []) (AG ag _) b2 (r9 R) (vN R.gZ.ia b2) (c6:=T.map kg) (a5 lg l5) (wQ fun t ht=>(hT t ht).u.acS)
 have s2:nE 12 (qP (jX (.ah "method") []) c2 ((T.map kg).map fun k=>qP k.1 k.2 [])):=vK (n:=7) (AG ag _) so (r9 R) fun x hx=>by
  refine aw fun kz=>?_
  obtain ⟨k,hk,rfl⟩:=iO.mp hx
  refine kz ?_;try clear kz
  exact wQ (P:=fun k=>nE 10 (qP k.1 k.2 [])) (f:=kg) (fun t ht=>(hT t ht).u.jR) k hk
 have td2:=TL (d:=d+1) (jX (.ah "method") []) R.gZ b2 (c6:=T.map kg) (a5 lg l5) (wQ fun t ht=>(hT t ht).u.Eu)
 have eg2:((T.map kg).map fun k=>d0 (i9 k))=T.map fO.g:=by
  refine aq oM ?_
  refine DT fun t ht=>?_
  show d0 (i9 (t.1,t.2.2))=_
  have:i9 (t.1,t.2.2)=(t.1,t.2.2):=by unfold i9;rw [(hT t ht).u.on.AV]
  refine aq this ?_;rfl
 rw [eg2,R.AV] at td2
 have ps:=fun p hp=>Ve (d:=d+2) (jX (.ah "method") []) R b2 (c6:=T.map kg) (a5 lg l5) (wQ fun t ht=>(hT t ht).u.aiR) p hp
 rw [S3] at t1
 rw [ab9] at t2 td2 ps
 rw [S3] at td
 exact ⟨c2,lI,_,_,⟨
  t1,
  t2,
  s1,
  s2,
  ew (d+7),
  sd,
  td,
  td2,
  Fy (d:=d+5) _ R b2,
  (Af (d:=d+5) _ _ (a5 S.nH.bd.aa (by decide)) (a5 S.nH.bd.aK (by decide)) (a5 b2.aa (by decide)) (a5 b2.aK (by decide)) (a5 S.nH.bd.aZ (by decide)) S.gZ.bm R.gZ.bm B),
  (fun t ht=>Fy (d:=d+5) _ (hT t ht).u.on (hT t ht).u.bd),
  (fun t ht=>let b1:=(hT t ht).s.Eu.bd;let b2:=(hT t ht).u.bd;Af (d:=d+5) _ _ (a5 b1.aa (by decide)) (a5 b1.aK (by decide)) (a5 b2.aa (by decide)) (a5 b2.aK (by decide)) (a5 b1.aZ (by decide)) (hT t ht).s.Eu.gZ.bm (hT t ht).u.on.gZ.bm (hT t ht).b),
  (fun s hs=>by obtain ⟨p,hp,e⟩:=aei s hs;exact e▸ps p hp),
  (fun z zk=>by
   obtain ⟨H,k⟩:=tc z
   exact ⟨_,H,VN R.PB.2▸TV (d:=d) k ag (c6:=T.map kg) (ab9 T).symm lg (fun z w=>hc z (RE.mp w)) (wQ fun t ht=>(hT t ht).u.acT (zk t ht))⟩),
  (S.bh▸a5 n (by decide)),
  nT,
  S.nH.bd.aK,
  (fun t ht=>(hT t ht).s.Eu.bd.aK)⟩⟩
def OL{C:bw}(e:C=vC a4 39){fl:av}{m:af}{b:cD}{T:ao fO}{ch:av}{x0:aM aC}{τ:an}{Q:KE}(hQ:∀σ,Q (.f (.aG ak)) σ)(hj:m+93≤5000)(hb:GB fl m b)(hT:∀t∈T,AH t)(nT:T.length≤5)(hc:ch=ak↔T.map fO.f≠ []):
  fI ⟨a4,C⟩ (fu 2 (FM Kr)) [x0,ac (.a6 0),ac (.f (.al (T.map fO.f))),au,au,au,au,au,au,au,au,au,au,au,au,au,au,au] [ac b] (oA aF τ.length Q):=by
 refine ec e (OK (d:=31) (most:=10) (kind:=.ah "method") (within:=T.map fO.f) (ch:=ch) (by decide) (by decide) (.inr ag) hc) hj hb fun b1 v g1 p=>?_
 refine aw fun kz=>?_
 obtain ⟨c,ba,S,n,rfl⟩:=p
 obtain ⟨c2,lI,V1,V2,F⟩:=ag8 (d:=31) hT nT (fun z w=>hc.mp z (by refine aq w ?_;rfl)) S n
 refine kz ?_;try clear kz
 subst e
 exact ag7 F hQ
def Y4(is:ao aN)(h:is.length≤63):vC a4 40 SC [.f (.al (is.map .ae))] [] fun v q9=>v=.f (.aG ak):=MD (fun C e=>by
 refine vc e (agZ h _ fun b fl gb=>?_)
 apply ai;exact FP gb
 refine bj (fun gf=>?_) fun gf=>?_
 ·exact OL (T:=[]) (ch:=aF) e (fun q9=>ag) (by decide:0+93≤5000) gb (fun q9 z=>bW z hU) (by decide) ⟨(fun z=>cG z),fun z=>bW ag z⟩
 ·refine ec e (OK (d:=31) (most:=6) (kind:=.ah "block") (within:=[]) (ch:=aF) (by decide) (by decide) (.inl ag) ⟨(fun z=>cG z),fun z=>bW ag z⟩) (by decide:0+93≤5000) gb fun b1 v g1 p=>?_
  refine aw fun kz=>?_
  obtain ⟨c,ba,S,n,rfl⟩:=p
  have K:ph (jX (.ah "block") [],c):=⟨ag,⟨ba,S⟩,a5 n (by decide)⟩
  obtain ⟨c',e',B,U⟩:=K.aiQ
  refine kz ?_;try clear kz
  exact OL (T:=[(jX (.ah "block") [],c,c')]) (ch:=ak) e (fun q9=>ag) (by decide:93+93≤5000) g1 (fun t ht=>by
   refine aq (jg.mp ht) ?_
   exact ⟨K,e',B,U⟩) (dT ag) ⟨(fun q9 z=>nomatch z),fun q9=>ag⟩) ag ag ag ag
end
section
open PySem PySem.W PyProof.Rows PySem.Calls
def aiV{P:Prop}(h:∀G:Prop,(P→G)→G):P:=h P id
abbrev cr:=be→aM dF
def nI(F G:cr):Prop:=∀a o,F a=ac o→G a=ac o
def nI.bc(F:cr):nI F F:=fun q9 q9 h=>h
def nI.aX{F G H:cr}(x:nI F G)(y:nI G H):nI F H:=fun a o h=>y a o (x a o h)
noncomputable def cr.dB(F:cr)(a:be)(o:dF):cr:=fun b=>if b=a then ac o else F b
def cr.d9(F:cr)(a:be)(o:dF):F.dB a o a=ac o:=bD ag
def cr.fc(F:cr){a b:be}(o:dF)(h:b≠a):F.dB a o b=F b:=cL h
def nI.dB{F:cr}{a:be}(o:dF)(h:F a=au):nI F (F.dB a o):=fun b p e=>by
 rw [cr.fc]
 ·exact e
 ·rintro rfl;rw [h] at e;exact bn e
structure Wd where
 cY:wy
 w:yv
 K:ib
 ea:dW
 ag9:Ho
 T:vk
 lJ:af→be
 eK:af→be
 m7:af→be
 Da:af→aH
def kL(o:dF)(m:aI→aM aH):Prop:=∃es ep,o.data=.dict es ep∧StrKeys es∧∀name,yq es name=m name
def kL.eb{h:dW}{a:be}{o:dF}{m:aI→aM aH}(x:kL o m)(e:h.get? a=ac o):h.Ns a m:=by obtain ⟨es,ep,r⟩:=x;exact ⟨o,es,ep,e,r⟩
def kL.eu{h:dW}{a:be}{m:aI→aM aH}(x:h.Ns a m):∃o,h.get? a=ac o∧kL o m:=by obtain ⟨o,es,ep,e,r⟩:=x;exact ⟨o,e,es,ep,r⟩
noncomputable def cw(t:pC)(vs:ao aH)(n:af):dF:={cls:=.type t,data:=.seq vs.toArray n}
def uA(k:nP)(m:aI→aM aH)(vals:ao aH):Prop:=(∀(j:af)(nm:aI)(v:aH),k.cu[j]? =ac nm→vals[j]? =ac v→m nm=ac v)∧(∀nm,nm∉k.cu→m nm=au)
section
variable{k:nP}{m:aI→aM aH}{vals:ao aH}(s0:uA k m vals)
include s0
def uA.eb:∀(j:af)(nm:aI)(v:aH),k.cu[j]? =ac nm→vals[j]? =ac v→m nm=ac v:=s0.1
def uA.aiW:∀nm,nm∉k.cu→m nm=au:=s0.2
end
def AI(W:Wd)(F:cr)(a:be)(c:af)(k:nP)(vals:ao aH):Prop:=W.T.e6[c]? =ac k∧∃d od m,F a=ac (mw (W.eK c) d)∧F d=ac od∧kL od m∧uA k m vals
mutual
def iE(W:Wd)(F:cr):am→aH→Prop
 |.aA,v=>v=.none
 |.aG b,v=>v=.bool b
 |.ae i,v=>∃t,v=.int i t
 |.ah x,v=>∃t,v=.str x t
 |.bE xs,v=>∃a vs n,v=.ref a∧F a=ac (cw "tuple" vs n)∧cI W F xs vs
 |.al xs,v=>∃a vs n,v=.ref a∧F a=ac (cw "list" vs n)∧cI W F xs vs
 |.ic c fs,v=>∃a k vs,v=.ref a∧AI W F a c k vs∧fs.length=k.cu.length∧cI W F fs vs
 |.fn k,v=>v=.ref (W.lJ k)
 |.mQ c,v=>v=.ref (W.eK c)
 |.bi k,v=>v=W.Da k
 |.rx d,v=>v=.ref (W.m7 d)
def cI(W:Wd)(F:cr):ao am→ao aH→Prop
 |[],vs=>vs=[]
 |x::xs,vs=>∃v us,vs=v::us∧iE W F x v∧cI W F xs us
end
section
variable{W:Wd}{F G:cr}
def cI.BO{x:am}{xs:ao am}{vs:ao aH}{P:ao aH→Prop}(h:cI W F (x::xs) vs)(k:∀v us,iE W F x v→cI W F xs us→P (v::us)):P vs:=by
 obtain ⟨v,us,rfl,a,b⟩:=h
 exact k v us a b
def AI.bu(x:nI F G){a:be}{c:af}{k:nP}{vs:ao aH}(h:AI W F a c k vs):AI W G a c k vs:=by obtain ⟨h0,d,od,m,h1,h2,r⟩:=h;exact ⟨h0,d,od,m,x _ _ h1,x _ _ h2,r⟩
mutual
def iE.bu(l:nI F G):∀{x:am}{v:aH},iE W F x v→iE W G x v
 |.aA,_,h=>h
 |.aG _,_,h=>h
 |.ae _,_,h=>h
 |.ah _,_,h=>h
 |.bE _,_,h=>by obtain ⟨a,vs,n,e,f,r⟩:=h;exact ⟨a,vs,n,e,l _ _ f,cI.bu l r⟩
 |.al _,_,h=>by obtain ⟨a,vs,n,e,f,r⟩:=h;exact ⟨a,vs,n,e,l _ _ f,cI.bu l r⟩
 |.ic _ _,_,h=>by obtain ⟨a,k,vs,e,f,q,r⟩:=h;exact ⟨a,k,vs,e,f.bu l,q,cI.bu l r⟩
 |.fn _,_,h=>h
 |.mQ _,_,h=>h
 |.bi _,_,h=>h
 |.rx _,_,h=>h
def cI.bu(l:nI F G):∀{xs:ao am}{vs:ao aH},cI W F xs vs→cI W G xs vs
 |[],_,h=>h
 |_::_,_,h=>by obtain ⟨v,us,e,a,b⟩:=h;exact ⟨v,us,e,iE.bu l a,cI.bu l b⟩
end
def cI.bh{xs:ao am}:∀{vs:ao aH},cI W F xs vs→vs.length=xs.length:=by
 induction xs with
 |nil=>exact fun h=>a7 uI (show _=[] from h)
 |cons x xs ih=>
  intro vs h
  obtain ⟨v,us,e,_,b⟩:=h
  exact (a7 uI e).trans (a7 tr (ih b))
def cI.jV{xs:ao am}:∀{vs:ao aH}{i:af}{x:am},cI W F xs vs→xs[i]? =ac x→∃v,vs[i]? =ac v∧iE W F x v:=by
 induction xs with
 |nil=>exact fun q9 e=>bn e
 |cons x xs ih=>
  intro vs i y h e
  refine h.BO (P:=fun vs=>∃v,vs[i]? =ac v∧iE W F y v) fun v us a b=>?_
  induction i with
  |zero=>exact ⟨v,ag,cp e▸a⟩
  |succ i=>exact ih (vs:=us) (i:=i) b e
def cI.pN{xs:ao am}{vs:ao aH}{i:af}{x:am}{v:aH}(h:cI W F xs vs)(a:xs[i]? =ac x)(b:vs[i]? =ac v):iE W F x v:=by
 obtain ⟨u,e,r⟩:=h.jV a
 rw [b] at e
 exact cp e▸r
def cI.T8{xs ys:ao am}{us:ao aH}:∀{vs:ao aH},cI W F xs vs→cI W F ys us→cI W F (xs++ys) (vs++us):=by
 induction xs with
 |nil=>intro vs e h;refine aq (show vs=[] from e) ?_;exact h
 |cons x xs ih=>exact fun h h'=>h.BO (P:=fun vs=>cI W F (x::(xs++ys)) (vs++us)) fun v vs a b=>⟨v,_,ag,a,ih b h'⟩
def cI.qb{x:am}{v:aH}(h:iE W F x v):cI W F [x] [v] :=⟨v,[],ag,h,ag⟩
structure cZ where
 F:cr
 T:cr
 α:ao be
def c7(W:Wd)(g:cZ):aC→aH→Prop
 |.f x,v=>iE W g.F x v
 |.a6 i,v=>∃a,v=.ref a∧g.α[i]? =ac a
 |.fN i,v=>∃a,v=.ref a∧g.α[i]? =ac a
def dI(W:Wd)(g:cZ):ao aC→ao aH→Prop
 |[],vs=>vs=[]
 |x::xs,vs=>∃v us,vs=v::us∧c7 W g x v∧dI W g xs us
structure Le(fr:be→Prop)(g g':cZ):Prop where
 F:nI g.F g'.F
 α:g.α <+: g'.α
 T:∀a,¬fr a→g'.T a=g.T a
abbrev tO:cZ→cZ→Prop:=Le fun q9=>dj
def Le.bc{fr:be→Prop}(g:cZ):Le fr g g:=⟨nI.bc _,lK _,fun q9 q9=>ag⟩
def Le.aX{fr:be→Prop}{g g' g'':cZ}(x:Le fr g g')(y:Le fr g' g''):Le fr g g'':=⟨x.F.aX y.F,x.α.trans y.α,fun a h=>(y.T a h).trans (x.T a h)⟩
def Le.up{fr fr':be→Prop}{g g':cZ}(x:Le fr g g')(h:∀a,fr a→fr' a):Le fr' g g':=⟨x.F,x.α,fun a n=>x.T a fun z=>n (h a z)⟩
def Le.zO{fr:be→Prop}{g g':cZ}(x:tO g g'):Le fr g g':=x.up fun q9 z=>z.elim
def OM{α β:ao be}(p:α <+: β){i:af}{a:be}(e:α[i]? =ac a):β[i]? =ac a:=by
 obtain ⟨t,rfl⟩:=p
 rw [sJ (fM.mp e).1];exact e
def c7.bu{fr:be→Prop}{g g':cZ}(l:Le fr g g'):∀{x:aC}{v:aH},c7 W g x v→c7 W g' x v
 |.f _,_,h=>iE.bu l.F h
 |.a6 _,_,⟨a,e,p⟩=>⟨a,e,OM l.α p⟩
 |.fN _,_,⟨a,e,p⟩=>⟨a,e,OM l.α p⟩
def dI.bu{fr:be→Prop}{g g':cZ}(l:Le fr g g'):∀{xs:ao aC}{vs:ao aH},dI W g xs vs→dI W g' xs vs
 |[],_,h=>h
 |_::_,_,⟨v,us,e,a,b⟩=>⟨v,us,e,a.bu l,dI.bu l b⟩
def dI.bh{g:cZ}{xs:ao aC}:∀{vs:ao aH},dI W g xs vs→vs.length=xs.length:=by
 induction xs with
 |nil=>exact fun h=>a7 uI (show _=[] from h)
 |cons x xs ih=>
  intro vs h
  obtain ⟨v,us,e,_,b⟩:=h
  exact (a7 uI e).trans (a7 tr (ih b))
def cI.toM{g:cZ}:∀{xs:ao am}{vs:ao aH},cI W g.F xs vs→dI W g (xs.map .f) vs:=by
 intro xs
 induction xs with
 |nil=>
  intro _ h
  exact h
 |cons _ _ ih=>
  intro _ z2
  obtain ⟨v,us,e,a,b⟩:=z2
  exact ⟨v,us,e,a,(ih b)⟩
def xB{m:aC}{K:am→Prop}(k:asK m K):∃x,m=.f x∧K x:=by
 induction m with
 |f x=>exact ⟨x,ag,k⟩
 |_=>exact k.elim
def dI.zo{g:cZ}:∀{xs:ao aC}{vs:ao aH}{K:ao am→Prop},dI W g xs vs→zo xs K→∃ys,cI W g.F ys vs∧K ys:=by
 intro xs
 induction xs with
 |nil=>
  intro _ _ h k
  exact ⟨[],h,k⟩
 |cons _ _ ih=>
  intro _ _ h k
  refine aw fun kz=>?_
  obtain ⟨x,rfl,k⟩:=xB k
  obtain ⟨v,us,e,a,b⟩:=h
  obtain ⟨ys,r,k⟩:=ih b k
  refine kz ?_;try clear kz
  exact ⟨x::ys,⟨v,us,e,a,r⟩,k⟩
end
noncomputable def MQ:cF aN aI→aH→av
 |.inl i,v=>Value.isInt i v
 |.inr x,v=>Ef x v
noncomputable def Qm:cF aN aI→mO→aH
 |.inl i,t=>.int i t
 |.inr x,t=>.str x t
def wc{k:cF aN aI}{v:aH}(h:MQ k v=ak):∃t,v=Qm k t:=by
 induction k with
 |inl _=>exact Value.isInt_shape h
 |inr _=>exact Value.isStrOf_shape h
def Y5{β γ:Type}{a b:β}[LC β]{f:β→γ}[LC γ](h:(f a=f b)=(a=b)):(a==b)=dc (f a=f b):=by (rewrite [Al,mi,LB];refine aq h ?_;rfl)
def aej(prog:wy)(w:yv){A:dD}{E:aH→bz→Prop}{s:bz}{t t':mO}:∀{a b:cF aN aI}{Q:av→bz→Prop},Q (dc (a=b)) s→rm (ke prog w) A (eqBool (Qm a t) (Qm b t')) Q E s
 |.inl a,.inl b,Q,h=>wpAny_eqBool_int (by refine aq (Y5 (f:=Sum.inl (β:=aI)) (Sum.inl.injEq a b)) ?_;exact h)
 |.inl a,.inr b,Q,h=>SeqAt.EqAt.int_str _ _ _ _ prog w E Q h
 |.inr a,.inl b,Q,h=>SeqAt.EqAt.str_int _ _ _ _ prog w E Q h
 |.inr a,.inr b,Q,h=>wpAny_eqBool_str (by rw [← wq.mpr (Eq.to_iff (Sum.inr.injEq a b))];exact h)
def kj(prog:wy)(w:yv):KeyKind prog w (cF aN aI) where
 is:=MQ
 hash:=fun k=>match k with
  |.inl i=>hashInt i
  |.inr x=>hashStr w x
 inj:=fun v a b ha hb=>by
  obtain ⟨t,rfl⟩:=wc ha
  obtain ⟨u,e⟩:=wc hb
  match a,b,e with
  |.inl _,.inl _,e=>(refine aq ((Value.int.inj e).1) ?_;rfl)
  |.inr _,.inr _,e=>(refine aq ((abi e).1) ?_;rfl)
 byValue:=fun k v h=>by
  obtain ⟨t,rfl⟩:=wc h
  induction k<;>rfl
 pyHash:=fun {A E s k v Q} hv h=>by
  obtain ⟨t,rfl⟩:=wc hv
  induction k
  ·exact wpAny_pyHash_int h
  ·exact wpAny_pyHash_str h
 eqBool:=fun {A E s a b u v Q} hu hv h=>by
  obtain ⟨t,rfl⟩:=wc hu
  obtain ⟨t',rfl⟩:=wc hv
  exact aej prog w h
 «strs»:=fun k x t v h=>by
  obtain ⟨u,e⟩:=wc h
  match k,e with
  |.inr y,e=>
   obtain rfl:=(abi e).1
   induction v<;>rfl
abbrev iF:=cF aN aI
def jl(W:Wd)(F:cr):ao (iF×am)→ao (iF×aH)→Prop
 |[],kvs=>kvs=[]
 |e::es,kvs=>∃v us,kvs=(e.1,v)::us∧iE W F e.2 v∧jl W F es us
def jl.bu{W:Wd}{F G:cr}(l:nI F G):∀{es:ao (iF×am)}{kvs:ao (iF×aH)},jl W F es kvs→jl W G es kvs
 |[],_,h=>h
 |_::_,_,h=>by obtain ⟨v,us,e,a,b⟩:=h;exact ⟨v,us,e,iE.bu l a,jl.bu l b⟩
def wR(W:Wd)(F:cr)(β:ao be)(h:dW)(a:be):cD→Prop
 |.al xs=>F a=au∧∃vs n,h.get? a=ac (cw "list" vs n)∧cI W F xs vs
 |.dK es=>F a=au∧(a==uK)=aF∧∃o kvs,h.get? a=ac o∧o.IsDictOf (kj W.cY W.w) kvs∧jl W F es kvs
 |.lM c fs=>∃k vs,AI W F a c k vs∧fs.length=k.cu.length∧dI W ⟨F,F,β⟩ fs vs
structure bZ(W:Wd)(g:cZ)(σ:an)(s:bz):Prop where
 bh:g.α.length=σ.length
 tP:g.α.Nodup
 yV:∀a∈g.α,∃o,s.heap.get? a=ac o
 m8:nI W.ea.get? g.F
 dZ:nI g.F s.heap.get?
 iQ:nI g.T s.heap.get?
 iL:∀a o,g.F a=ac o→g.T a=au
 kT:∀a∈g.α,g.T a=au
 qB:∀i a mo,g.α[i]? =ac a→σ[i]? =ac (ac mo)→wR W g.F (g.α.take i) s.heap a mo
 ub:s.gens=#[]
 FT:s.os=W.ag9
section
variable{W:Wd}{g g':cZ}{σ:an}{s:bz}
def wR.bu{F F':cr}{β β':ao be}{h h':dW}{a:be}(l:nI F F')(p:β <+: β')(hk:∀o,h.get? a=ac o→h'.get? a=ac o)(hn:F a=au→F' a=au):∀{mo:cD},wR W F β h a mo→wR W F' β' h' a mo
 |.al _,h=>by obtain ⟨a1,vs,n,e,r⟩:=h;exact ⟨hn a1,vs,n,hk _ e,r.bu l⟩
 |.dK _,h=>by obtain ⟨a1,a2,o,kvs,e,d,r⟩:=h;exact ⟨hn a1,a2,o,kvs,hk _ e,d,r.bu l⟩
 |.lM _ _,h=>by obtain ⟨k,vs,e,q,r⟩:=h;exact ⟨k,vs,e.bu l,q,r.bu (fr:=fun q9=>kD) (g':=⟨F',F',β'⟩) ⟨l,p,fun q9 z=>(z di).elim⟩⟩
def sD{β:Type}{o:aM β}(h:∀x,o=ac x→dj):o=au:=by
 induction o with
 |none=>rfl
 |some x=>exact (h x ag).elim
def bZ.DG(S:bZ W g σ s){a:be}(h:s.heap.objs.size≤a):g.F a=au:=sD fun o e=>bW (mq (S.dZ a o e)) (lw.mpr h)
def bZ.sZ(S:bZ W g σ s){a:be}(h:s.heap.objs.size≤a):g.T a=au:=sD fun o e=>bW (mq (S.iQ a o e)) (lw.mpr h)
def bZ.gm(S:bZ W g σ s){a:be}(h:s.heap.objs.size≤a):a∉g.α:=fun m=>by obtain ⟨_,e⟩:=S.yV a m;exact bW (mq e) (lw.mpr h)
def bZ.m9(S:bZ W g σ s){a:be}{o:dF}(h:W.ea.get? a=ac o):s.heap.get? a=ac o:=S.dZ a o (S.m8 a o h)
def bZ.Qn(S:bZ W g σ s)(X:be→Prop){T':cr}{h':dW}(tk:af)(hX:∀b,X b→∃o,g.T b=ac o)(hk:∀b o,¬X b→s.heap.get? b=ac o→h'.get? b=ac o)(ht:∀a o,T' a=ac o→h'.get? a=ac o∧g.F a=au∧a∉g.α):bZ W ⟨g.F,T',g.α⟩ σ {s with heap:=h',toks:=tk}:=by
 have nX:∀b,g.T b=au→¬X b:=fun b e z=>by
  obtain ⟨o,q⟩:=hX b z
  rw [e] at q;exact bn q
 refine ⟨S.bh,S.tP,fun a m=>let ⟨o,e⟩:=S.yV a m;⟨o,hk _ _ (nX a (S.kT a m)) e⟩,S.m8,fun a o e=>hk _ _ (nX a (S.iL a o e)) (S.dZ a o e),fun a o e=>(ht a o e).1,fun a o e=>sD fun p q=>?_,fun a m=>sD fun p q=>(ht a p q).2.2 m,fun i a mo h1 h2=>?_,S.ub,S.FT⟩
 ·have:=(ht a p q).2.1
  rw [e] at this;exact bn this.symm
 ·exact (S.qB i a mo h1 h2).bu (nI.bc _) (lK _) (fun o e=>hk _ _ (nX a (S.kT a (gM h1))) e) id
def bZ.jP(S:bZ W g σ s){h':dW}(tk:af)(hk:∀b o,s.heap.get? b=ac o→h'.get? b=ac o):bZ W g σ {s with heap:=h',toks:=tk}:=
 S.Qn (fun q9=>dj) tk (fun q9 z=>z.elim) (fun b o q9=>hk b o) fun a o e=>⟨hk _ _ (S.iQ a o e),sD fun p q=>(by have:=S.iL a p q;rw [e] at this;exact bn this.symm),fun m=>(by have:=S.kT a m;rw [e] at this;exact bn this.symm)⟩
def bZ.uc(S:bZ W g σ s)(tk:af):bZ W g σ {s with toks:=tk}:=S.jP tk fun q9 q9 e=>e
def bZ.dh(S:bZ W g σ s)(o:dF):bZ W g σ {s with heap:=s.heap.push o}:=S.jP s.toks fun q9 q9 e=>ql _ e
def bZ.um(S:bZ W g σ s){a:be}{o:dF}(e:g.T a=ac o):g.F a=au∧a∉g.α:=⟨sD fun p q=>(by have:=S.iL a p q;rw [e] at this;exact bn this.symm),fun m=>(by have:=S.kT a m;rw [e] at this;exact bn this.symm)⟩
def bZ.yW(S:bZ W g σ s){a:be}{o:dF}(e:s.heap.get? a=ac o)(hF:g.F a=au)(hT:g.T a=au)(hα:∀i:af,g.α[i]? =ac a→σ[i]? =ac au):bZ W ⟨g.F.dB a o,g.T,g.α⟩ σ s∧tO g ⟨g.F.dB a o,g.T,g.α⟩:=by
 have key:∀(b:be)(p:dF)(P:Prop),g.F.dB a o b=ac p→(b=a→o=p→P)→(g.F b=ac p→P)→P:=fun b p P q h1 h2=>by
  by_cases hb:b=a
  ·subst hb;rw [cr.d9] at q;exact h1 ag (cp q)
  ·rw [cr.fc _ _ hb] at q;exact h2 q
 have l:tO g ⟨g.F.dB a o,g.T,g.α⟩:=⟨nI.dB o hF,lK _,fun q9 q9=>ag⟩
 refine ⟨⟨S.bh,S.tP,S.yV,S.m8.aX l.F,fun b p q=>key b p _ q (fun x y=>x▸y▸e) (S.dZ b p),S.iQ,fun b p q=>key b p _ q (fun x q9=>x▸hT) (S.iL b p),S.kT,fun i b mo h1 h2=>?_,S.ub,S.FT⟩,l⟩
 refine (S.qB i b mo h1 h2).bu l.F (lK _) (fun q9 q=>q) fun q=>sD fun p z=>key b p _ z (fun x q9=>?_) fun z=>by rw [q] at z;exact bn z
 rw [x] at h1
 rw [hα i h1] at h2
 cases h2
def bZ.Lc(S:bZ W g σ s){a:be}{mo:cD}(ha:a∉g.α)(hT:g.T a=au)(hb:∃o,s.heap.get? a=ac o)(x:wR W g.F g.α s.heap a mo):bZ W ⟨g.F,g.T,g.α++[a]⟩ (σ++[ac mo]) s∧tO g ⟨g.F,g.T,g.α++[a]⟩:=by
 have mem:∀{P:be→Prop},(∀b∈g.α,P b)→P a→∀b∈g.α++[a],P b:=fun h1 h2 b hb=>(pD.mp hb).elim (h1 b) fun z=>jg.mp z▸h2
 have l:tO g ⟨g.F,g.T,g.α++[a]⟩:=⟨nI.bc _,As _ _,fun q9 q9=>ag⟩
 refine ⟨⟨by (refine aq dg ?_;refine aq dg ?_;refine aq S.bh ?_);rfl,DV.mpr ⟨S.tP,Ax.mpr ⟨hU,RT⟩,fun b h c hc e=>ha (jg.mp hc▸e▸h)⟩,mem S.yV hb,S.m8,S.dZ,S.iQ,S.iL,mem S.kT hT,fun i b m h1 h2=>?_,S.ub,S.FT⟩,l⟩
 by_cases hi:i<g.α.length
 ·rw [sJ hi] at h1
  rw [sJ (S.bh▸hi)] at h2
  show wR W g.F ((g.α++[a]).take i) s.heap b m
  refine aq (Z0 (jH hi)) ?_
  exact S.qB i b m h1 h2
 ·have hi:=vh hi
  rw [nO hi] at h1
  have:=(fM.mp h1).1
  obtain rfl:i=g.α.length:=wp (ZM (Rs.mp this)) hi
  rw [nZ] at h1
  rw [S.bh,nO (c9 _),nZ] at h2
  show wR W g.F ((g.α++[a]).take g.α.length) s.heap b m
  (refine iu (cp h1) ?_;refine iu (cp (cp h2)) ?_;refine aq DZ ?_)
  exact x
def bZ.aiX(S:bZ W g σ s)(j:af):bZ W g (σ.set j au) s:=⟨by refine aq qj ?_;exact S.bh,S.tP,S.yV,S.m8,S.dZ,S.iQ,S.iL,S.kT,fun i b m h1 h2=>S.qB i b m h1 (by
 by_cases Tf:j=i
 ·subst Tf
  rw [Z8] at h2
  cases q:σ[j]? <;>rw [q] at h2<;>cases h2
 ·rw [sK Tf] at h2;exact h2),S.ub,S.FT⟩
def bZ.CJ(S:bZ W g σ s)(n:af):bZ W ⟨g.F,g.T,g.α.take n⟩ (σ.take n) s:=by
 refine ⟨by (refine aq DY ?_;refine aq DY ?_;refine aq S.bh ?_;rfl),S.tP.sublist (List.take_sublist _ _),fun a h=>S.yV a (RD h),S.m8,S.dZ,S.iQ,S.iL,fun a h=>S.kT a (RD h),fun i a m h1 h2=>?_,S.ub,S.FT⟩
 have hi:i<n:=iN (fM.mp h1).1 (Hh _ _)
 rw [LF hi] at h1 h2
 have e:(g.α.take n).take i=g.α.take i:=by (refine aq List.take_take ?_;refine aq (DN (jH hi)) ?_;rfl)
 show wR W g.F ((g.α.take n).take i) s.heap a m
 refine aq e ?_
 exact S.qB i a m h1 h2
end
end
section
open PySem PySem.W PyProof.Rows PySem.Calls SeqAt
def Wp(W:Wd)(A:dD){β:Type}(t:gO β)(Q:β→bz→Prop)(s:bz):Prop:=rm (ke W.cY W.w) A t Q (fun q9 q9=>dj) s
structure BQ(A:dD)(d:af):Prop where
 gA:A.handled=au
 cQ:A.depth+4*d<D3
 GR:A.units+20*d+20<yw
def BQ.aha{A:dD}{d:af}(h:BQ A d):A.units+nJ<yw:=ah2 h.GR
section
variable{W:Wd}{g:cZ}{σ:an}{s:bz}{A:dD}{β:Type}{t:gO β}
def Wp.bu{Q Q':β→bz→Prop}(h:Wp W A t Q s)(k:∀a s',Q a s'→Q' a s'):Wp W A t Q' s:=Hm h k fun q9 q9 h=>h
def Wp.pT{Q Q':β→bz→Prop}{E:aH→bz→Prop}(h:Wp W A t Q s)(k:∀a s',Q a s'→Q' a s'):rm (ke W.cY W.w) A t Q' E s:=Hm h k fun q9 q9 h=>h.elim
def VP(W:Wd)(g:cZ)(K:KE)(u:aH)(s':bz):Prop:=∃m bS g',tO g g'∧c7 W g' m u∧bZ W g' bS s'∧K m bS
def TP(W:Wd)(g:cZ){γ:Type}(K:γ→an→Prop)(c:γ)(s':bz):Prop:=∃bS g',tO g g'∧bZ W g' bS s'∧K c bS
def VP.iX{g':cZ}{K:KE}{u:aH}(l:tO g g')(h:VP W g' K u s):VP W g K u s:=by obtain ⟨m,bS,g2,l',r⟩:=h;exact ⟨m,bS,g2,l.aX l',r⟩
def TP.iX{g':cZ}{γ:Type}{K:γ→an→Prop}{c:γ}(l:tO g g')(h:TP W g' K c s):TP W g K c s:=by obtain ⟨bS,g2,l',r⟩:=h;exact ⟨bS,g2,l.aX l',r⟩
def Wp.vp{t:gO aH}{K:KE}{Q:aH→bz→Prop}(h:Wp W A t (VP W g K) s)(k:∀u s' m bS g',tO g g'→c7 W g' m u→bZ W g' bS s'→K m bS→Q u s'):Wp W A t Q s:=h.bu fun u s' jF=>by obtain ⟨m,bS,g',l,r,S,q⟩:=jF;exact k u s' m bS g' l r S q
def Wp.zP{γ:Type}{t:gO γ}{K:γ→an→Prop}{Q:γ→bz→Prop}(h:Wp W A t (TP W g K) s)(k:∀c s' bS g',tO g g'→bZ W g' bS s'→K c bS→Q c s'):Wp W A t Q s:=h.bu fun u s' jF=>by obtain ⟨bS,g',l,S,q⟩:=jF;exact k u s' bS g' l S q
def Wp.iX{t:gO aH}{g':cZ}{K:KE}(h:Wp W A t (VP W g' K) s)(l:tO g g'):Wp W A t (VP W g K) s:=h.bu fun q9 q9 q=>q.iX l
def Wp.yX{γ:Type}{t:gO γ}{g':cZ}{K:γ→an→Prop}(h:Wp W A t (TP W g' K) s)(l:tO g g'):Wp W A t (TP W g K) s:=h.bu fun q9 q9 q=>q.iX l
def VP.m{K:KE}{m:aC}{u:aH}(S:bZ W g σ s)(r:c7 W g m u)(k:K m σ):VP W g K u s:=⟨m,σ,g,.bc _,r,S,k⟩
def VP.f{K:KE}{x:am}{u:aH}(S:bZ W g σ s)(r:iE W g.F x u)(k:K (.f x) σ):VP W g K u s:=⟨.f x,σ,g,.bc _,r,S,k⟩
def VP.ae{K:KE}{i:aN}{t:mO}(S:bZ W g σ s)(k:K (.f (.ae i)) σ):VP W g K (.int i t) s:=.f (x:=.ae i) S ⟨t,ag⟩ k
def VP.ah{K:KE}{x:aI}{t:mO}(S:bZ W g σ s)(k:K (.f (.ah x)) σ):VP W g K (.str x t) s:=.f (x:=.ah x) S ⟨t,ag⟩ k
def VP.aG{K:KE}{b:av}(S:bZ W g σ s)(k:K (.f (.aG b)) σ):VP W g K (.bool b) s:=.f (x:=.aG b) S ag k
def fk{α:Type}{o:aM α}{K:α→Prop}(h:oi o K):∃a,o=ac a∧K a:=by
 induction o with
 |none=>exact h.elim
 |some a=>exact ⟨a,ag,h⟩
def jD{o:aM (aC×an)}{K:KE}(h:gX o K):∃m σ,o=ac (m,σ)∧K m σ:=by
 induction o with
 |none=>exact h.elim
 |some p=>exact ⟨p.1,p.2,ag,h⟩
def uX{t:av}{a:Prop}(h:tI t a dj):t=ak∧a:=by
 induction t with
 |true=>exact ⟨ag,h⟩
 |false=>exact h.elim
def kZ{α:Type}{o:aM α}{f:α→av}(h:o.any f=ak):∃x,o=ac x∧f x=ak:=by
 induction o with
 |none=>exact cG h
 |some x=>exact ⟨x,ag,h⟩
def gS{a b:av}(h:(a&&b)=ak):a=ak∧b=ak:=jY.mp h
def bo{α γ:Type}{o:aM α}{f:α→aM γ}{y:γ}(h:o.bind f=ac y):∃x,o=ac x∧f x=ac y:=by
 induction o with
 |none=>exact bn h
 |some x=>exact ⟨x,ag,h⟩
def cK{α γ:Type}{o:aM α}{f:α→γ}{y:γ}(h:o.map f=ac y):∃x,o=ac x∧f x=y:=by
 induction o with
 |none=>exact bn h
 |some x=>exact ⟨x,ag,cp h⟩
def d4{c:Prop}[DQ c]{α:Type}{a:aM α}{y:α}(h:(if c then a else au)=ac y):c∧a=ac y:=by
 by_cases q:c
 ·rw [bD q] at h;exact ⟨q,h⟩
 ·rw [cL q] at h;exact bn h
def Js{α:ao be}(n:α.Nodup){i j:af}{a b:be}(hi:α[i]? =ac a)(hj:α[j]? =ac b)(h:i≠j):b≠a:=by
 rintro rfl
 exact h (List.getElem?_inj (fM.mp hi).1 n |>.mp (hi.trans hj.symm))
def bZ.afo(S:bZ W g σ s){i:af}{a:be}{mo:cD}{h':dW}(tk:af)(hi:g.α[i]? =ac a)(hF:g.F a=au)(hs:yx a s.heap h')(x:wR W g.F (g.α.take i) h' a mo)(ha:∃o,h'.get? a=ac o):bZ W g (σ.set i (ac mo)) {s with heap:=h',toks:=tk}:=by
 have ne:∀{b:be}{o:dF}{F:cr},F a=au→F b=ac o→b≠a:=fun z e q=>by rw [q,z] at e;exact bn e
 refine ⟨by refine aq qj ?_;exact S.bh,S.tP,fun b hb=>?_,S.m8,fun b o e=>(hs.2 b (ne hF e)).trans (S.dZ b o e),fun b o e=>(hs.2 b (ne (S.kT a (gM hi)) e)).trans (S.iQ b o e),S.iL,S.kT,fun j b m h1 h2=>?_,S.ub,S.FT⟩
 ·by_cases q:b=a
  ·exact q▸ha
  ·obtain ⟨o,e⟩:=S.yV b hb
   exact ⟨o,(hs.2 b q).trans e⟩
 ·by_cases q:i=j
  ·subst q
   rw [hi] at h1
   rw [LG (S.bh▸(fM.mp hi).1)] at h2
   (refine iu (cp h1) ?_;refine iu (cp (cp h2)) ?_)
   exact x
  ·rw [sK q] at h2
   exact (S.qB j b m h1 h2).bu (nI.bc _) (lK _) (fun o e=>(hs.2 b (Js S.tP hi h1 q)).trans e) id
def CA{i:af}{α:Type}{f:cD→aM α}{x:α}(h:(Bk σ i).bind f=ac x):∃o,σ[i]? =ac (ac o)∧f o=ac x:=by
 obtain ⟨o,h1,h2⟩:=bo h
 obtain ⟨o',h3,rfl⟩:=bo h1
 exact ⟨o,h3,h2⟩
def VO{i:af}{xs:ao am}(h:jn σ i=ac xs):σ[i]? =ac (ac (.al xs)):=by
 obtain ⟨o,h1,h2⟩:=CA h
 induction o with
 |al _=>obtain rfl:=cp h2;exact h1
 |_=>exact bn h2
def VQ{i:af}{es:ao (cF aN aI×am)}(h:pt σ i=ac es):σ[i]? =ac (ac (.dK es)):=by
 obtain ⟨o,h1,h2⟩:=CA h
 induction o with
 |dK _=>obtain rfl:=cp h2;exact h1
 |_=>exact bn h2
def VR{i:af}{p:af×ao aC}(h:Bl σ i=ac p):σ[i]? =ac (ac (.lM p.1 p.2)):=by
 obtain ⟨o,h1,h2⟩:=CA h
 induction o with
 |lM _ _=>obtain rfl:=cp h2;exact h1
 |_=>exact bn h2
def jm{m:aC}{x:am}(h:m.f?=ac x):m=.f x:=by
 induction m with
 |f _=>exact a7 aC.f (cp h)
 |_=>exact bn h
def oo{m:aC}{i:af}(h:m.wD=ac i):m=.a6 i:=by
 induction m with
 |a6 _=>exact a7 aC.a6 (cp h)
 |_=>exact bn h
def VS{m:aC}{i:af}(h:m.abu=ac i):m=.fN i:=by
 induction m with
 |fN _=>exact a7 aC.fN (cp h)
 |_=>exact bn h
def Y6{x:am}{i:aN}(h:x.mK=ac i):x=.ae i:=by
 cases x<;>first|exact a7 _ (cp h)|exact bn h
def Ba{x:am}{i:aI}(h:x.xM=ac i):x=.ah i:=by
 cases x<;>first|exact a7 _ (cp h)|exact bn h
def Qo{x:am}{i:ao am}(h:x.yE=ac i):x=.al i:=by
 cases x<;>first|exact a7 _ (cp h)|exact bn h
def CB{x:am}{p:af×ao am}(h:x.W3=ac p):x=.ic p.1 p.2:=by
 cases x<;>first|exact cp h▸ag|exact bn h
def vP{x:am}{i:af}(h:x.Bm=ac i):x=.rx i:=by
 cases x<;>first|exact a7 _ (cp h)|exact bn h
def CC{m:aC}(h:m.gT=ak):m=.f .aA:=by
 obtain ⟨x,h1,h2⟩:=kZ h
 obtain rfl:=jm h1
 cases x<;>first|rfl|exact cG h2
def k9{m:aC}{i:aN}(h:m.mK=ac i):m=.f (.ae i):=by
 obtain ⟨x,h1,h2⟩:=bo h
 (refine aq (jm h1) ?_;refine aq (Y6 h2) ?_;rfl)
def CD{m:aC}{i:aI}(h:m.xM=ac i):m=.f (.ah i):=by
 obtain ⟨x,h1,h2⟩:=bo h
 (refine aq (jm h1) ?_;refine aq (Ba h2) ?_;rfl)
noncomputable def Ir(p:av×ao am):am:=cE p.1 (.bE p.2) (.al p.2)
def xC{x:am}{p:av×ao am}(h:wF x=ac p):x=Ir p:=by
 cases x<;>first|exact cp h▸ag|exact bn h
def gC{α γ:Type}{o:aM α}{a:aM γ}{f:α→aM γ}{y:γ}(h:o.elim a f=ac y):(o=au∧a=ac y)∨∃x,o=ac x∧f x=ac y:=by
 induction o with
 |none=>exact .inl ⟨ag,h⟩
 |some x=>exact .inr ⟨x,ag,h⟩
def bZ.wf(S:bZ W g σ s){i:af}{a:be}{xs:ao am}(hi:g.α[i]? =ac a)(h:jn σ i=ac xs):g.F a=au∧∃vs n,s.heap.get? a=ac (cw "list" vs n)∧cI W g.F xs vs:=S.qB i a _ hi (VO h)
def bZ.FU(S:bZ W g σ s){i:af}{a:be}{es:ao (cF aN aI×am)}(hi:g.α[i]? =ac a)(h:pt σ i=ac es):g.F a=au∧(a==uK)=aF∧∃o kvs,s.heap.get? a=ac o∧o.IsDictOf (kj W.cY W.w) kvs∧jl W g.F es kvs:=S.qB i a _ hi (VQ h)
def pj{v:aH}{m:aC}{x:am}{p:av×ao am}(S:bZ W g σ s)(h:c7 W g m v)(e:yF σ m=ac x)(q:wF x=ac p):∃a vs n,v=.ref a∧s.heap.get? a=ac (cw (cE p.1 "tuple" "list") vs n)∧cI W g.F p.2 vs:=by
 refine aw fun kz=>?_
 obtain rfl:=xC q
 obtain ⟨t,xs⟩:=p
 refine kz ?_;try clear kz
 rcases gC e with ⟨_,e⟩|⟨i,e1,e⟩
 ·obtain rfl:=jm e
  induction t
  ·refine aw fun kz=>?_
   obtain ⟨a,vs,n,rfl,f,r⟩:=h
   refine kz ?_;try clear kz
   exact ⟨a,vs,n,ag,S.dZ _ _ f,r⟩
  ·refine aw fun kz=>?_
   obtain ⟨a,vs,n,rfl,f,r⟩:=h
   refine kz ?_;try clear kz
   exact ⟨a,vs,n,ag,S.dZ _ _ f,r⟩
 ·refine aw fun kz=>?_
  obtain rfl:=oo e1
  obtain ⟨ys,hy,e⟩:=cK e
  refine kz ?_;try clear kz
  induction t
  ·cases e
   refine aw fun kz=>?_
   obtain ⟨a,rfl,hi⟩:=h
   obtain ⟨_,vs,n,e2,r⟩:=S.wf hi hy
   refine kz ?_;try clear kz
   exact ⟨a,vs,n,ag,e2,r⟩
  ·cases e
def xD{v:aH}{m:aC}{x:am}(h:c7 W g m v)(e:yF σ m=ac x)(hx:x.yE=au):iE W g.F x v:=by
 rcases gC e with ⟨_,e⟩|⟨i,e1,e⟩
 ·obtain rfl:=jm e
  exact h
 ·refine aw fun kz=>?_
  obtain ⟨ys,_,rfl⟩:=cK e
  refine kz ?_;try clear kz
  exact bn hx.symm
def qf{v:aH}{m:aC}{xs:ao am}(S:bZ W g σ s)(h:c7 W g m v)(e:mV σ m=ac xs):∃a vs n,v=.ref a∧s.heap.get? a=ac (cw "list" vs n)∧cI W g.F xs vs:=by
 rcases gC e with ⟨_,e⟩|⟨i,e1,e⟩
 ·refine aw fun kz=>?_
  obtain ⟨x,h1,h2⟩:=bo e
  obtain rfl:=jm h1
  obtain rfl:=Qo h2
  obtain ⟨a,vs,n,rfl,f,r⟩:=h
  refine kz ?_;try clear kz
  exact ⟨a,vs,n,ag,S.dZ _ _ f,r⟩
 ·refine aw fun kz=>?_
  obtain rfl:=oo e1
  obtain ⟨a,rfl,hi⟩:=h
  obtain ⟨_,vs,n,e2,r⟩:=S.wf hi e
  refine kz ?_;try clear kz
  exact ⟨a,vs,n,ag,e2,r⟩
end
noncomputable def I4.v:I4→mO→aH
 |.aA,_=>.none
 |.aG b,_=>.bool b
 |.ae i,t=>.int i t
 |.ah x,t=>.str x t
def at4{A:dD}{s:bz}{t t':mO}:∀a b:I4,EqAt A s (a.v t) (b.v t') (Xm a b)∧RcAt A s (a.v t) (b.v t') (Xm a b)∧RcNeAt A s (a.v t) (b.v t') (!Xm a b)
 |.aA,.aA=>⟨.same _,.none_none,.none_none⟩
 |.aA,.aG _=>⟨.none_bool _,.none_bool _,.none_bool _⟩
 |.aA,.ae _=>⟨.none_int _ _,.none_int _ _,.none_int _ _⟩
 |.aA,.ah _=>⟨.none_str _ _,.none_str _ _,.none_str _ _⟩
 |.aG _,.aA=>⟨.bool_none _,.bool_none _,.bool_none _⟩
 |.aG _,.aG _=>⟨.bool_bool _ _,.bool_bool _ _,.bool_bool _ _⟩
 |.aG _,.ae _=>⟨.bool_int _ _ _,.bool_int _ _ _,.bool_int _ _ _⟩
 |.aG _,.ah _=>⟨.bool_str _ _ _,.bool_str _ _ _,.bool_str _ _ _⟩
 |.ae _,.aA=>⟨.int_none _ _,.int_none _ _,.int_none _ _⟩
 |.ae _,.aG _=>⟨.int_bool _ _ _,.int_bool _ _ _,.int_bool _ _ _⟩
 |.ae _,.ae _=>⟨.int_int _ _ _ _,.int_int _ _ _ _,.int_int _ _ _ _⟩
 |.ae _,.ah _=>⟨.int_str _ _ _ _,.int_str _ _ _ _,.int_str _ _ _ _⟩
 |.ah _,.aA=>⟨.str_none _ _,.str_none _ _,.str_none _ _⟩
 |.ah _,.aG _=>⟨.str_bool _ _ _,.str_bool _ _ _,.str_bool _ _ _⟩
 |.ah _,.ae _=>⟨.str_int _ _ _ _,.str_int _ _ _ _,.str_int _ _ _ _⟩
 |.ah _,.ah _=>⟨.str_str _ _ _ _,.str_str _ _ _ _,.str_str _ _ _ _⟩
def VT{t t':mO}{a b:I4}(h:a.v t=b.v t'):Xm a b=ak:=by
 induction a<;>induction b<;>first|rfl|(cases h;exact ug _)|cases h
section
variable{W:Wd}{F:cr}{A:dD}{s:bz}
noncomputable def I4.x:I4→am
 |.aA=>.aA
 |.aG b=>.aG b
 |.ae i=>.ae i
 |.ah x=>.ah x
def ON{x:am}{c:I4}(h:AM x=ac c):x=c.x:=by
 cases x<;>first|exact bn h|(obtain rfl:=cp h;rfl)
def aiY{v:aH}:∀{c:I4},iE W F c.x v→∃t,v=c.v t
 |.aA,r=>⟨0,r⟩
 |.aG _,r=>⟨0,r⟩
 |.ae _,r=>r
 |.ah _,r=>r
def qC{x:am}{c:I4}{v:aH}(h:AM x=ac c)(r:iE W F x v):∃t,v=c.v t:=aiY (ON h▸r)
def Jt{f:am→am→aM av}:∀{xs ys:ao am}{b:av},xs.length=ys.length→wE f xs ys=ac b→∃e:af→av,(∀(i:af)(x y:am),xs[i]? =ac x→ys[i]? =ac y→f x y=ac (e i))∧b=(gw xs.length).all e:=by
 intro xs
 induction xs with
 |nil=>
  intro ys
  rcases ys with _|⟨_,_⟩
  ·intro b _ h
   exact ⟨fun q9=>ak,(fun q9 q9 q9 z=>bn z),(cp h).symm⟩
  ·intro z2 z3 z4
   first|exact bn z4|exact cG z4|exact rt z4|exact tj z4|(cases z4;done)|exact bn z3|exact cG z3|exact rt z3|exact tj z3|(cases z3;done)|exact bn z2|exact Bool.noConfusion z2|exact False.elim z2|exact Nat.noConfusion z2|(cases z2;done)
 |cons x xs ih=>
  intro ys
  rcases ys with _|⟨y,ys⟩
  ·intro z2 z3 z4
   first|exact bn z4|exact cG z4|exact rt z4|exact tj z4|(cases z4;done)|exact bn z3|exact cG z3|exact rt z3|exact tj z3|(cases z3;done)|exact bn z2|exact Bool.noConfusion z2|exact False.elim z2|exact Nat.noConfusion z2|(cases z2;done)
  ·intro b hl h
   refine aw fun kz=>?_
   obtain ⟨a,ha,h⟩:=bo h
   obtain ⟨c,hc,rfl⟩:=cK h
   obtain ⟨e,he,rfl⟩:=ih (pG hl) hc
   refine kz ?_;try clear kz
   refine ⟨fun i=>Nat.casesOn i a e,fun i u v hu hv=>?_,?_⟩
   ·induction i with
    |zero=>obtain rfl:=cp hu;obtain rfl:=cp hv;exact ha
    |succ i=>exact he i u v hu hv
   ·(refine aq o3 ?_;refine aq List.range_succ_eq_map ?_;refine aq List.all_cons ?_;refine aq List.all_map ?_);rfl
structure Eq3(A:dD)(s:bz)(v u:aH)(b:av):Prop where
 rc:RcAt A s v u b
 ne:RcNeAt A s v u (!b)
def eF{h:dW}{a:be}{vs:ao aH}{n:af}(e:h.get? a=ac (cw "list" vs n)):h.IsList a vs.toArray:=⟨_,e,ag,n,ag⟩
def l4{h:dW}{a:be}{vs:ao aH}{n:af}(e:h.get? a=ac (cw "tuple" vs n)):h.IsTuple a vs.toArray:=⟨_,e,ag,n,ag⟩
def afp{f:am→am→aM av}{a1 a2:be}{t:av}{xs ys:ao am}{vs us:ao aH}{n m:af}{b:av}(ev:∀(x y:am)(v u:aH)(c:av),iE W F x v→iE W F y u→f x y=ac c→EqAt A.in1 s v u c)(hu:A.units<yw)
  (g1:s.heap.get? a1=ac (cw (cE t "tuple" "list") vs n)) (g2:s.heap.get? a2=ac (cw (cE t "tuple" "list") us m)) (r1:cI W F xs vs) (r2:cI W F ys us)
  (h:(if xs.length=ys.length then wE f xs ys else cE t au (ac aF))=ac b):Eq3 A s (.ref a1) (.ref a2) b:=by
 by_cases hl:xs.length=ys.length
 ·rw [bD hl] at h
  refine aw fun kz=>?_
  obtain ⟨e,he,rfl⟩:=Jt hl h
  refine kz ?_;try clear kz
  have FV:∀j(h1:j<vs.toArray.size)(h2:j<us.toArray.size),EqAt A.in1 s vs.toArray[j] us.toArray[j] (e j):=fun j h1 h2=>by
   have k1:j<xs.length:=r1.bh▸h1
   have k2:j<ys.length:=r2.bh▸h2
   have e1:=ed k1
   have e2:=ed k2
   exact ev _ _ _ _ _ (r1.pN e1 (ed h1)) (r2.pN e2 (ed h2)) (he j _ _ e1 e2)
  have sz:vs.toArray.size=us.toArray.size:=by (refine aq jy ?_;refine aq jy ?_;refine aq r1.bh ?_;refine aq r2.bh ?_;refine aq hl ?_;rfl)
  have es:(gw vs.toArray.size).all e=(gw xs.length).all e:=by (refine aq jy ?_;refine aq r1.bh ?_;rfl)
  induction t
  ·have R:=RcAt.lists (eF g1) (eF g2) sz hu FV
   have N:=RcNeAt.lists (eF g1) (eF g2) sz hu FV
   rw [es] at R N
   exact ⟨R,N⟩
  ·have R:=RcAt.tuples (l4 g1) (l4 g2) hu FV
   have N:=RcNeAt.tuples (l4 g1) (l4 g2) hu FV
   have ez:((gw (min vs.toArray.size us.toArray.size)).all e&&vs.toArray.size==us.toArray.size)=(gw xs.length).all e:=by (refine iu sz ?_;rewrite [ZZ,ug,Rk];refine aq es ?_;rfl)
   rw [ez] at R N
   exact ⟨R,N⟩
 ·rw [cL hl] at h
  induction t
  ·obtain rfl:=cp h
   have sz:(vs.toArray.size !=us.toArray.size)=ak:=by
    (refine aq jy ?_;refine aq jy ?_;refine aq r1.bh ?_;refine aq r2.bh ?_)
    exact Rx.mpr hl
   exact ⟨RcAt.lists_lengths (eF g1) (eF g2) sz hu,RcNeAt.lists_lengths (eF g1) (eF g2) sz hu⟩
  ·exact bn h
def GS{n:af}{x y:am}{b:av}(hx:AM x=au)(h:qs (n+1) x y=ac b):∃t xs ys,x=Ir (t,xs)∧y=Ir (t,ys)∧(if xs.length=ys.length then wE (qs n) xs ys else cE t au (ac aF))=ac b:=by
 unfold qs at h
 rw [hx] at h
 refine aw fun kz=>?_
 obtain ⟨p,h1,h⟩:=bo h
 obtain ⟨q,h2,h⟩:=bo h
 obtain ⟨e,h⟩:=d4 h
 refine kz ?_;try clear kz
 refine ⟨p.1,p.2,q.2,xC h1,?_,h⟩
 refine aq e ?_;exact xC h2
def Bb{t:av}{xs:ao am}{v:aH}(h:iE W F (Ir (t,xs)) v):∃a vs n,v=.ref a∧F a=ac (cw (cE t "tuple" "list") vs n)∧cI W F xs vs:=by
 induction t<;>exact h
def VU:∀(n:af){v:aH}{x y:am}{b:av},iE W F x v→iE W F y v→qs n x y=ac b→b=ak:=by
 intro n
 induction n with
 |zero=>
  intro _ _ _ _ _ _ h
  exact bn h
 |succ n ih=>
  intro v x y b hx hy h
  cases e:AM x with
  |some c=>
   unfold qs at h
   rw [e] at h
   refine aw fun kz=>?_
   obtain ⟨c',e',rfl⟩:=cK h
   obtain ⟨t,rfl⟩:=qC e hx
   obtain ⟨t',e2⟩:=qC e' hy
   refine kz ?_;try clear kz
   exact VT e2
  |none=>
   refine aw fun kz=>?_
   obtain ⟨t,xs,ys,rfl,rfl,hh⟩:=GS e h
   obtain ⟨a,vs,m,rfl,f1,r1⟩:=Bb hx
   obtain ⟨a',us,m',e2,f2,r2⟩:=Bb hy
   refine kz ?_;try clear kz
   cases e2
   rw [f1] at f2
   refine aw fun kz=>?_
   obtain rfl:vs=us:=by
    have:=a7 Obj.data (cp f2)
    injection this with this _
    exact a7 Ss this
   have hl:=r1.bh.symm.trans r2.bh
   rw [bD hl] at hh
   obtain ⟨e,he,rfl⟩:=Jt hl hh
   refine kz ?_;try clear kz
   refine ow.mpr fun j hj=>?_
   have k1:=qk.mp hj
   have k2:j<ys.length:=hl▸k1
   have k3:j<vs.length:=r1.bh.symm▸k1
   have e1:=ed k1
   have e2:=ed k2
   exact ih (r1.pN e1 (ed k3)) (r2.pN e2 (ed k3)) (he j _ _ e1 e2)
def aek:∀(n:af){A:dD}{v u:aH}{x y:am}{b:av},nI F s.heap.get?→A.units+n<yw→iE W F x v→iE W F y u→qs n x y=ac b→EqAt A s v u b∧Eq3 A s v u b:=by
 intro n
 induction n with
 |zero=>
  intro _ _ _ _ _ _ _ _ _ _ h
  exact bn h
 |succ n ih=>
  intro A v u x y b hF hu hx hy h
  cases e:AM x with
  |some c=>
   unfold qs at h
   rw [e] at h
   refine aw fun kz=>?_
   obtain ⟨c',e',rfl⟩:=cK h
   obtain ⟨t,rfl⟩:=qC e hx
   obtain ⟨t',rfl⟩:=qC e' hy
   obtain ⟨z1,z2,z3⟩:=at4 (A:=A) (s:=s) (t:=t) (t':=t') c c'
   refine kz ?_;try clear kz
   exact ⟨z1,z2,z3⟩
  |none=>
   refine aw fun kz=>?_
   obtain ⟨t,xs,ys,rfl,rfl,hh⟩:=GS e h
   obtain ⟨a,vs,m,rfl,f1,r1⟩:=Bb hx
   obtain ⟨a',us,m',rfl,f2,r2⟩:=Bb hy
   refine kz ?_;try clear kz
   have R:Eq3 A s (.ref a) (.ref a') b:=afp (fun x y v u c h1 h2 h3=>(ih hF (by show A.units+1+n<yw;lia) h1 h2 h3).1) (by lia) (hF _ _ f1) (hF _ _ f2) r1 r2 hh
   refine ⟨?_,R⟩
   by_cases hne:a=a'
   ·subst hne
    refine aq (VU (n+1) hx hy h) ?_
    exact .same _
   ·exact .of_refs hne R.rc
end
def mC(W:Wd)(c:af)(k:nP):Prop:=(kF W.K (.ref (W.eK c)) "__getattribute__"=ac (ac (.builtin "object.__getattribute__")))∧(kF W.K (.ref (W.eK c)) "__getattr__"=ac au)∧(Mi W.K (W.eK c)=ak)∧(∀nm∈k.cu,kF W.K (.ref (W.eK c)) nm=ac au)∧(kF W.K (.ref (W.eK c)) "__setattr__"=ac (ac (.builtin "object.__setattr__")))∧(Mj W.K (W.eK c)=ak)∧(makesIn W.K (W.eK c)=ak)∧(kF W.K (.ref (W.eK c)) "__init__"=ac (ac (.ref (W.lJ k.gW))))∧(Ed W.K (.ref (W.lJ k.gW))=ac (.type "function"))∧(∀p∈k.mU,kF W.K (.ref (W.eK c)) p.1=ac (ac (.ref (W.lJ p.2)))∧p.1∉k.cu∧Ed W.K (.ref (W.lJ p.2))=ac (.type "function"))∧(∀p∈k.mU,p.2<1000)∧(oP W.K (.ref (W.eK c))=ak)∧(k.cu.Nodup)
section
variable{W:Wd}{c:af}{k:nP}(s0:mC W c k)
include s0
def mC.yY:kF W.K (.ref (W.eK c)) "__getattribute__"=ac (ac (.builtin "object.__getattribute__")):=s0.1
def mC.Y7:kF W.K (.ref (W.eK c)) "__getattr__"=ac au:=s0.2.1
def mC.FW:Mi W.K (W.eK c)=ak:=s0.2.2.1
def mC.cu:∀nm∈k.cu,kF W.K (.ref (W.eK c)) nm=ac au:=s0.2.2.2.1
def mC.Y8:kF W.K (.ref (W.eK c)) "__setattr__"=ac (ac (.builtin "object.__setattr__")):=s0.2.2.2.2.1
def mC.bk:Mj W.K (W.eK c)=ak:=s0.2.2.2.2.2.1
def mC.ahb:makesIn W.K (W.eK c)=ak:=s0.2.2.2.2.2.2.1
def mC.gW:kF W.K (.ref (W.eK c)) "__init__"=ac (ac (.ref (W.lJ k.gW))):=s0.2.2.2.2.2.2.2.1
def mC.ael:Ed W.K (.ref (W.lJ k.gW))=ac (.type "function"):=s0.2.2.2.2.2.2.2.2.1
def mC.mU:∀p∈k.mU,kF W.K (.ref (W.eK c)) p.1=ac (ac (.ref (W.lJ p.2)))∧p.1∉k.cu∧Ed W.K (.ref (W.lJ p.2))=ac (.type "function"):=s0.2.2.2.2.2.2.2.2.2.1
def mC.VV:∀p∈k.mU,p.2<1000:=s0.2.2.2.2.2.2.2.2.2.2.1
def mC.jP:oP W.K (.ref (W.eK c))=ak:=s0.2.2.2.2.2.2.2.2.2.2.2.1
def mC.tP:k.cu.Nodup:=s0.2.2.2.2.2.2.2.2.2.2.2.2
end
def T9(W:Wd)(F:cr)(es:ao (aI×am))(mf:aI→aM aH):Prop:=∀x,(es.lookup x=au→mf x=au)∧∀y,es.lookup x=ac y→∃v,mf x=ac v∧iE W F y v
def l9(W:Wd):Prop:=(W.K.In W.ea)∧(∃a o,W.ea.get? a=ac o∧uK<a)∧(∀k,W.Da k≠ .none)∧(∀(g:af)(nm:aI)(v:am),W.T.tH[g]? =ac (nm,v)→∃mg u,W.ea.Ns tx mg∧iE W W.ea.get? v u∧(mg nm=ac u∨(mg nm=au∧∃mb,W.ea.Ns uL mb∧mb nm=ac u)))∧(∀nm:pC,nm∈(["range","enumerate","zip"] :ao pC)→∃mg mb,W.ea.Ns tx mg∧mg (mP nm)=au∧W.ea.Ns uL mb∧mb (mP nm)=ac (.type nm))∧(∀k,Hs (W.Da k)=ak)∧(∀(c:af)(k:nP),W.T.e6[c]? =ac k→mC W c k)∧(∀(d:af)(es:ao (aI×am)),W.T.n7[d]? =ac es→∃mf:aI→aM aH,W.ea.MapOf (strKind W.cY W.w) (W.m7 d) mf∧(W.m7 d==uK)=aF∧T9 W W.ea.get? es mf)
section
variable{W:Wd}(s0:l9 W)
include s0
def l9.Ld:W.K.In W.ea:=s0.1
def l9.aem:∃a o,W.ea.get? a=ac o∧uK<a:=s0.2.1
def l9.aen:∀k,W.Da k≠ .none:=s0.2.2.1
def l9.tH:∀(g:af)(nm:aI)(v:am),W.T.tH[g]? =ac (nm,v)→∃mg u,W.ea.Ns tx mg∧iE W W.ea.get? v u∧(mg nm=ac u∨(mg nm=au∧∃mb,W.ea.Ns uL mb∧mb nm=ac u)):=s0.2.2.2.1
def l9.ahc:∀nm:pC,nm∈(["range","enumerate","zip"] :ao pC)→∃mg mb,W.ea.Ns tx mg∧mg (mP nm)=au∧W.ea.Ns uL mb∧mb (mP nm)=ac (.type nm):=s0.2.2.2.2.1
def l9.aeo:∀k,Hs (W.Da k)=ak:=s0.2.2.2.2.2.1
def l9.e6:∀(c:af)(k:nP),W.T.e6[c]? =ac k→mC W c k:=s0.2.2.2.2.2.2.1
def l9.n7:∀(d:af)(es:ao (aI×am)),W.T.n7[d]? =ac es→∃mf:aI→aM aH,W.ea.MapOf (strKind W.cY W.w) (W.m7 d) mf∧(W.m7 d==uK)=aF∧T9 W W.ea.get? es mf:=s0.2.2.2.2.2.2.2
end
def qY{prog:wy}{w:yv}{K:Type}[LC K]{knd:KeyKind prog w K}{h h':dW}{a:be}{f:K→aM aH}(m:h.MapOf knd a f)(k:∀b o,h.get? b=ac o→h'.get? b=ac o):h'.MapOf knd a f:=by obtain ⟨o,es,ep,e,r⟩:=m;exact ⟨o,es,ep,k _ _ e,r⟩
noncomputable def Iu:Kq→ly
 |.bN=>.Eq|.ne=>.NotEq|.lz=>.Lt|.gP=>.LtE|.xJ=>.Gt|.pH=>.GtE|.fw=>.In|.gm=>.NotIn|.AL=>.Is|.rz _=>.IsNot
noncomputable def v4:aH→aM I4
 |.none=>ac .aA
 |.bool b=>ac (.aG b)
 |.int i _=>ac (.ae i)
 |.str x _=>ac (.ah x)
 |_=>au
def H4(y x:aH):av:=((v4 y).bind fun a=>(v4 x).map (Xm a)).getD aF
def afq{t:mO}:∀c:I4,v4 (c.v t)=ac c
 |.aA=>ag
 |.aG _=>ag
 |.ae _=>ag
 |.ah _=>ag
section
variable{W:Wd}{g:cZ}{σ:an}{s:bz}{A:dD}{d:af}
def aep{neg t:av}{x:aH}{a:be}{vs:ao aH}{n:af}{Q:aH→bz→Prop}(e:aH→av)(f:s.heap.get? a=ac (cw (cE t "tuple" "list") vs n))(he:∀y,y∈vs→EqAt A.in1 s y x (e y))(h:Q (.bool (cE neg (!vs.any e) (vs.any e))) s):Wp W A (D6 (cE neg .NotIn .In) x (.ref a)) Q s:=by
 have he:∀y,y∈vs.toArray→EqAt A.in1 s y x (e y):=fun y hy=>he y (List.mem_toArray.mp hy)
 rw [← List.any_toArray] at h
 induction neg<;>induction t
 ·exact in_listAt e (eF f) he h
 ·exact in_tupleAt e (l4 f) he h
 ·exact notIn_listAt e (eF f) he h
 ·exact notIn_tupleAt e (l4 f) he h
def Y9{F:cr}{q:am}{x:aH}(hx:iE W F q x):∀{ys:ao am}{vs:ao aH}{b:av},cI W F ys vs→Ei q ys=ac b→(∀y,y∈vs→EqAt A s y x (H4 y x))∧vs.any (H4 · x)=b:=by
 intro ys
 induction ys with
 |nil=>
  intro _ b r h
  subst r
  exact ⟨(fun q9 z=>bW z hU),cp h⟩
 |cons p ys ih=>
  intro _ b r h
  refine aw fun kz=>?_
  obtain ⟨v,us,rfl,r1,r2⟩:=r
  obtain ⟨hi,h⟩:=d4 h
  obtain ⟨i1,i2⟩:=gS hi
  obtain ⟨a,ha,h⟩:=bo h
  obtain ⟨c,hc,rfl⟩:=cK h
  obtain ⟨p1,e1⟩:=Lo.mp i1
  obtain ⟨q1,e2⟩:=Lo.mp i2
  refine kz ?_;try clear kz
  unfold qs at ha
  rw [e1] at ha
  refine aw fun kz=>?_
  obtain ⟨q2,e3,rfl⟩:=cK ha
  refine kz ?_;try clear kz
  rw [e2] at e3
  obtain rfl:=cp e3
  refine aw fun kz=>?_
  obtain ⟨t,rfl⟩:=qC e1 r1
  obtain ⟨t',rfl⟩:=qC e2 hx
  obtain ⟨k3,k4⟩:=ih r2 hc
  refine kz ?_;try clear kz
  have z:H4 (p1.v t) (q1.v t')=Xm p1 q1:=by unfold H4;rw [afq,afq];rfl
  refine ⟨fun y hy=>?_,by (refine aq LU ?_;refine aq z ?_;refine aq k4 ?_;rfl)⟩
  rcases eH.mp hy with rfl|hy
  ·refine aq z ?_;exact (at4 p1 q1).1
  ·exact k3 y hy
def FX(hW:l9 W)(neg:av)(S:bZ W g σ s){v u:aH}{a b:aC}{r:av}(h1:c7 W g a v)(h2:c7 W g b u)(h:acv W.T σ a b=ac r):Wp W A (D6 (cE neg .NotIn .In) v u) (fun c s'=>c=.bool (cE neg (!r) r)∧bZ W g σ s') s:=by
 refine aw fun kz=>?_
 obtain ⟨x,hx,h⟩:=bo h
 obtain rfl:=jm hx
 refine kz ?_;try clear kz
 rcases gC h with ⟨_,hh⟩|⟨d,hd,hh⟩
 ·refine aw fun kz=>?_
  obtain ⟨p,hp,k⟩:=bo hh
  obtain ⟨y,hy,hq⟩:=bo hp
  obtain ⟨l,vs,n,rfl,f,r'⟩:=pj S h2 hy hq
  refine kz ?_;try clear kz
  unfold jh at k
  obtain ⟨k1,k2⟩:=Y9 (A:=A.in1) (s:=s) h1 r' k
  exact aep (H4 · v) f k1 ⟨by (refine aq k2 ?_;rfl),S⟩
 ·refine aw fun kz=>?_
  obtain ⟨y,hy,hd⟩:=bo hd
  obtain rfl:=jm hy
  obtain rfl:=vP hd
  obtain ⟨es,he,k⟩:=bo hh
  obtain ⟨z,hz,rfl⟩:=cK k
  obtain rfl:=Ba hz
  obtain ⟨t,rfl⟩:=h1
  obtain rfl:u=.ref (W.m7 d):=h2
  obtain ⟨mf,hm,lo,hl⟩:=hW.n7 d es he
  refine kz ?_;try clear kz
  have hm:=qY hm fun b o e=>S.m9 e
  have e:(mf z).isSome=(es.lookup z).isSome:=by
   cases q:es.lookup z with
   |none=>refine aq ((hl z).1 q) ?_;rfl
   |some y=>obtain ⟨v,e,_⟩:=(hl z).2 y q;refine aq e ?_;rfl
  induction neg
  ·exact wpAny_in_of (L6 W.cY W.w z t) lo hm ⟨by refine aq e ?_;rfl,S.uc _⟩
  ·exact wpAny_notIn_of (L6 W.cY W.w z t) lo hm ⟨by refine aq e ?_;rfl,S.uc _⟩
def Ju(S:bZ W g σ s)(hA:A.units+nJ<yw){v u:aH}{a b:aC}{x y:am}{r:av}(h1:c7 W g a v)(h2:c7 W g b u)(e1:yF σ a=ac x)(e2:yF σ b=ac y)(h:eqV x y=ac r):Eq3 A s v u r:=by
 rw [adg] at h
 cases q:AM x with
 |some c=>
  have h:=h
  unfold qs nJ at h
  dsimp only at h
  rw [q] at h
  refine aw fun kz=>?_
  obtain ⟨c',q',rfl⟩:=cK h
  have no:∀{z:am}{c:I4},AM z=ac c→z.yE=au:=fun {z c} e=>by refine aq (ON e) ?_;induction c<;>rfl
  obtain ⟨t,rfl⟩:=qC q (xD h1 e1 (no q))
  obtain ⟨t',rfl⟩:=qC q' (xD h2 e2 (no q'))
  refine kz ?_;try clear kz
  exact ⟨(at4 c c').2.1,(at4 c c').2.2⟩
 |none=>
  refine aw fun kz=>?_
  obtain ⟨t,xs,ys,rfl,rfl,hh⟩:=GS q h
  have sq:∀zs,wF (Ir (t,zs))=ac (t,zs):=fun zs=>by induction t<;>rfl
  obtain ⟨a1,vs,n,rfl,g1,r1⟩:=pj S h1 e1 (sq xs)
  obtain ⟨a2,us,m,rfl,g2,r2⟩:=pj S h2 e2 (sq ys)
  refine kz ?_;try clear kz
  exact afp (fun x y v u c k1 k2 k3=>(aek 11 S.dZ (by show A.units+1+11<yw;unfold nJ at hA;lia) k1 k2 k3).1) (by lia) g1 g2 r1 r2 hh
def Qp{F:cr}{v:aH}:∀{x:am},iE W F x v→(∃a,v=.ref a∧x.gT=aF)∨(∃c t,x=I4.x c∧v=c.v t)∨∃k,x=.bi k∧v=W.Da k
 |.aA,h=>.inr (.inl ⟨.aA,0,ag,h⟩)
 |.aG b,h=>.inr (.inl ⟨.aG b,0,ag,h⟩)
 |.ae i,h=>h.elim fun t e=>.inr (.inl ⟨.ae i,t,ag,e⟩)
 |.ah i,h=>h.elim fun t e=>.inr (.inl ⟨.ah i,t,ag,e⟩)
 |.bE _,h=>h.elim fun a h=>h.elim fun q9 h=>h.elim fun q9 h=>.inl ⟨a,h.1,ag⟩
 |.al _,h=>h.elim fun a h=>h.elim fun q9 h=>h.elim fun q9 h=>.inl ⟨a,h.1,ag⟩
 |.ic _ _,h=>h.elim fun a h=>h.elim fun q9 h=>h.elim fun q9 h=>.inl ⟨a,h.1,ag⟩
 |.fn _,h=>.inl ⟨_,h,ag⟩
 |.mQ _,h=>.inl ⟨_,h,ag⟩
 |.bi k,h=>.inr (.inr ⟨k,ag,h⟩)
 |.rx _,h=>.inl ⟨_,h,ag⟩
def Db{m:aC}{v:aH}(h:c7 W g m v):(∃a,v=.ref a∧m.gT=aF)∨(∃c t,m=.f (I4.x c)∧v=c.v t)∨∃k,m=.f (.bi k)∧v=W.Da k:=by
 induction m with
 |f _=>exact (Qp h).imp id fun z=>z.imp (fun jF=>by obtain ⟨c,t,e,q⟩:=jF;exact ⟨c,t,a7 aC.f e,q⟩) fun jF=>by obtain ⟨k,e,q⟩:=jF;exact ⟨k,a7 aC.f e,q⟩
 |a6 _=>exact h.elim fun a h=>.inl ⟨a,h.1,ag⟩
 |fN _=>exact h.elim fun a h=>.inl ⟨a,h.1,ag⟩
def Jv(hW:l9 W){m:aC}{v:aH}(h:c7 W g m v):(v== .none)=m.gT:=by
 rcases Db h with ⟨a,rfl,e⟩|⟨c,t,rfl,rfl⟩|⟨k,rfl,rfl⟩
 ·refine aq e ?_;rfl
 ·induction c<;>rfl
 ·exact Ap.mpr (hW.aen k)
def c7.aeq(hW:l9 W){m:aC}{v:aH}(h:c7 W g m v):Hs v=ak:=by
 rcases Db h with ⟨a,rfl,e⟩|⟨c,t,rfl,rfl⟩|⟨k,rfl,rfl⟩
 ·rfl
 ·induction c<;>rfl
 ·exact hW.aeo k
def Xc{a b:aC}{v u:aH}{f:aN→aN→av}{r:av}(h1:c7 W g a v)(h2:c7 W g b u)(h:(a.mK.bind fun x=>b.mK.bind fun y=>ac (f x y))=ac r):∃x y t t',v=.int x t∧u=.int y t'∧r=f x y:=by
 refine aw fun kz=>?_
 obtain ⟨x,hx,h⟩:=bo h
 obtain ⟨y,hy,h⟩:=bo h
 obtain rfl:=k9 hx
 obtain rfl:=k9 hy
 obtain ⟨t,rfl⟩:=h1
 obtain ⟨t',rfl⟩:=h2
 refine kz ?_;try clear kz
 exact ⟨x,y,t,t',ag,ag,(cp h).symm⟩
def Qq(hW:l9 W)(S:bZ W g σ s)(hA:A.units+nJ<yw):∀{op:Kq}{v u:aH}{a b:aC}{r:av},c7 W g a v→c7 W g b u→fg W.T σ op a b=ac r→Wp W A (D6 (Iu op) v u) (fun c s'=>c=.bool r∧bZ W g σ s') s:=by
 intro op v u a b r h1 h2 h
 induction op with
 |bN=>
  refine aw fun kz=>?_
  obtain ⟨x,e1,h⟩:=bo h
  obtain ⟨y,e2,h⟩:=bo h
  refine kz ?_;try clear kz
  exact (Ju S hA h1 h2 e1 e2 h).rc W.cY W.w _ _ ⟨ag,S⟩
 |ne=>
  refine aw fun kz=>?_
  obtain ⟨x,e1,h⟩:=bo h
  obtain ⟨y,e2,h⟩:=bo h
  obtain ⟨c,k,rfl⟩:=cK h
  refine kz ?_;try clear kz
  exact (Ju S hA h1 h2 e1 e2 k).ne W.cY W.w _ _ ⟨ag,S⟩
 |lz=>
  refine aw fun kz=>?_
  obtain ⟨x,y,t,t',rfl,rfl,rfl⟩:=Xc h1 h2 h
  refine kz ?_;try clear kz
  exact PySem.P.lt_int ⟨ag,S⟩
 |gP=>
  refine aw fun kz=>?_
  obtain ⟨x,y,t,t',rfl,rfl,rfl⟩:=Xc h1 h2 h
  refine kz ?_;try clear kz
  exact PySem.P.le_int ⟨ag,S⟩
 |xJ=>
  refine aw fun kz=>?_
  obtain ⟨x,y,t,t',rfl,rfl,rfl⟩:=Xc h1 h2 h
  refine kz ?_;try clear kz
  exact PySem.P.gt_int ⟨ag,S⟩
 |pH=>
  refine aw fun kz=>?_
  obtain ⟨x,y,t,t',rfl,rfl,rfl⟩:=Xc h1 h2 h
  refine kz ?_;try clear kz
  exact PySem.P.ge_int ⟨ag,S⟩
 |fw=>exact FX hW aF S h1 h2 h
 |gm=>
  refine aw fun kz=>?_
  obtain ⟨c,k,rfl⟩:=cK h
  refine kz ?_;try clear kz
  exact FX hW ak S h1 h2 k
 |AL=>
  cases q:b.gT
  ·unfold fg at h;rw [q] at h;exact bn h
  ·obtain rfl:=CC q
   cases h2
   exact is_none_gen ⟨by (refine aq (Jv hW h1) ?_;refine iu (cp h) ?_;rfl),S⟩
 |rz _=>
  cases q:b.gT
  ·unfold fg at h;rw [q] at h;exact bn h
  ·obtain rfl:=CC q
   cases h2
   exact isnot_none_gen ⟨by (refine aq (Jv hW h1) ?_;refine iu (cp h) ?_;rfl),S⟩
end
noncomputable def acU:EX→L9
 |.ci=>.Add|.fA=>.Sub|.mR=>.Mult|.yC=>.FloorDiv|.uO=>.Mod|.wB _=>.Pow
def VW{β:Type}(items:ao β)(k:af):LW (fun x1 x2=>x1++x2) (#[] :kC β) (mJ k items.toArray)=(mJ k items).flatten.toArray:=by
 have key:∀(k:af)(a:ao β),LW (fun x1 x2=>x1++x2) (a.toArray:kC β) (mJ k items.toArray)=(a++(mJ k items).flatten).toArray:=by
  intro k
  induction k with
  |zero=>intro a;(refine aq RI ?_;refine aq RI ?_;refine aq List.flatten_nil ?_;rw [ny]);rfl
  |succ k ih=>
   intro a
   (refine aq LK ?_;refine aq LP ?_;refine aq LK ?_;refine aq RO ?_;rw [← qi,aai])
   exact ih (a++items)
 exact key k []
def Ny{x:am}{b:av}(h:Th x=ac b):(x=.aA∧b=aF)∨x=.aG b∨∃i,x=.ae i∧b=(i !=0):=by
 cases x<;>first|exact bn h|(obtain rfl:=cp h;first|exact .inl ⟨ag,ag⟩|exact .inr (.inl ag)|exact .inr (.inr ⟨_,ag,ag⟩))
section
variable{W:Wd}{g:cZ}{σ:an}{s:bz}{A:dD}{d:af}
def qZ(S:bZ W g σ s){v:aH}{a:aC}{γ:Type}{K:av→an→Prop}(r:c7 W g a v)(h:oi (t5 σ a) fun b=>K b σ):Wp W A (yr v) (TP W g K) s:=by
 refine aw fun kz=>?_
 obtain ⟨b,h,k⟩:=fk h
 obtain ⟨x,h1,h⟩:=bo h
 obtain rfl:=jm h1
 refine kz ?_;try clear kz
 have fJ:TP W g K b s:=⟨σ,g,.bc _,S,k⟩
 rcases Ny h with ⟨rfl,rfl⟩|rfl|⟨i,rfl,rfl⟩
 ·cases r;exact truthy_none fJ
 ·cases r;exact LZ fJ
 ·refine aw fun kz=>?_
  obtain ⟨t,rfl⟩:=r
  refine kz ?_;try clear kz
  exact PySem.P.truthy_int fJ
def xE{l:be}{n:af}{vs:ao aH}{xs:ao am}{fz:av}{K:KE}{h':dW}(S:bZ W g σ s)(tk:af)(hk:∀b o,s.heap.get? b=ac o→h'.get? b=ac o)(hF:g.F l=au)(hT:g.T l=au)(hα:l∉g.α)(e:h'.get? l=ac (cw "list" vs n))(r:cI W g.F xs vs)(h:gX (jJ σ fz xs) K):VP W g K (.ref l) {s with heap:=h',toks:=tk}:=by
 have S':=S.jP tk hk
 refine aw fun kz=>?_
 obtain ⟨m,bS,h,k⟩:=jD h
 refine kz ?_;try clear kz
 induction fz
 ·unfold jJ W4 at h
  cases (d4 h).2
  obtain ⟨S2,le⟩:=S'.Lc (mo:=.al xs) hα hT ⟨_,e⟩ ⟨hF,vs,n,e,r⟩
  refine ⟨_,_,_,le,?_,S2,k⟩
  refine ⟨l,ag,?_⟩
  show (g.α++[l])[σ.length]? =_
  (refine iu S.bh ?_;rw [nO (c9 _),nZ]);rfl
 ·cases (d4 h).2
  obtain ⟨S2,le⟩:=S'.yW e hF hT fun i hi=>bW (gM hi) hα
  refine ⟨_,_,_,le,?_,S2,k⟩
  exact ⟨l,vs,n,ag,cr.d9 _ _ _,r.bu le.F⟩
def s9{fz:av}{xs:ao am}{K:KE}(h:gX (jJ σ fz xs) K):xs.length≤100000:=by
 refine aw fun kz=>?_
 obtain ⟨m,bS,h,_⟩:=jD h
 refine kz ?_;try clear kz
 induction fz
 ·unfold jJ W4 at h;exact (d4 h).1
 ·exact (d4 h).1
def se{vs:ao aH}{xs:ao am}{fz:av}{K:KE}(S:bZ W g σ s)(r:cI W g.F xs vs)(h:gX (jJ σ fz xs) K):VP W g K (.ref s.heap.objs.size) {s with heap:=s.heap.push {cls:=.type "list",data:=.seq vs.toArray}}:=
 xE (n:=0) S s.toks (fun q9 q9 e=>ql _ e) (S.DG (c9 _)) (S.sZ (c9 _)) (S.gm (c9 _)) (rN _ ag) r h
def cI.afr{F:cr}{vs:ao aH}{xs:ao am}(r:cI W F xs vs):∀k:af,cI W F (mJ k xs).flatten (mJ k vs).flatten
 | 0=>ag
 |k+1=>by (refine aq LK ?_;refine aq LK ?_;refine aq RO ?_;refine aq RO ?_);exact r.T8 (r.afr k)
def cg{α:Type}{o:aM α}{f:α→aM (aC×an)}{K:KE}(h:gX (o.bind f) K):∃x,o=ac x∧gX (f x) K:=by
 induction o with
 |none=>exact h.elim
 |some x=>exact ⟨x,ag,h⟩
def la{c:Prop}[DQ c]{a:aM (aC×an)}{K:KE}(h:gX (if c then a else au) K):c∧gX a K:=by
 by_cases q:c
 ·rw [bD q] at h;exact ⟨q,h⟩
 ·rw [cL q] at h;induction h
def sg{α:Type}{o:aM α}{a:aM (aC×an)}{f:α→aM (aC×an)}{K:KE}(h:gX (o.elim a f) K):(o=au∧gX a K)∨∃x,o=ac x∧gX (f x) K:=by
 induction o with
 |none=>exact .inl ⟨ag,h⟩
 |some x=>exact .inr ⟨x,ag,h⟩
def zQ{c:av}{a:aM (aC×an)}{K:KE}(h:gX (cE c a au) K):c=ak∧gX a K:=by
 induction c with
 |true=>exact ⟨ag,h⟩
 |false=>exact h.elim
def Nz(S:bZ W g σ s){x y:aN}{t t':mO}{K:KE}:∀{op:EX},gX (Mp σ op x y) K→Wp W A (binaryOp (acU op) (.int x t) (.int y t')) (VP W g K) s
 |.ci,h=>PySem.P.add_int (VP.ae (S.uc _) h)
 |.fA,h=>PySem.P.sub_int (VP.ae (S.uc _) h)
 |.mR,h=>by
  obtain ⟨c,h⟩:=la h
  exact PySem.P.mul_int (VP.ae (S.uc _) h) (IntMulOk.of_left (intBits_le c.1))
 |.yC,h=>by
  by_cases c:y=0∨¬y.natAbs<1073741824
  ·unfold Mp at h;dsimp only at h;rw [bD c] at h;induction h
  ·unfold Mp at h;dsimp only at h;rw [cL c] at h
   rw [DS,Classical.not_not] at c
   exact floordiv_int c.1 (VP.ae (S.uc _) h) (.inl (PyProof.noPylong_small c.2))
 |.uO,h=>by
  by_cases c:y=0
  ·unfold Mp at h;dsimp only at h;rw [bD c] at h;induction h
  ·unfold Mp at h;dsimp only at h;rw [cL c] at h
   exact mod_int' c (VP.ae (S.uc _) h)
 |.wB _,h=>by
  obtain ⟨c,h⟩:=la h
  exact pow_int_small c.2.1 (yy c.2.2 (by decide)) c.1 (VP.ae (S.uc _) h)
def Qr(S:bZ W g σ s){fz:av}{op:EX}{v u:aH}{a b:aC}{K:KE}(h1:c7 W g a v)(h2:c7 W g b u)(h:gX (sN σ fz op a b) K):Wp W A (binaryOp (acU op) v u) (VP W g K) s:=by
 rcases sg h with ⟨_,k⟩|⟨n,hn,k⟩
 ·obtain ⟨ha,k1⟩:=zQ k
  obtain rfl:op=.ci:=by induction op<;>first|rfl|exact cG ha
  obtain ⟨xs,hx,k⟩:=cg k1
  obtain ⟨ys,hy,k⟩:=cg k
  obtain ⟨l,vs,n,rfl,f1,r1⟩:=qf S h1 hx
  obtain ⟨l2,us,m,rfl,f2,r2⟩:=qf S h2 hy
  have hz:=s9 k
  refine concat_meets ⟨_,f1,ag⟩ ⟨_,f2,ag⟩ noFill_list_add seq_list_add PySem.F.slot_list_add PySem.F.entry_list_add (PySem.F.args_list_add_2 _ _) (list_addW l l2 vs.toArray us.toArray n m au au #[] #[] (by
   rw [dg] at hz
   (refine aq jy ?_;refine aq jy ?_;refine aq r1.bh ?_;refine aq r2.bh ?_)
   unfold oN;lia)) ⟨f1,f2,?_⟩
  rw [aai]
  exact se S (r1.T8 r2) k
 ·obtain rfl:=k9 hn
  obtain ⟨t',rfl⟩:=h2
  rcases sg k with ⟨_,k⟩|⟨x,hx,k⟩
  ·obtain ⟨ha,k1⟩:=zQ k
   obtain rfl:op=.mR:=by induction op<;>first|rfl|exact cG ha
   obtain ⟨xs,hx,k⟩:=cg k1
   obtain ⟨⟨c1,c2⟩,k⟩:=la k
   obtain ⟨l,vs,m,rfl,f,r⟩:=qf S h1 hx
   have e:LW (fun x1 x2=>x1++x2) (#[] :kC aH) (mJ (if vs.toArray.isEmpty=ak then 0 else n.toNat) vs.toArray)=(mJ n.toNat vs).flatten.toArray:=by
    by_cases hv:vs=[]
    ·(refine aq hv ?_;refine aq List.flatten_replicate_nil ?_)
     show LW _ _ (mJ 0 _)=_
     refine aq RI ?_;rfl
    ·rw [cL (by rw [List.isEmpty_toArray];exact fun z=>hv (o4.mp z)),VW]
   have a1:vs.length≤1000:=by refine aq r.bh ?_;exact c2
   have a2:n.toNat≤1000:=N6 c1
   have hl:vs.toArray.size*n.toNat≤1000*1000:=by refine aq jy ?_;exact Ly a1 a2
   refine wpAny_binaryOp_repeat_ref (T:="list") (U:="int") (by decide) ⟨_,f,ag⟩ (fun s'=>typeIs_int s' n t') noFill_list_mul PySem.F.fills_int_mul aa5 repeat_list PySem.F.slot_int_index.lookup
    (D5 aa5 (typeIs_int s n t') PySem.F.entry_int_rmul (PySem.F.args_int_rmul_2 _ _) (int___rmul___int_list n t' l vs.toArray m)
     ⟨f,ag,⟨_,f,ag⟩,D5 PySem.F.slot_list_mul ⟨_,f,ag⟩ PySem.F.entry_list_mul (PySem.F.args_list_mul_2 _ _)
      (AutoListH.list___mul___list_int_3 l vs.toArray m n t' (by unfold abc;(refine aq (jx (by lia)) ?_;refine aq (jx (by lia)) ?_);exact mI) (by lia) (by unfold Builtin.List.listTooLong oN;rw [LB];lia))
      ⟨f,?_⟩⟩)
   refine aq e ?_
   exact se S (r.afr _) k
  ·obtain rfl:=k9 hx
   obtain ⟨t,rfl⟩:=h1
   exact Nz S k
def Qs(S:bZ W g σ s){v:aH}{a:aC}{K:KE}(h1:c7 W g a v)(h:oi (afa a) fun m=>K m σ):Wp W A (unaryOp .USub v) (VP W g K) s:=by
 refine aw fun kz=>?_
 obtain ⟨m,h,k⟩:=fk h
 obtain ⟨x,hx,rfl⟩:=cK h
 obtain rfl:=k9 hx
 obtain ⟨t,rfl⟩:=h1
 refine kz ?_;try clear kz
 exact PySem.P.neg_int (VP.ae (S.uc _) k)
end
def FY{o:dF}{m:aI→aM aH}(h:kL o m)(nm:aI):lookIn nm o=ac (m nm):=by
 refine aw fun kz=>?_
 obtain ⟨es,ep,hd,hk,hm⟩:=h
 refine kz ?_;try clear kz
 unfold lookIn
 refine aq hd ?_
 dsimp only
 have:=hm nm
 unfold yq findBy at this
 rw [← aba] at this
 split
 ·rename_i e he
  rw [he] at this;exact a7 ac this
 ·rename_i he
  rw [he] at this
  rw [cL]
  ·exact a7 ac this
  ·rw [yl]
   rintro ⟨e,hm,hr⟩
   refine aw fun kz=>?_
   obtain ⟨n,t,q⟩:=hk e (aa9.mp hm)
   refine kz ?_;try clear kz
   unfold DictEntry.refKey at hr
   rw [q] at hr
   exact cG hr
def Qt{l:ao aI}{x:aI}{j:af}(h:l.idxOf? x=ac j):l[j]? =ac x:=by
 rw [List.idxOf?,List.findIdx?_eq_some_iff_getElem] at h
 obtain ⟨hl,hx,_⟩:=h
 (rewrite [ed hl];refine aq (cz hx) ?_;rfl)
section
variable{W:Wd}{g:cZ}{σ:an}{s:bz}{A:dD}{d:af}
def bZ.Ld(hW:l9 W)(S:bZ W g σ s):W.K.In s.heap:=hW.Ld.keeps fun b o e=>S.m9 e
structure MR(W:Wd)(g:cZ)(s:bz)(v:aH)(c:af)(fs:ao aC):Prop where
 ex:∃a k vs d od m,v=.ref a∧W.T.e6[c]? =ac k∧uA k m vs∧fs.length=k.cu.length∧dI W g fs vs∧InstAt s.heap a (mw (W.eK c) d) (W.eK c) (ac od)∧kL od m
def MR.eu(S:bZ W g σ s){a:be}{c:af}{k:nP}{vs:ao aH}{fs:ao aC}(I:AI W g.F a c k vs)(l:fs.length=k.cu.length)(r:dI W g fs vs):MR W g s (.ref a) c fs:=
by
 obtain ⟨hk,d,od,m,h1,h2,h3,h4⟩:=I
 exact ⟨a,k,vs,d,od,m,ag,hk,h4,l,r,⟨S.dZ _ _ h1,ag,ag,S.dZ _ _ h2⟩,h3⟩
def Lf(S:bZ W g σ s){v:aH}{c:af}{fs:ao am}(h:c7 W g (.f (.ic c fs)) v):MR W g s v c (fs.map .f):=by
 obtain ⟨a,k,vs,rfl,I,l,r⟩:=h
 exact .eu S I (by rw [b9];exact l) r.toM
def Ua(S:bZ W g σ s){v:aH}{i:af}{p:af×ao aC}(h:c7 W g (.fN i) v)(e:Bl σ i=ac p):MR W g s v p.1 p.2:=by
 obtain ⟨a,rfl,hi⟩:=h
 obtain ⟨k,vs,I,l,r⟩:=S.qB i a _ hi (VR e)
 exact .eu S I l (dI.bu (g:=⟨g.F,g.F,g.α.take i⟩) (g':=g) (fr:=fun q9=>kD) ⟨nI.bc _,List.take_prefix _ _,fun q9 z=>(z di).elim⟩ r)
def dI.jV:∀{xs:ao aC}{i:af}{vs:ao aH}{x:aC},dI W g xs vs→xs[i]? =ac x→∃v,vs[i]? =ac v∧c7 W g x v:=by
 intro xs
 induction xs with
 |nil=>
  intro i
  rcases i with _|_
  ·intro _ _ _ h
   exact bn h
  ·intro _ _ _ h
   exact bn h
 |cons _ _ ih=>
  intro i
  rcases i with _|i
  ·intro _ _ r h
   obtain ⟨v,_,e,a,_⟩:=r;exact ⟨v,e▸ag,cp h▸a⟩
  ·intro _ _ r h
   obtain ⟨_,_,e,_,b⟩:=r;exact e▸ih (i:=i) b h
def Ah(hW:l9 W)(S:bZ W g σ s){v:aH}{c:af}{fs:ao aC}{nm:aI}{m:aC}{K:KE}(I:MR W g s v c fs)(h:AN W.T c fs nm=ac m)(k:K m σ):Wp W A (getAttr v nm ak) (VP W g K) s:=by
 refine aw fun kz=>?_
 obtain ⟨a,kc,vs,d,od,mm,rfl,hk,F,l,r,IA,ns⟩:=I.ex
 obtain ⟨kc',xw,h⟩:=bo h
 refine kz ?_;try clear kz
 rw [hk] at xw
 obtain rfl:=cp xw
 refine aw fun kz=>?_
 obtain ⟨j,hj,hm⟩:=bo h
 obtain ⟨u,hu,ru⟩:=r.jV hm
 refine kz ?_;try clear kz
 have C:=hW.e6 c kc hk
 have fj:=Qt hj
 exact get_value (S.Ld hW) IA C.yY (findObj_own C.FW (C.cu nm (gM fj)) ag (by (rewrite [FY ns];refine aq (F.eb j nm u fj hu) ?_;rfl))) (ru.aeq hW) (VP.m (S.uc _) ru k)
def NA(hW:l9 W)(S:bZ W g σ s){v:aH}{o:aC}{nm:aI}{K:KE}(h1:c7 W g o v)(h:oi (Ej W.T σ o nm) fun m=>K m σ):Wp W A (getAttr v nm ak) (VP W g K) s:=by
 refine aw fun kz=>?_
 obtain ⟨m,h,k⟩:=fk h
 refine kz ?_;try clear kz
 rcases gC h with ⟨_,h2⟩|⟨i,hi,h2⟩
 ·refine aw fun kz=>?_
  obtain ⟨p,hp,h3⟩:=bo h2
  obtain ⟨x,hx,hp⟩:=bo hp
  obtain rfl:=jm hx
  obtain rfl:=CB hp
  obtain ⟨y,hy,rfl⟩:=cK h3
  refine kz ?_;try clear kz
  refine Ah hW S (Lf S h1) ?_ k
  refine aw fun kz=>?_
  obtain ⟨kc,e1,hy⟩:=bo hy
  obtain ⟨j,e2,hy⟩:=bo hy
  refine kz ?_;try clear kz
  unfold AN
  (refine aq e1 ?_;rewrite [ri];refine aq e2 ?_;rewrite [ri,j9];refine aq hy ?_);rfl
 ·refine aw fun kz=>?_
  obtain rfl:=VS hi
  obtain ⟨p,hp,h3⟩:=bo h2
  refine kz ?_;try clear kz
  exact Ah hW S (Ua S h1 hp) h3 k
def vd{i:aN}{n p:af}(h:iH i n=ac p):p<n∧-(2 ^ 62)<i∧i<2 ^ 62+n∧seqIndex? i n=ac p∧((0≤i∧i<2 ^ 62∧i.toNat=p)∨(i<0∧-(n:aN)≤i∧(i+n).toNat=p)):=by
 unfold iH at h
 have TN:∀{j:aN},0≤j→j<n→(if (dc (0≤j)&&dc (j<n))=ak then ac j.toNat else au)=ac j.toNat:=fun h1 h2=>bD (by (refine aq (jx h1) ?_;refine aq (jx h2) ?_);rfl)
 unfold seqIndex?
 by_cases q:0≤i
 ·rw [bD q] at h
  obtain ⟨c,h⟩:=d4 h
  obtain rfl:=cp h
  refine aq (cL (Eb.mpr q)) ?_
  exact ⟨Ut q c.1,Mg (by decide) q,Mg c.2 (Int.le_add_of_nonneg_right (wA n)),TN q c.1,.inl ⟨q,c.2,ag⟩⟩
 ·rw [cL q] at h
  obtain ⟨c,h⟩:=d4 h
  obtain rfl:=cp h
  refine aq (bD (Mh.mp q)) ?_
  exact ⟨by lia,c.2,by lia,TN c.1 (by lia),.inr ⟨Mh.mp q,by lia,ag⟩⟩
def Jw{F:cr}(k:iF):∀{es:ao (iF×am)}{kvs:ao (iF×aH)},jl W F es kvs→(∀x,fD k es=ac x→∃w,valueAt kvs k=ac w∧iE W F x w)∧(fD k es=au→valueAt kvs k=au):=by
 intro es
 induction es with
 |nil=>
  intro kvs h
  exact ⟨(fun q9 z=>bn z),fun q9=>h▸ag⟩
 |cons e es ih=>
  intro kvs h
  refine aw fun kz=>?_
  obtain ⟨v,us,rfl,r1,r2⟩:=h
  refine kz ?_;try clear kz
  have ih:=ih r2
  unfold fD valueAt at ih⊢
  rw [ym,ym]
  by_cases q:e.1=k
  ·refine aq (jx q) ?_
   exact ⟨fun x e=>⟨v,ag,cp e▸r1⟩,fun z=>bn (Eq.symm z)⟩
  ·refine aq (wu q) ?_
   exact ih
def Ai(S:bZ W g σ s){k:cF aN aI}{o:aC}{x:am}{v u:aH}{t:mO}{value slice:aT}{K:KE}(h1:c7 W g o v)(h:zn σ o k=ac x)(hs:∀o i,L4 slice aF o i=operate [o,i] (yp o i))(q:K (.f x) σ):Wp W A (subscriptTail value slice v (Qm k t)) (VP W g K) s:=by
 refine aw fun kz=>?_
 obtain ⟨es,h2,h3⟩:=bo h
 obtain ⟨j,hj,h2⟩:=bo h2
 obtain rfl:=oo hj
 obtain ⟨a,rfl,hi⟩:=h1
 obtain ⟨_,_,ob,kvs,f,hd,er⟩:=S.FU hi h2
 have hD:s.heap.DictOf (kj W.cY W.w) a kvs:=D9.mpr ⟨ob,f,hd⟩
 obtain ⟨w,hw,Qu⟩:=(Jw k er).1 x h3
 refine kz ?_;try clear kz
 have kk:MQ k (Qm k t)=ak:=by
  induction k<;>exact ug _
 exact Ht hD.typeIs aaJ.lookup (aaN (knd:=kj W.cY W.w) (k:=k) kk hD.mapOf hw (VP.f (S.uc _) Qu q)) (hs _ _)
def Qv(hW:l9 W)(S:bZ W g σ s){value slice:aT}{v u:aH}{o i:aC}{K:KE}(h1:c7 W g o v)(h2:c7 W g i u)(h:oi (lN W.T σ o i) fun x=>K (.f x) σ)(hs:∀o i,L4 slice aF o i=operate [o,i] (yp o i)):Wp W A (subscriptTail value slice v u) (VP W g K) s:=by
 refine aw fun kz=>?_
 obtain ⟨x,h,q⟩:=fk h
 refine kz ?_;try clear kz
 rcases gC h with ⟨_,h3⟩|⟨k,hk,h3⟩
 ·refine aw fun kz=>?_
  obtain ⟨k,hk,h4⟩:=bo h3
  obtain rfl:=CD hk
  obtain ⟨t,rfl⟩:=h2
  refine kz ?_;try clear kz
  rcases gC h4 with ⟨_,h5⟩|⟨d,hd,h5⟩
  ·exact Ai (u:=.none) (k:=.inr k) S h1 h5 hs q
  ·refine aw fun kz=>?_
   obtain ⟨y,hy,hd⟩:=bo hd
   obtain rfl:=jm hy
   obtain rfl:=vP hd
   obtain rfl:v=.ref (W.m7 d):=h1
   obtain ⟨es,he,hx⟩:=bo h5
   obtain ⟨mf,hm,lo,hl⟩:=hW.n7 d es he
   have BR:=qY hm (h':=s.heap) fun b o e=>S.m9 e
   obtain ⟨w,hw,Qu⟩:=(hl k).2 x hx
   refine kz ?_;try clear kz
   exact Ht BR.typeIs aaJ.lookup (aaN (L6 W.cY W.w k t) BR hw (VP.f (S.uc _) (iE.bu S.m8 Qu) q)) (hs _ _)
 ·refine aw fun kz=>?_
  obtain rfl:=k9 hk
  obtain ⟨t,rfl⟩:=h2
  refine kz ?_;try clear kz
  rcases gC h3 with ⟨_,h5⟩|⟨y,hy,h5⟩
  ·exact Ai (u:=.none) (k:=.inl k) S h1 h5 hs q
  ·refine aw fun kz=>?_
   obtain ⟨p,hp,h6⟩:=bo h5
   obtain ⟨j,hj,hx⟩:=bo h6
   obtain ⟨l,vs,n,rfl,f,r⟩:=pj S h1 hy hp
   obtain ⟨w,hw,Qu⟩:=r.jV hx
   obtain ⟨q1,q2,q3,q4,q5⟩:=vd hj
   have fJ:VP W g K w s:=VP.f S Qu q
   obtain ⟨tp,xs⟩:=p
   refine kz ?_;try clear kz
   induction tp
   ·have hl:=eF f
    rcases q5 with ⟨a1,a2,a3⟩|⟨a1,a2,a3⟩
    ·exact Ht hl.typeIs aaK.lookup (wpAny_getItem_list hl a1 (by lia) (by (refine aq a3 ?_;rw [yj]);exact hw) fJ) (hs _ _)
    ·have e:vs.toArray.size=xs.length:=by refine aq jy ?_;exact r.bh
     exact Ht hl.typeIs aaK.lookup (wpAny_getItem_list_neg hl a1 (by refine aq e ?_;exact a2) (by lia) (by (refine aq e ?_;refine aq a3 ?_;rw [yj]);exact hw) fJ) (hs _ _)
   ·exact item_tupleT (l4 f) (by lia) (by lia) (by refine aq r.bh ?_;exact q4) hw fJ (hs _ _)
end
section
variable{W:Wd}{g:cZ}{σ:an}{s:bz}{A:dD}{d:af}{F:cr}
def cI.FZ:∀(p:af){xs:ao am}{vs:ao aH},cI W F xs vs→cI W F (xs.drop p) (vs.drop p):=by
 intro p
 induction p with
 |zero=>
  intro xs
  rcases xs with _|⟨_,_⟩
  ·intro _ h
   exact h
  ·intro _ h
   exact h
 |succ p ih=>
  intro xs
  rcases xs with _|⟨_,_⟩
  ·intro _ h
   exact h▸ag
  ·intro _ h
   obtain ⟨_,_,e,_,b⟩:=h;exact e▸ih b
def cI.kR:∀(p:af){xs:ao am}{vs:ao aH},cI W F xs vs→cI W F (xs.take p) (vs.take p):=by
 intro p
 induction p with
 |zero=>
  intro xs
  rcases xs with _|⟨_,_⟩
  ·intro _ h
   exact ag
  ·intro _ h
   exact ag
 |succ p ih=>
  intro xs
  rcases xs with _|⟨_,_⟩
  ·intro _ h
   exact h▸ag
  ·intro _ h
   obtain ⟨v,_,e,a,b⟩:=h;exact e▸⟨v,_,ag,a,ih b⟩
def cI.Za:∀(p:af){xs:ao am}{vs:ao aH},cI W F xs vs→cI W F (xs.eraseIdx p) (vs.eraseIdx p):=by
 intro p
 induction p with
 |zero=>
  intro xs
  rcases xs with _|⟨_,_⟩
  ·intro _ h
   cases h;exact ag
  ·intro _ h
   obtain ⟨_,_,e,_,b⟩:=h;exact e▸b
 |succ p ih=>
  intro xs
  rcases xs with _|⟨_,_⟩
  ·intro _ h
   cases h;exact ag
  ·intro _ h
   obtain ⟨v,_,e,a,b⟩:=h;exact e▸⟨v,_,ag,a,ih b⟩
def cI.Et{v:aH}{x:am}(q:iE W F x v):∀(p:af){xs:ao am}{vs:ao aH},cI W F xs vs→cI W F (xs.set p x) (vs.set p v):=by
 intro p
 induction p with
 |zero=>
  intro xs
  rcases xs with _|⟨_,_⟩
  ·intro _ h
   cases h;exact ag
  ·intro _ h
   obtain ⟨_,_,e,_,b⟩:=h;exact e▸⟨v,_,ag,q,b⟩
 |succ p ih=>
  intro xs
  rcases xs with _|⟨_,_⟩
  ·intro _ h
   cases h;exact ag
  ·intro _ h
   obtain ⟨u,_,e,a,b⟩:=h;exact e▸⟨u,_,ag,a,ih b⟩
def cI.CJ{vs:ao aH}{xs:ao am}(r:cI W F xs vs)(lo hi:aM af):cI W F (Mine.CJ xs lo hi) (Mine.CJ vs lo hi):=by
 unfold Mine.CJ;refine aq r.bh ?_;exact (r.kR _).FZ _
def Dc{u:aH}{m:aC}{l:aM af}(h:c7 W g m u)(e:v0 m=ac l):Hp u (l.map fun n=>(n:aN)):=by
 rcases gC e with ⟨_,e⟩|⟨i,hi,e⟩
 ·cases q:m.gT
  ·rw [q] at e;exact bn e
  ·rw [q] at e
   obtain rfl:=CC q
   obtain rfl:=cp e
   cases h
   exact .none
 ·refine aw fun kz=>?_
  obtain rfl:=k9 hi
  obtain ⟨c,e⟩:=d4 e
  refine kz ?_;try clear kz
  obtain rfl:=cp e
  refine aw fun kz=>?_
  obtain ⟨t,rfl⟩:=h
  refine kz ?_;try clear kz
  have:((i.toNat:af):aN)=i:=aaQ c.1
  show Hp _ (ac _)
  refine aq this ?_;exact .int _ _
def Jx{u:aH}{k:af}(h:Hp u ((ac k).map fun n=>(n:aN))):∃t,u=.int k t:=by
 cases h with
 |int i t=>exact ⟨t,ag⟩
def VX(vs:ao aH)(lo hi:aM af):slicePick vs.toArray (lo.map fun n=>(n:aN)) (hi.map fun n=>(n:aN)) au=(Mine.CJ vs lo hi).toArray:=by
 rw [slicePick_plain]
 congr 1
 unfold Mine.CJ
 have e1:(lo.map fun n=>(n:aN)).elim 0 (clipAt vs.toArray.size)=min (lo.getD 0) vs.length:=by
  induction lo
  ·exact (Nat.zero_min _).symm
  ·exact clipAt_nat ..
 have e2:(hi.map fun n=>(n:aN)).elim vs.toArray.size (clipAt vs.toArray.size)=min (hi.getD vs.length) vs.length:=by
  induction hi
  ·exact (ZZ _).symm
  ·exact clipAt_nat ..
 (refine aq e1 ?_;refine aq e2 ?_;refine aq List.drop_take ?_)
 have tk:∀(n:af)(l:ao aH),l.length≤n→l.take n=l:=fun n l h=>Hb h
 by_cases q:lo.getD 0≤vs.length
 ·refine aq (DN q) ?_
  by_cases q2:hi.getD vs.length≤vs.length
  ·(refine aq (DN q2) ?_;rfl)
  ·have q2:=ZU q2
   rw [ZV q2,tk _ _ (by refine aq DX ?_;exact c9 _),tk _ _ (by refine aq DX ?_;exact Nat.sub_le_sub_right q2 _)]
 ·have q:=ZU q
  (refine aq (ZV q) ?_;refine aq (aaa (c9 _)) ?_;refine aq (aaa q) ?_;refine aq aay ?_;refine aq aay ?_;rfl)
def NB{t sl:be}{vs:ao aH}{a:af}{u:mO}{Q:aH→bz→Prop}(ht:IsTup s.heap t vs.toArray)(hs:s.heap.IsSliceOf sl (.int a u) .none .none)(ha:a≤vs.length)(hsz:vs.length≤100000)
  (h0:a=0→Q (.ref t) s) (h:Q (.ref s.heap.objs.size) {s with heap:=s.heap.push {cls:=.type "tuple",data:=.seq (vs.drop a).toArray}}):Wp W A (yp (.ref t) (.ref sl)) Q s:=by
 by_cases q:1≤a
 ·exact getItem_tuple_from ht hs q (by refine aq jy ?_;exact ha) h (by refine aq jy ?_;unfold oN;lia)
 ·obtain rfl:a=0:=Rs.mp (Rq q)
  obtain ⟨os,hos,hcs,hds⟩:=id hs
  have hTs:s.TypeIs (.ref sl) "slice":=⟨os,hos,hcs⟩
  unfold Wp yp
  try with_reducible refine jI ?_
  first|refine bV (fV ?_)|skip
  refine bV (wpAny_sequenceKey ht.typeIs (by decide) ?_)
  refine bV (wpAny_callSpecial?_slot (name:=mP "__getitem__") ht.typeIs Su (wpAny_call_entry Su ht.typeIs entry_tuple_getitem ?_ (args_tuple_getitem _ _)))
  refine bV (m:=afK (.ref t)) (tupleItemsOf_ ht ?_)
  refine bV (wpAny_typeOf hTs ?_)
  refine aq (bD (by decide)) ?_
  refine bV (sliceApplied_from hs (fC _) ?_)
  show rm _ _ (if (((0:af):aN)==0&&(1:aN)==1&&(vs.toArray.size-0)==vs.toArray.size)=ak then _ else _) _ _ s
  rw [bD (by (rewrite [Nat.sub_zero];refine aq (ug (vs.toArray.size)) ?_;rw [Rk]);rfl)]
  refine bV (m:=abb (.ref t)) ?_
  unfold abb
  refine bV (wpAny_typeOf ht.typeIs (fV ?_))
  refine aq (bD (by decide)) ?_
  exact bV (Sf (fV ⟨_,ag,fV (h0 ag)⟩))
def NC{a sl:be}{vs:ao aH}{n:af}{xs:ao am}{lv hv:aH}{l r:aM af}{fz:av}{K:KE}(S:bZ W g σ s)(f:s.heap.get? a=ac (cw "list" vs n))(q:cI W g.F xs vs)(hs:s.heap.IsSliceOf sl lv hv .none)(pl:Hp lv (l.map fun n=>(n:aN)))(pr:Hp hv (r.map fun n=>(n:aN)))(c:xs.length≤100000)(k:gX (jJ σ fz (CJ xs l r)) K):Wp W A (yp (.ref a) (.ref sl)) (VP W g K) s:=by
 have c:vs.length≤100000:=by refine aq q.bh ?_;exact c
 refine wpAny_getItem_list_slice (eF f) hs pl pr .none (fun z=>bn z) ?_ (by refine aq jy ?_;unfold oN;lia)
 rw [VX]
 exact se S (q.CJ l r) k
def Qw{a sl:be}{vs:ao aH}{n m:af}{xs:ao am}{u:mO}{K:KE}(S:bZ W g σ s)(f:s.heap.get? a=ac (cw "tuple" vs n))(q:cI W g.F xs vs)(hr:iE W g.F (.bE xs) (.ref a))(hs:s.heap.IsSliceOf sl (.int m u) .none .none)(c:m≤xs.length∧xs.length≤100000)(k:K (.f (.bE (xs.drop m))) σ):Wp W A (yp (.ref a) (.ref sl)) (VP W g K) s:=by
 refine NB (l4 f) hs (by refine aq q.bh ?_;exact c.1) (by refine aq q.bh ?_;exact c.2) (fun e=>?_) ?_
 ·subst e
  exact VP.f S hr k
 ·obtain ⟨S2,le⟩:=(S.dh {cls:=.type "tuple",data:=.seq (vs.drop m).toArray}).yW (rN _ ag) (S.DG (c9 _)) (S.sZ (c9 _)) fun i hi=>bW (gM hi) (S.gm (c9 _))
  refine ⟨_,_,_,le,?_,S2,k⟩
  exact ⟨_,_,_,ag,cr.d9 _ _ _,(q.FZ m).bu le.F⟩
def Kg(S:bZ W g σ s){v lv hv:aH}{o lo hi:aC}{fz:av}{K:KE}(h1:c7 W g o v)(h2:c7 W g lo lv)(h3:c7 W g hi hv)(h:gX (lO σ fz o lo hi) K):
  ∃T' id,typeLookup (.type T') "__getitem__"=dM (ac (.builtin id))∧({s with heap:=s.heap.push {cls:=.type "slice",data:=.fields #[lv,hv,.none]}}:bz).TypeIs v T'∧
   Wp W A (yp v (.ref s.heap.objs.size)) (VP W g K) {s with heap:=s.heap.push {cls:=.type "slice",data:=.fields #[lv,hv,.none]}}:=by
 refine aiV fun G fJ=>?_
 refine aw fun kz=>?_
 obtain ⟨l,hl,k1⟩:=cg h
 obtain ⟨r,hr,k2⟩:=cg k1
 obtain ⟨x,hx,k3⟩:=cg k2
 refine kz ?_;try clear kz
 have S1:=S.dh {cls:=.type "slice",data:=.fields #[lv,hv,.none]}
 have pl:=Dc h2 hl
 have pr:=Dc h3 hr
 rcases sg k3 with ⟨_,k4⟩|⟨p,hp,k4⟩
 ·refine aw fun kz=>?_
  obtain ⟨z,hz,k5⟩:=cg k4
  obtain rfl:=Ba hz
  refine kz ?_;try clear kz
  induction l with
  |some _=>induction k5
  |none=>
  refine aw fun kz=>?_
  obtain ⟨b,hb,k6⟩:=cg k5
  obtain ⟨c,k7⟩:=la k6
  refine kz ?_;try clear kz
  cases hb
  cases pl
  refine aw fun kz=>?_
  obtain ⟨t,rfl⟩:=xD h1 hx ag
  obtain ⟨u,rfl⟩:=Jx pr
  have KH:KeptH fun h'=>(∀b ob,s.heap.get? b=ac ob→h'.get? b=ac ob)∧s.heap.objs.size≤h'.objs.size:=fun h' ob p=>⟨fun b o e=>ql _ (p.1 b o e),by rw [Mf];lia⟩
  obtain ⟨T',id,a1,a2,a3⟩:=SBH.sliceItem_ns (prog:=W.cY) (w:=W.w) (A:=A) (E:=fun q9 q9=>dj) (x:=z) (t:=t) (j:=b) (uj:=u) (s:=s) (Q:=VP W g K) KH ⟨fun q9 q9 e=>e,c9 _⟩ (fun h' t' tk p=>VP.ah (S.jP _ p.1) k7) (by unfold oN;lia)
  refine kz ?_;try clear kz
  exact fJ ⟨T',id,a1,a2,a3⟩
 ·refine aw fun kz=>?_
  obtain ⟨a,vs,n,rfl,f,q⟩:=pj S1 h1 hx hp
  obtain ⟨tp,xs⟩:=p
  refine kz ?_;try clear kz
  induction tp
  ·obtain ⟨c,k5⟩:=la k4
   exact fJ ⟨"list",_,list_getitem_lookup,(eF f).typeIs,NC S1 f q (abf ..) pl pr c k5⟩
  ·induction r with
   |some _=>induction k4
   |none=>
   refine aw fun kz=>?_
   obtain ⟨k,hk,k5⟩:=cg k4
   obtain ⟨c,k6⟩:=la k5
   refine kz ?_;try clear kz
   cases hk
   cases pr
   refine aw fun kz=>?_
   obtain ⟨u,rfl⟩:=Jx pl
   obtain rfl:=xC hp
   refine kz ?_;try clear kz
   exact fJ ⟨"tuple",_,Su.lookup,(l4 f).typeIs,Qw S1 f q (xD h1 hx ag) (abf ..) c k6⟩
end
end
section
open PySem PySem.W PySem.Spec PyProof.Rows PySem.Calls SeqAt
noncomputable def xF(W:Wd):rP→aH
 |.eA=>.builtin "list.append" |.g6=>.builtin "list.pop" |.jV=>.builtin "dict.get" |.Ig=>.builtin "dict.get" |.fn g=>.ref (W.lJ g)
section
variable{W:Wd}{g:cZ}{σ:an}{s:bz}{A:dD}{d:af}{F:cr}
def w9(S:bZ W g σ s){i:af}{a:be}{vs:ao aH}{n:af}{f:kC aH→kC aH}{Xt:ao aH}{xs':ao am}(hi:g.α[i]? =ac a)(hF:g.F a=au)(e:s.heap.get? a=ac (cw "list" vs n))(ef:f vs.toArray=Xt.toArray)(r:cI W g.F xs' Xt)(tk:af):
  bZ W g (σ.set i (ac (.al xs'))) {s with heap:=s.heap.update a (Obj.mapSeq f),toks:=tk}:=by
 have u:=abh (h:=s.heap) (l:=a) e f
 rw [ef] at u
 exact S.afo tk hi hF (abg ..) ⟨hF,Xt,_,u,r⟩ ⟨_,u⟩
def jl.Ub:∀{es:ao (iF×am)}{kvs:ao (iF×aH)}(k:iF),jl W F es kvs→kvs.any (fun kv=>kv.1=k)=es.any (fun kv=>kv.1=k)
 |[],_,_,h=>h▸ag
 |e::es,_,k,h=>by
  refine aw fun kz=>?_
  obtain ⟨v,us,rfl,_,r⟩:=h
  refine kz ?_;try clear kz
  (refine aq LU ?_;refine aq LU ?_;refine aq (r.Ub k) ?_;rfl)
def jl.bh:∀{es:ao (iF×am)}{kvs:ao (iF×aH)},jl W F es kvs→kvs.length=es.length:=by
 intro es
 induction es with
 |nil=>
  intro _ h
  exact h▸ag
 |cons e es ih=>
  intro _ h
  obtain ⟨v,us,rfl,_,r⟩:=h
  exact a7 tr (ih r)
def jl.T8{k:iF}{v:aH}{x:am}(q:iE W F x v):∀{es:ao (iF×am)}{kvs:ao (iF×aH)},jl W F es kvs→jl W F (es++[(k,x)]) (kvs++[(k,v)]):=by
 intro es
 induction es with
 |nil=>
  intro _ h
  cases h;exact ⟨v,[],ag,q,ag⟩
 |cons e es ih=>
  intro _ h
  obtain ⟨u,_,z,a,b⟩:=h;exact z▸⟨u,_,ag,a,(ih b)⟩
def jl.fW{k:iF}{v:aH}{x:am}(q:iE W F x v):∀{es:ao (iF×am)}{kvs:ao (iF×aH)},jl W F es kvs→jl W F (es.map fun kv=>if kv.1=k then (kv.1,x) else kv) (kvs.map fun kv=>if kv.1=k then (kv.1,v) else kv):=by
 intro es
 induction es with
 |nil=>
  intro _ h
  exact h▸ag
 |cons e es ih=>
  intro _ h
  refine aw fun kz=>?_
  obtain ⟨u,us,rfl,a,b⟩:=h
  refine kz ?_;try clear kz
  (refine aq Hj ?_;refine aq Hj ?_)
  by_cases z:e.1=k
  ·(refine aq (bD z) ?_;refine aq (bD z) ?_);exact ⟨v,_,ag,q,(ih b)⟩
  ·(refine aq (cL z) ?_;refine aq (cL z) ?_);exact ⟨u,_,ag,a,(ih b)⟩
def jl.VY{es:ao (iF×am)}{kvs:ao (iF×aH)}{k:iF}{v:aH}{x:am}(r:jl W F es kvs)(q:iE W F x v):jl W F (hY es k x) (aaH kvs k v):=by
 unfold aaH hY
 refine aq (r.Ub k) ?_
 by_cases z:es.any (fun kv=>kv.1=k)=ak
 ·(refine aq (bD z) ?_;refine aq (bD z) ?_);exact r.fW q
 ·(refine aq (cL z) ?_;refine aq (cL z) ?_);exact r.T8 q
def OO{x:am}{k:iF}{v:aH}(h:lA x=ac k)(r:iE W F x v):MQ k v=ak:=by
 cases x<;>first|exact bn h|(obtain rfl:=cp h;obtain ⟨t,rfl⟩:=r;exact ug _)
def H5(hW:l9 W)(S:bZ W g σ s){o i v:aC}{ov iv vv:aH}{K:an→Prop}(h1:c7 W g o ov)(h2:c7 W g i iv)(h3:c7 W g v vv)(h:oi (o6 σ o i v) K):Wp W A (setItem ov iv vv) (TP W g fun (_:jE) bS=>K bS) s:=by
 refine aw fun kz=>?_
 obtain ⟨bS,h,k⟩:=fk h
 obtain ⟨j,hj,h⟩:=bo h
 obtain ⟨x,hx,h⟩:=bo h
 obtain rfl:=oo hj
 obtain rfl:=jm hx
 obtain ⟨a,rfl,hi⟩:=h1
 refine kz ?_;try clear kz
 rcases gC h with ⟨_,h4⟩|⟨xs,hxs,h4⟩
 ·refine aw fun kz=>?_
  obtain ⟨es,he,h5⟩:=bo h4
  obtain ⟨c,h6⟩:=d4 h5
  obtain ⟨q,hq,rfl⟩:=cK h6
  obtain ⟨y,hy,hq⟩:=bo hq
  obtain rfl:=jm hy
  obtain ⟨hF,hsy,ob,kvs,f,hd,er⟩:=S.FU hi he
  refine kz ?_;try clear kz
  have hD:s.heap.DictOf (kj W.cY W.w) a kvs:=D9.mpr ⟨ob,f,hd⟩
  refine wpAny_setItem_pairs (hsz:=by refine aq er.bh ?_;unfold oN;lia) (OO hq h2) hD fun h' hD' hs=>?_
  refine aw fun kz=>?_
  obtain ⟨o',g',hd'⟩:=D9.mp hD'
  refine kz ?_;try clear kz
  exact ⟨_,g,.bc _,S.afo (mo:=.dK (hY es q x)) _ hi hF hs ⟨hF,hsy,o',_,g',hd',er.VY h3⟩ ⟨_,g'⟩,k⟩
 ·refine aw fun kz=>?_
  obtain ⟨n,hn,h5⟩:=bo h4
  obtain rfl:=k9 hn
  obtain ⟨c,h6⟩:=d4 h5
  obtain ⟨p,hp,rfl⟩:=cK h6
  obtain ⟨t,rfl⟩:=h2
  obtain ⟨hF,vs,m,f,q⟩:=S.wf hi hxs
  obtain ⟨q1,q2,q3,q4,q5⟩:=vd hp
  refine kz ?_;try clear kz
  rcases q5 with ⟨a1,a2,a3⟩|⟨a1,_,_⟩
  ·refine ki_setAt f a1 (by lia) (by (refine aq jy ?_;refine aq q.bh ?_);lia) ?_
   refine aq a3 ?_
   exact ⟨_,g,.bc _,w9 S hi hF f (List.setIfInBounds_toArray ..) (q.Et h3 p) s.toks,k⟩
  ·lia
def dI.qb{vs:ao aH}{args:ao aC}{a:aC}(h:dI W g args vs)(e:Pb args=ac a):∃v,vs=[v] ∧c7 W g a v:=by
 rcases args with _|⟨a,_|⟨b,r⟩⟩<;>first|exact bn e|skip
 obtain rfl:=cp e
 refine aw fun kz=>?_
 obtain ⟨v,us,rfl,r,rfl⟩:=h
 refine kz ?_;try clear kz
 exact ⟨v,ag,r⟩
def dI.TN{vs:ao aH}{args:ao aC}{p:aC×aC}(h:dI W g args vs)(e:acw args=ac p):∃v u,vs=[v,u] ∧c7 W g p.1 v∧c7 W g p.2 u:=by
 rcases args with _|⟨a,_|⟨b,_|⟨c,r⟩⟩⟩<;>first|exact bn e|skip
 obtain rfl:=cp e
 refine aw fun kz=>?_
 obtain ⟨v,us,rfl,r,u,ws,rfl,r',rfl⟩:=h
 refine kz ?_;try clear kz
 exact ⟨v,u,ag,r,r'⟩
def F0(S:bZ W g σ s){i p:af}{a:be}{xs:ao am}{K:KE}{vs:ao aH}{n:af}(hi:g.α[i]? =ac a)(hF:g.F a=au)(f:s.heap.get? a=ac (cw "list" vs n))(q:cI W g.F xs vs)(h:gX (SB σ i xs p) K):vs.length≤100000∧∃w,vs[p]? =ac w∧VP W g K w {s with heap:=s.heap.update a (Obj.mapSeq fun ys=>ys.eraseIdxIfInBounds p)}:=by
 refine aw fun kz=>?_
 obtain ⟨c,h⟩:=la h
 obtain ⟨m,bS,h,k⟩:=jD h
 obtain ⟨x,hx,e⟩:=cK h
 obtain ⟨w,hw,Qu⟩:=q.jV hx
 refine kz ?_;try clear kz
 cases e
 exact ⟨by refine aq q.bh ?_;exact c,w,hw,VP.f (w9 S hi hF f (Xt:=vs.eraseIdx p) (List.eraseIdxIfInBounds_toArray ..) (q.Za p) s.toks) Qu k⟩
def ta(hW:l9 W)(S:bZ W g σ s){v:aH}{vs:ao aH}{o:aC}{args:ao aC}{K:KE}:∀{κ:rP},c7 W g o v→dI W g args vs→gX (kG W.T σ κ o args) K→Wp W A (gH (xF W κ) (v::vs)) (VP W g K) s
 |.eA,h1,h2,h=>by
  refine aw fun kz=>?_
  obtain ⟨i,hi,h3⟩:=cg h
  obtain ⟨xs,hx,h4⟩:=cg h3
  obtain ⟨x,hf,h5⟩:=cg h4
  obtain ⟨y,hy,hf⟩:=bo hf
  obtain ⟨u,rfl,r⟩:=h2.qb hy
  obtain rfl:=jm hf
  obtain rfl:=oo hi
  obtain ⟨c,h6⟩:=la h5
  obtain ⟨a,rfl,hi⟩:=h1
  obtain ⟨hF,us,n,f,q⟩:=S.wf hi hx
  refine kz ?_;try clear kz
  exact D5 So ⟨_,f,ag⟩ aa0 (aaZ _ _) (aaz a us.toArray n u (by (refine aq jy ?_;refine aq q.bh ?_);unfold oN;lia)) ⟨f,VP.f (x:=.aA) (w9 S hi hF f (Xt:=us++[u]) (aam ..) (q.T8 (.qb r)) s.toks) ag h6⟩
 |.g6,h1,h2,h=>by
  refine aw fun kz=>?_
  obtain ⟨i,hi,h3⟩:=cg h
  obtain ⟨xs,hx,h4⟩:=cg h3
  obtain rfl:=oo hi
  obtain ⟨a,rfl,hi⟩:=h1
  obtain ⟨hF,us,n,f,q⟩:=S.wf hi hx
  refine kz ?_;try clear kz
  rcases sg h4 with ⟨_,h5⟩|⟨m,hm,h5⟩
  ·refine aw fun kz=>?_
   obtain ⟨ce,h6⟩:=zQ h5
   obtain rfl:=o4.mp ce
   refine kz ?_;try clear kz
   cases h2
   refine aw fun kz=>?_
   obtain ⟨c,w,hw,V⟩:=F0 S hi hF f q h6
   refine kz ?_;try clear kz
   have e:us.toArray.size-1=xs.length-1:=by (refine aq jy ?_;refine aq q.bh ?_;rfl)
   refine D5 Sp ⟨_,f,ag⟩ aa3 (PySem.F.args_list_pop_1 _) (afL a us.toArray n w (by (refine aq e ?_;rw [yj]);exact hw) (by refine aq jy ?_;unfold oN;lia)) ⟨f,?_⟩
   refine aq e ?_
   exact V
  ·refine aw fun kz=>?_
   obtain ⟨k,hk,h6⟩:=cg h5
   obtain ⟨p,hp,h7⟩:=cg h6
   obtain ⟨u,rfl,r⟩:=h2.qb hm
   obtain rfl:=k9 hk
   obtain ⟨t,rfl⟩:=r
   obtain ⟨c,w,hw,V⟩:=F0 S hi hF f q h7
   obtain ⟨q1,q2,q3,q4,q5⟩:=vd hp
   refine kz ?_;try clear kz
   rw [q.bh] at c
   exact D5 Sp ⟨_,f,ag⟩ aa3 (PySem.F.args_list_pop_2 _ _) (afM a us.toArray n k t p w (by unfold abc;(refine aq (jx (by lia)) ?_;refine aq (jx (by lia)) ?_);rfl) (by (refine aq jy ?_;refine aq q.bh ?_);exact q4) (by rw [yj];exact hw) (by (refine aq jy ?_;refine aq q.bh ?_);unfold oN;lia)) ⟨f,V⟩
 |.jV,h1,h2,h=>by
  refine aw fun kz=>?_
  obtain ⟨i,hi,h3⟩:=cg h
  obtain ⟨es,he,h4⟩:=cg h3
  obtain ⟨m,bS,h5,k⟩:=jD h4
  obtain ⟨z,hz,e⟩:=cK h5
  obtain ⟨y,hy,hz⟩:=bo hz
  obtain ⟨u,rfl,r⟩:=h2.qb hy
  obtain rfl:=CD hz
  obtain ⟨t,rfl⟩:=r
  obtain rfl:=oo hi
  obtain ⟨a,rfl,hi⟩:=h1
  refine kz ?_;try clear kz
  cases e
  refine aw fun kz=>?_
  obtain ⟨hF,hsy,ob,kvs,f,hd,er⟩:=S.FU hi he
  refine kz ?_;try clear kz
  have hD:s.heap.DictOf (kj W.cY W.w) a kvs:=D9.mpr ⟨ob,f,hd⟩
  refine call_meetsIn Mk hD.typeIs aa4 (PySem.F.args_dict_get_2 _ _) (meets_dict_get (kj W.cY W.w) a (k:=Mo z) (ug _) hsy) ⟨_,hD.mapOf,?_⟩
  refine VP.f (S.uc _) ?_ k
  obtain ⟨d1,d2⟩:=Jw (.inr z) er
  cases hf:fD (.inr z) es with
  |none=>refine aq (d2 hf) ?_;exact ag
  |some x=>obtain ⟨w,hw,Qu⟩:=d1 x hf;refine aq hw ?_;exact Qu
 |.Ig,h1,h2,h=>by
  refine aw fun kz=>?_
  obtain ⟨d,hd,h3⟩:=cg h
  obtain ⟨y,hy,hd⟩:=bo hd
  obtain ⟨p,hp,h4⟩:=cg h3
  obtain ⟨z,hz,h5⟩:=cg h4
  obtain ⟨x,hx,h6⟩:=cg h5
  obtain ⟨m,bS,h7,k⟩:=jD h6
  obtain ⟨es,he,e⟩:=cK h7
  obtain ⟨u,w,rfl,r1,r2⟩:=h2.TN hp
  rw [CD hz] at r1
  rw [jm hx] at r2
  obtain ⟨t,rfl⟩:=r1
  obtain rfl:=jm hy
  obtain rfl:=vP hd
  obtain rfl:v=.ref (W.m7 d):=h1
  refine kz ?_;try clear kz
  cases e
  refine aw fun kz=>?_
  obtain ⟨mf,hm,lo,hl⟩:=hW.n7 _ es he
  refine kz ?_;try clear kz
  have BR:=qY hm (h':=s.heap) fun b o e=>S.m9 e
  refine call_meetsIn Mk BR.typeIs aa4 (PySem.F.args_dict_get_3 _ _ _) (meets_dict_get_default (strKind W.cY W.w) _ (k:=z) (L6 W.cY W.w z t) lo _) ⟨_,BR,?_⟩
  refine VP.f (S.uc _) ?_ k
  cases q:es.lookup z with
  |none=>refine aq ((hl z).1 q) ?_;exact r2
  |some y=>obtain ⟨v,e,r⟩:=(hl z).2 y q;refine aq e ?_;exact iE.bu S.m8 r
 |.fn _,_,_,h=>rt h
end
noncomputable def F1:ao aH:=[.builtin "len",.type "list",.builtin "max",.builtin "min",.builtin "abs",.type "int",.builtin "repr",.builtin "sorted",.builtin "isinstance",.type "bool",.type "str"]
def tQ(k:af):aH:=(F1[k]?).getD (.type "tuple")
def VZ:∀{xs:ao am}{is:ao aN},Hy xs=ac is→xs=is.map .ae:=by
 intro xs
 induction xs with
 |nil=>
  intro is h
  obtain rfl:=cp h;rfl
 |cons x xs ih=>
  intro is h
  cases x<;>first|exact bn h|(obtain ⟨r,k,rfl⟩:=cK h;refine aq (ih k) ?_;rfl)
def V0:∀{xs:ao am}{is:ao aI},Sx xs=ac is→xs=is.map .ah:=by
 intro xs
 induction xs with
 |nil=>
  intro is h
  obtain rfl:=cp h;rfl
 |cons x xs ih=>
  intro is h
  cases x<;>first|exact bn h|(obtain ⟨r,k,rfl⟩:=cK h;refine aq (ih k) ?_;rfl)
def Dd{xs:kC (aN×mO)}{i:aN}{r:ao aN}(h:xs.toList.map (·.1)=i::r){f:aN→aN→aN}{c:aN→aN→av}(hc:∀a b,f a b=if c b a=ak then b else a):∀k,k≤r.length→D8 xs (argBest (fun i j=>c (D8 xs i) (D8 xs j)) k)=(r.take k).foldl f i:=by
 intro k
 induction k with
 |zero=>
  intro _
  have:(xs.toList.map (·.1))[0]? =ac i:=by refine aq h ?_;rfl
  rw [j9,Sr] at this
  unfold argBest D8
  refine aq this ?_;rfl
 |succ k ih=>
  intro hk
  have ih:=ih (ou hk)
  have hx:(xs.toList.map (·.1))[k+1]? =ac r[k] :=by (refine aq h ?_;rw [List.getElem?_cons_succ,ed])
  have hn:D8 xs (k+1)=r[k] :=by
   rw [j9,Sr] at hx
   unfold D8;refine aq hx ?_;rfl
  (refine aq (List.take_succ_eq_append_getElem hk) ?_;refine aq yk ?_;refine aq LP ?_;refine aq List.foldl_nil ?_;refine iu ih ?_;rewrite [hc,argBest];refine iu hn ?_)
  split<;>rfl
section
variable{W:Wd}{g:cZ}{σ:an}{s:bz}{A:dD}{d:af}{F:cr}
def cI.aer:∀{is:ao aN}{vs:ao aH},cI W F (is.map .ae) vs→∃xs:ao (aN×mO),vs.toArray=Ma xs.toArray∧xs.map (·.1)=is:=by
 intro is
 induction is with
 |nil=>
  intro _ h
  exact ⟨[],by cases h;unfold Ma;exact Array.map_empty.symm,ag⟩
 |cons i is ih=>
  intro _ h
  refine aw fun kz=>?_
  obtain ⟨v,us,rfl,⟨t,rfl⟩,r⟩:=h
  obtain ⟨xs,e,q⟩:=ih r
  refine kz ?_;try clear kz
  refine ⟨(i,t)::xs,?_,a7 (i:: ·) q⟩
  unfold Ma at e⊢
  rw [List.map_toArray] at e⊢
  (refine aq Hj ?_;refine aq (show us=_ from a7 Ss e) ?_;rfl)
def cI.aes:∀{is:ao aI}{vs:ao aH},cI W F (is.map .ah) vs→StrsAre vs is:=by
 intro is
 induction is with
 |nil=>
  intro _ h
  cases h;exact .nil
 |cons i is ih=>
  intro _ h
  obtain ⟨v,us,rfl,⟨t,rfl⟩,r⟩:=h
  exact .cons _ _ (ih r)
def Qx.aiZ{vs:ao aH}{is:ao aI}(h:StrsAre vs is):cI W F (is.map .ah) vs:=by
 induction h with
 |nil=>exact ag
 |cons y t r ih=>exact ⟨_,_,ag,⟨t,ag⟩,ih⟩
def ND:∀(p:aI)(l:ao aI),risingS p l=ak→(p::l).Pairwise (fun a b=>ltCps b.cps.toList a.cps.toList=aF):=by
 intro p l
 induction l generalizing p with
 |nil=>
  intro _
  exact List.pairwise_singleton _ _
 |cons x r ih=>
  intro h
  obtain ⟨h1,h2⟩:=gS h
  have h1:=G4 _ |>.mp h1
  have ih:=ih x h2
  refine afO (fun y hy=>?_) ih
  rcases eH.mp hy with rfl|hy
  ·exact h1
  ·have h2:=(List.pairwise_cons.mp ih).1 y hy
   rw [ltCps_eq] at h1 h2⊢
   exact wu (LV.mpr (RV (LV.mp (yi h1)) (LV.mp (yi h2))))
def NE:∀{l:ao aI},sortedS l=ak→l.Pairwise (fun a b=>ji a b=ak):=by
 intro l
 induction l with
 |nil=>
  intro _
  exact afP
 |cons p l ih=>
  intro h
  exact (ND p l h).imp fun {a b} q=>by
   rw [ltCps_eq] at q
   exact jx (LV.mp (yi q))
def NF(a b c:aI)(h1:ji a b=ak)(h2:ji b c=ak):ji a c=ak:=jx (RV (eX h1) (eX h2))
def NG(a b:aI):(ji a b||ji b a)=ak:=by
 rcases aax a.cps.toList b.cps.toList with h|h
 ·exact qS.mpr (.inl (jx h))
 ·exact qS.mpr (.inr (jx h))
def NH(a b:aI)(h:ji a b=ak)(h':ji b a=ak):a=b:=by
 have:=List.le_antisymm (eX h) (eX h')
 induction a with|mk a=>induction b with|mk b=>exact a7 _ (Array.toList_inj.mp this)
def Qy{ss ss':ao aI}(p:ss'.Perm ss)(h:sortedS ss'=ak):ss'=ss.mergeSort ji:=
 abe (le:=fun a b=>ji a b=ak) (fun a b q9 q9=>NH a b) (NE h) (Z7 NF NG ss) (p.trans (RG ss ji).symm)
def NI{n:af}(h:n<10 ^ 10):n.log2<1920:=by
 by_cases q:n=0
 ·subst q;decide
 ·exact iN ((Nat.log2_lt q).mpr (iN h (by decide:10 ^ 10≤2 ^ 34))) (by decide)
def NJ{x:am}{t:aI}(h:iA x=ac t):∃c:I4,x=c.x:=by
 cases x<;>first|exact bn h|exact ⟨.aA,ag⟩|exact ⟨.aG _,ag⟩|exact ⟨.ae _,ag⟩|exact ⟨.ah _,ag⟩
def NK(S:bZ W g σ s){K:KE}{t:aI}(k:K (.f (.ah t)) σ){v:aH}:∀{c:I4},iE W g.F c.x v→iA c.x=ac t→Wp W A (gH (.builtin "repr") [v]) (VP W g K) s
 |.aA,r,h=>by cases r;obtain rfl:=cp h;exact PySem.P.repr_of_none (VP.ah (S.uc _) k)
 |.aG b,r,h=>by
  cases r
  obtain rfl:(if b then "True" else "False":aI)=t:=by induction b<;>exact cp h
  exact PySem.P.repr_of_bool (VP.ah (S.uc _) k)
 |.ae i,r,h=>by
  refine aw fun kz=>?_
  obtain ⟨u,rfl⟩:=r
  obtain ⟨c,h⟩:=d4 h
  refine kz ?_;try clear kz
  obtain rfl:=cp h
  exact PySem.P.repr_of_int (NI c) (VP.ah (S.uc _) k)
 |.ah x,r,h=>by
  refine aw fun kz=>?_
  obtain ⟨u,rfl⟩:=r
  obtain ⟨c,h⟩:=d4 h
  refine kz ?_;try clear kz
  obtain rfl:=cp h
  exact PySem.P.repr_of_str (VP.ah (S.uc _) k) (by unfold oN;lia)
end
section
variable{W:Wd}{g:cZ}{σ:an}{s:bz}{A:dD}{d:af}{F:cr}
def V3{x:am}{b:av}(h:x.abw=ac b):x=.aG b:=by
 cases x<;>first|exact a7 _ (cp h)|exact bn h
def Zb{x:am}{c:af}(h:x.afb=ac c):x=.mQ c:=by
 cases x<;>first|exact a7 _ (cp h)|exact bn h
def aet{x:am}{c:af}(h:x.bi?=ac c):x=.bi c:=by
 cases x<;>first|exact a7 _ (cp h)|exact bn h
def Qz(S:bZ W g σ s){v:aH}{a:aC}{fz:av}{K:KE}(r:c7 W g a v)(h:gX (acx σ fz a) K):Wp W A (gH (.builtin "len") [v]) (VP W g K) s:=by
 refine aw fun kz=>?_
 obtain ⟨x,hx,h1⟩:=cg h
 obtain ⟨n,hn,h2⟩:=cg h1
 obtain ⟨c,k⟩:=la h2
 refine kz ?_;try clear kz
 rcases gC hn with ⟨_,hn⟩|⟨p,hp,hn⟩
 ·refine aw fun kz=>?_
  obtain ⟨z,hz,rfl⟩:=cK hn
  obtain rfl:=Ba hz
  obtain ⟨t,rfl⟩:=xD r hx ag
  refine kz ?_;try clear kz
  exact PySem.P.len_str (by lia) (VP.ae (S.uc _) k)
 ·obtain rfl:=cp hn
  refine aw fun kz=>?_
  obtain ⟨l,us,n,rfl,f,q⟩:=pj S r hx hp
  have e:((us.toArray.size:af):aN)=(p.2.length:aN):=by (refine aq jy ?_;refine aq q.bh ?_;rfl)
  have c:us.toArray.size≤100000:=by (refine aq jy ?_;refine aq q.bh ?_);exact c
  obtain ⟨tp,xs⟩:=p
  refine kz ?_;try clear kz
  induction tp
  ·refine call_len_list (eF f) (by lia) ?_
   refine aq e ?_
   exact VP.ae (S.uc _) k
  ·refine PySem.P.len_tuple (n:=n) f (by lia) ?_
   refine aq e ?_
   exact VP.ae (S.uc _) k
def NL(S:bZ W g σ s){v:aH}{a:aC}{fz:av}{K:KE}(r:c7 W g a v)(h:gX (Sy σ fz a) K):Wp W A (gH (.type "list") [v]) (VP W g K) s:=by
 refine aw fun kz=>?_
 obtain ⟨x,hx,h1⟩:=cg h
 obtain ⟨p,hp,k⟩:=cg h1
 obtain ⟨l,us,n,rfl,f,q⟩:=pj S r hx hp
 have c0:=s9 k
 have cc:us.toArray.size≤oN:=by (refine aq jy ?_;refine aq q.bh ?_);unfold oN;lia
 have fJ:∀{h':dW}{m:af},(∀b o,s.heap.get? b=ac o→h'.get? b=ac o)→h'.get? s.heap.objs.size=ac (cw "list" us m)→VP W g K (.ref s.heap.objs.size) {s with heap:=h'}:=fun hk e=>xE S s.toks hk (S.DG (c9 _)) (S.sZ (c9 _)) (S.gm (c9 _)) e q k
 obtain ⟨tp,xs⟩:=p
 refine kz ?_;try clear kz
 induction tp
 ·exact call_list_seq l (.inl ag) f ag ag (fun h' c' hk e=>fJ hk e) cc
 ·exact call_list_seq l (.inr ag) f ag ag (fun h' c' hk e=>fJ hk e) cc
def Jy(S:bZ W g σ s){f:aN→aN→aN}{v:aH}{a:aC}{fz:av}{K:KE}(r:c7 W g a v)(h:gX (AC f σ fz a) K):∃l n is i tl,v=.ref l∧s.heap.IsList l (Ma is)∧is.toList.map (·.1)=i::tl∧is.size=tl.length+1∧K (.f (.ae (tl.foldl f i))) σ∧n=0:=by
 refine aw fun kz=>?_
 obtain ⟨xs,hx,h1⟩:=cg h
 obtain ⟨is,hi,h2⟩:=cg h1
 obtain ⟨m,bS,h3,k⟩:=jD h2
 obtain ⟨z,hz,e⟩:=cK h3
 refine kz ?_;try clear kz
 cases e
 induction is with
 |nil=>exact bn hz
 |cons i tl _=>
  obtain rfl:=cp hz
  refine aw fun kz=>?_
  obtain ⟨l,us,n,rfl,f',q⟩:=qf S r hx
  rw [VZ hi] at q
  obtain ⟨ar,e1,e2⟩:=q.aer
  refine kz ?_;try clear kz
  have f2:=eF f'
  rw [e1] at f2
  refine ⟨l,0,ar.toArray,i,tl,ag,f2,e2,?_,k,ag⟩
  have:=a7 uI e2
  rw [b9] at this
  (refine aq jy ?_;refine aq this ?_);rfl
def QA(hA:A.handled=au)(S:bZ W g σ s){v:aH}{a:aC}{fz:av}{K:KE}(r:c7 W g a v)(h:gX (AC max σ fz a) K):Wp W A (gH (.builtin "max") [v]) (VP W g K) s:=by
 refine aw fun kz=>?_
 obtain ⟨l,_,is,i,tl,rfl,f,e,sz,k,_⟩:=Jy S r h
 refine kz ?_;try clear kz
 refine max_intList hA f (by lia) fun v h' tk hv hk=>?_
 refine aw fun kz=>?_
 obtain ⟨t,rfl⟩:=intItems_at hv
 refine kz ?_;try clear kz
 rw [Dd e (f:=max) (c:=fun a b=>dc (a > b)) (fun a b=>by
  by_cases z:b > a
  ·refine aq (bD (jx z)) ?_;exact Int.max_eq_right (Sn z)
  ·rw [cL (by rw [LB];exact z)];exact Int.max_eq_left (Eb.mp z)) _ (lm (a7 (·-1) sz)),sz,Lv,eG]
 exact VP.ae (S.jP _ hk) k
def QB(hA:A.handled=au)(S:bZ W g σ s){v:aH}{a:aC}{fz:av}{K:KE}(r:c7 W g a v)(h:gX (AC min σ fz a) K):Wp W A (gH (.builtin "min") [v]) (VP W g K) s:=by
 refine aw fun kz=>?_
 obtain ⟨l,_,is,i,tl,rfl,f,e,sz,k,_⟩:=Jy S r h
 refine kz ?_;try clear kz
 refine min_intList hA f (by lia) fun v h' tk hv hk=>?_
 refine aw fun kz=>?_
 obtain ⟨t,rfl⟩:=intItems_at hv
 refine kz ?_;try clear kz
 rw [Dd e (f:=min) (c:=fun a b=>dc (a<b)) (fun a b=>by
  by_cases z:b<a
  ·refine aq (bD (jx z)) ?_;exact Int.min_eq_right (Sn z)
  ·rw [cL (by rw [LB];exact z)];exact Int.min_eq_left (Eb.mp z)) _ (lm (a7 (·-1) sz)),sz,Lv,eG]
 exact VP.ae (S.jP _ hk) k
def QC(S:bZ W g σ s){v:aH}{a:aC}{fz:av}{K:KE}(r:c7 W g a v)(h:gX (acy σ fz a) K):Wp W A (gH (.builtin "abs") [v]) (VP W g K) s:=by
 refine aw fun kz=>?_
 obtain ⟨m,bS,h1,k⟩:=jD h
 obtain ⟨i,hi,e⟩:=cK h1
 refine kz ?_;try clear kz
 cases e
 refine aw fun kz=>?_
 obtain rfl:=k9 hi
 obtain ⟨t,rfl⟩:=r
 refine kz ?_;try clear kz
 refine call_abs_int fun u tk=>?_
 have key:(if i<0 then -i else i)=(i.natAbs:aN):=by
  by_cases z:i<0
  ·exact (bD z).trans (afS z)
  ·exact (cL z).trans (Int.natAbs_of_nonneg (Eb.mp z)).symm
 refine aq key ?_
 exact VP.ae (S.uc _) k
def QD(S:bZ W g σ s){v:aH}{a:aC}{fz:av}{K:KE}(r:c7 W g a v)(h:gX (acz σ fz a) K):Wp W A (gH (.type "int") [v]) (VP W g K) s:=by
 refine aw fun kz=>?_
 obtain ⟨m,bS,h1,k⟩:=jD h
 obtain ⟨b,hb,e⟩:=cK h1
 refine kz ?_;try clear kz
 cases e
 refine aw fun kz=>?_
 obtain ⟨x,hx,hb⟩:=bo hb
 obtain rfl:=jm hx
 obtain rfl:=V3 hb
 refine kz ?_;try clear kz
 cases r
 exact call_int_bool (VP.ae (S.uc _) k)
def aeu(S:bZ W g σ s){v:aH}{a:aC}{fz:av}{K:KE}(r:c7 W g a v)(h:gX (Sz σ fz a) K):Wp W A (gH (.builtin "repr") [v]) (VP W g K) s:=by
 refine aw fun kz=>?_
 obtain ⟨m,bS,h1,k⟩:=jD h
 obtain ⟨b,hb,e⟩:=cK h1
 refine kz ?_;try clear kz
 cases e
 refine aw fun kz=>?_
 obtain ⟨x,hx,hb⟩:=bo hb
 obtain rfl:=jm hx
 obtain ⟨c,rfl⟩:=NJ hb
 refine kz ?_;try clear kz
 exact NK S k r hb
def NM(S:bZ W g σ s){v:aH}{a:aC}{fz:av}{K:KE}(r:c7 W g a v)(h:gX (SA σ fz a) K):Wp W A (gH (.builtin "sorted") [v]) (VP W g K) s:=by
 refine aw fun kz=>?_
 obtain ⟨xs,hx,h1⟩:=cg h
 obtain ⟨ss,hs,h2⟩:=cg h1
 obtain ⟨c,k⟩:=la h2
 obtain ⟨l,us,n,rfl,f,q⟩:=qf S r hx
 refine kz ?_;try clear kz
 rw [V0 hs] at q
 have lu:us.length=ss.length:=by (refine aq q.bh ?_;rw [b9])
 refine sorted_strs (eF f) q.aes (by lia) fun out ss' a1 a2 a3=>?_
 rw [← Qy a2 a3] at k
 obtain ⟨e,he⟩:=sortedAll_at s.heap us out
 exact xE (n:=e) S s.toks (fun q9 q9=>sortedAll_old) (S.DG (fQ _)) (S.sZ (fQ _)) (S.gm (fQ _)) he (Mine.Qx.aiZ a1) k
def aev(S:bZ W g σ s){x:am}{v:aH}(r:iE W g.F x v):match tyK x with
  |.aA=>v=.none
  |.aG=>∃b,v=.bool b
  |.ae=>∃i t,v=.int i t
  |.ah=>∃i t,v=.str i t
  |.bE=>∃a vs n,v=.ref a∧s.heap.get? a=ac (cw "tuple" vs n)
  |.Oa _=>kD:=match x,r with
 |.aA,r=>r
 |.aG _,r=>⟨_,r⟩
 |.ae _,r=>⟨_,r⟩
 |.ah _,r=>⟨_,r⟩
 |.bE _,r=>by obtain ⟨a,vs,n,e,f,_⟩:=r;exact ⟨a,vs,n,e,S.dZ _ _ f⟩
 |.al _,_=>di
 |.ic _ _,_=>di
 |.fn _,_=>di
 |.mQ _,_=>di
 |.bi _,_=>di
 |.rx _,_=>di
def QE(hW:l9 W)(hbi:W.Da=tQ)(S:bZ W g σ s){v u:aH}{x y:am}{b:av}{K:KE}(h1:iE W g.F x v)(h2:iE W g.F y u)(h:afc x y=ac b)(k:K (.f (.aG b)) σ):Wp W A (gH (.builtin "isinstance") [v,u]) (VP W g K) s:=by
 have fJ:∀tk,VP W g K (.bool b) {s with toks:=tk}:=fun tk=>VP.aG (S.uc tk) k
 rcases gC h with ⟨_,h⟩|⟨c,hc,h⟩
 ·refine aw fun kz=>?_
  obtain ⟨n,hn,z⟩:=bo h
  obtain rfl:=aet hn
  obtain rfl:u=W.Da n:=h2
  refine kz ?_;try clear kz
  refine aq hbi ?_
  have T:=aev S h1
  unfold abv at z
  generalize tyK x=t at T z
  by_cases e:n=abq
  ·rw [bD e] at z
   refine aq e ?_
   induction t<;>cases z
   ·obtain ⟨b,rfl⟩:=T;exact IsiPair.bool_int (fJ _)
   ·obtain ⟨i,t,rfl⟩:=T;exact IsiPair.int_int (fJ _)
  rw [cL e] at z
  by_cases e:n=Tg
  ·rw [bD e] at z
   refine aq e ?_
   induction t<;>cases z
   ·obtain ⟨b,rfl⟩:=T;exact IsiPair.bool_bool (fJ _)
   ·obtain ⟨i,t,rfl⟩:=T;exact IsiPair.int_bool (fJ _)
   ·obtain ⟨i,t,rfl⟩:=T;exact IsiPair.str_bool (fJ _)
  rw [cL e] at z
  by_cases e:n=abr
  ·rw [bD e] at z
   refine aq e ?_
   induction t<;>cases z
   obtain ⟨i,t,rfl⟩:=T;exact IsiPair.str_str (fJ _)
  rw [cL e] at z
  by_cases e:n=N9
  ·rw [bD e] at z
   refine aq e ?_
   induction t<;>cases z
   ·cases T;exact IsiPair.NoneType_tuple (fJ _)
   ·obtain ⟨a,vs,n,rfl,f⟩:=T;exact IsiPair.tuple_tuple f ag (fJ _)
  ·rw [cL e] at z;exact bn z
 ·refine aw fun kz=>?_
  obtain ⟨p,hp,z⟩:=bo h
  obtain rfl:=Zb hc
  obtain rfl:=CB hp
  obtain ⟨e,z⟩:=d4 z
  refine kz ?_;try clear kz
  obtain rfl:=cp z
  refine aw fun kz=>?_
  obtain rfl:u=.ref (W.eK c):=h2
  obtain ⟨a,kc,vs,d,od,mm,rfl,hk,F,l,r,IA,ns⟩:=(Lf (σ:=σ) S h1).ex
  refine kz ?_;try clear kz
  refine aq e ?_
  exact isi_call (S.Ld hW) (fun M=>IA.type) (by unfold isIn;rw [ug];rfl) (by nofun) (fJ _)
def yZ{α:Type}{P:af→α→Prop}{a:α}{l:ao α}(h0:P 0 a)(h:∀{k f},l[k]? =ac f→P (k+1) f){k:af}{f:α}(e:(a::l)[k]? =ac f):P k f:=by
 induction k with
 |zero=>exact cp e▸h0
 |succ k=>exact h e
def V4{P:af→(an→av→aC→aM (aC×an))→Prop}(h0:P 0 acx)(h1:P 1 Sy)(h2:P 2 (AC max))(h3:P 3 (AC min))(h4:P 4 acy)(h5:P 5 acz)(h6:P 6 Sz)(h7:P 7 SA){k:af}{f:an→av→aC→aM (aC×an)}:abx[k]? =ac f→P k f:=
 yZ h0 (yZ (P:=fun k=>P (k+1)) h1 (yZ (P:=fun k=>P (k+2)) h2 (yZ (P:=fun k=>P (k+3)) h3 (yZ (P:=fun k=>P (k+4)) h4 (yZ (P:=fun k=>P (k+5)) h5 (yZ (P:=fun k=>P (k+6)) h6 (yZ (P:=fun k=>P (k+7)) h7 fun e=>bn e)))))))
def EU(hA:A.handled=au)(hW:l9 W)(hbi:W.Da=tQ)(S:bZ W g σ s){vs:ao aH}{args:ao aC}{fz:av}{k:af}{K:KE}(h1:dI W g args vs)(h:gX (eP σ fz k args) K):Wp W A (gH (W.Da k) vs) (VP W g K) s:=by
 refine aq hbi ?_
 cases e:Nat.beq k 8
 ·unfold eP at h
  rw [e] at h
  refine aw fun kz=>?_
  obtain ⟨a,ha,h2⟩:=cg h
  obtain ⟨f,hf,h3⟩:=cg h2
  obtain ⟨v,rfl,r⟩:=h1.qb ha
  refine kz ?_;try clear kz
  refine V4 (P:=fun k f=>gX (f σ fz a) K→Wp W A (gH (tQ k) [v]) (VP W g K) s) ?_ ?_ ?_ ?_ ?_ ?_ ?_ ?_ hf h3
  ·exact Qz S r
  ·exact NL S r
  ·exact QA hA S r
  ·exact QB hA S r
  ·exact QC S r
  ·exact QD S r
  ·exact aeu S r
  ·exact NM S r
 ·refine aw fun kz=>?_
  obtain rfl:=Nat.eq_of_beq_eq_true e
  obtain ⟨p,hp,h2⟩:=cg h
  obtain ⟨v,u,rfl,r1,r2⟩:=h1.TN hp
  obtain ⟨x,hx,h3⟩:=cg h2
  obtain ⟨y,hy,h4⟩:=cg h3
  obtain ⟨m,bS,h5,q⟩:=jD h4
  obtain ⟨b,hb,e2⟩:=cK h5
  refine kz ?_;try clear kz
  cases e2
  rw [jm hx] at r1
  rw [jm hy] at r2
  exact QE hW hbi S r1 r2 hb q
end
abbrev fH:=ao (af×aI)
abbrev Sc:=ao (aI×yo)
structure Sh(e:aT) where
 con:aM {p:Const×af×bG // e=.Constant p.1 p.2.1 p.2.2}:=au
 bq:aM {p:aI×bG // e=.Name p.1 p.2}:=au
 d6:aM {p:aT×L9×aT×bG // e=.BinOp p.1 p.2.1 p.2.2.1 p.2.2.2}:=au
 un:aM {p:UnaryOp×aT×bG // e=.UnaryOp p.1 p.2.1 p.2.2}:=au
 aG:aM {p:BoolOp×ao aT×bG // e=.BoolOp p.1 p.2.1 p.2.2}:=au
 aL:aM {p:aT×ao ly×ao aT×bG // e=.Compare p.1 p.2.1 p.2.2.1 p.2.2.2}:=au
 fB:aM {p:aT×aT×aT×bG // e=.IfExp p.1 p.2.1 p.2.2.1 p.2.2.2}:=au
 aD:aM {p:aT×ao aT×ao Me×bG // e=.Call p.1 p.2.1 p.2.2.1 p.2.2.2}:=au
 aB:aM {p:aT×aI×bG // e=.Attribute p.1 p.2.1 p.2.2}:=au
 fA:aM {p:aT×aT×bG // e=.Subscript p.1 p.2.1 p.2.2}:=au
 fT:aM {p:aM aT×aM aT×aM aT×bG // e=.Slice p.1 p.2.1 p.2.2.1 p.2.2.2}:=au
 bE:aM {p:ao aT×af×bG // e=.Tuple p.1 p.2.1 p.2.2}:=au
 al:aM {p:ao aT×bG // e=.List p.1 p.2}:=au
 Lg:aM {p:aT×bG // e=.Starred p.1 p.2}:=au
 dK:aM {p:ao (aM aT)×ao aT×bG // e=.Dict p.1 p.2.1 p.2.2}:=au
 afs:aM {p:aT×ao lL×kE×bG // e=.ListComp p.1 p.2.1 p.2.2.1 p.2.2.2}:=au
noncomputable def sh(e:aT):Sh e:=match e with
 |.Constant a b c=>{con:=ac ⟨(a,b,c),ag⟩}
 |.Name a b=>{bq:=ac ⟨(a,b),ag⟩}
 |.BinOp a b c d=>{d6:=ac ⟨(a,b,c,d),ag⟩}
 |.UnaryOp a b c=>{un:=ac ⟨(a,b,c),ag⟩}
 |.BoolOp a b c=>{aG:=ac ⟨(a,b,c),ag⟩}
 |.Compare a b c d=>{aL:=ac ⟨(a,b,c,d),ag⟩}
 |.IfExp a b c d=>{fB:=ac ⟨(a,b,c,d),ag⟩}
 |.Call a b c d=>{aD:=ac ⟨(a,b,c,d),ag⟩}
 |.Attribute a b c=>{aB:=ac ⟨(a,b,c),ag⟩}
 |.Subscript a b c=>{fA:=ac ⟨(a,b,c),ag⟩}
 |.Slice a b c d=>{fT:=ac ⟨(a,b,c,d),ag⟩}
 |.Tuple a b c=>{bE:=ac ⟨(a,b,c),ag⟩}
 |.List a b=>{al:=ac ⟨(a,b),ag⟩}
 |.Starred a b=>{Lg:=ac ⟨(a,b),ag⟩}
 |.Dict a b c=>{dK:=ac ⟨(a,b,c),ag⟩}
 |.ListComp a b c d=>{afs:=ac ⟨(a,b,c,d),ag⟩}
 |_=>{}
def dt{α:Type}{β:α→Prop}{o:aM {p:α // β p}}{f:{p:α // β p}→av}{G:Prop}(h:o.any f=ak)(k:∀(p:α)(q:β p),f ⟨p,q⟩=ak→G):G:=by
 induction o with
 |none=>exact cG h
 |some p=>exact k p.1 p.2 h
def De(e:aT)(f:Const→af→bG→av):av:=(sh e).con.any fun p=>f p.1.1 p.1.2.1 p.1.2.2
def Kh{e:aT}{f:Const→af→bG→av}{P:aT→Prop}(h:De e f=ak)(k:∀a b c,f a b c=ak→P (.Constant a b c)):P e:=dt h fun p q z=>q▸k p.1 p.2.1 p.2.2 z
def wg(e:aT)(f:aI→bG→av):av:=(sh e).bq.any fun p=>f p.1.1 p.1.2
def nL{e:aT}{f:aI→bG→av}{P:aT→Prop}(h:wg e f=ak)(k:∀a b,f a b=ak→P (.Name a b)):P e:=dt h fun p q z=>q▸k p.1 p.2 z
def OP(e:aT)(f:aT→L9→aT→bG→av):av:=(sh e).d6.any fun p=>f p.1.1 p.1.2.1 p.1.2.2.1 p.1.2.2.2
def V5{e:aT}{f:aT→L9→aT→bG→av}{P:aT→Prop}(h:OP e f=ak)(k:∀a b c d,f a b c d=ak→P (.BinOp a b c d)):P e:=dt h fun p q z=>q▸k p.1 p.2.1 p.2.2.1 p.2.2.2 z
def zR(e:aT)(f:UnaryOp→aT→bG→av):av:=(sh e).un.any fun p=>f p.1.1 p.1.2.1 p.1.2.2
def Df{e:aT}{f:UnaryOp→aT→bG→av}{P:aT→Prop}(h:zR e f=ak)(k:∀a b c,f a b c=ak→P (.UnaryOp a b c)):P e:=dt h fun p q z=>q▸k p.1 p.2.1 p.2.2 z
def CE(e:aT)(f:BoolOp→ao aT→bG→av):av:=(sh e).aG.any fun p=>f p.1.1 p.1.2.1 p.1.2.2
def F2{e:aT}{f:BoolOp→ao aT→bG→av}{P:aT→Prop}(h:CE e f=ak)(k:∀a b c,f a b c=ak→P (.BoolOp a b c)):P e:=dt h fun p q z=>q▸k p.1 p.2.1 p.2.2 z
def F3(e:aT)(f:aT→ao ly→ao aT→bG→av):av:=(sh e).aL.any fun p=>f p.1.1 p.1.2.1 p.1.2.2.1 p.1.2.2.2
def NN{e:aT}{f:aT→ao ly→ao aT→bG→av}{P:aT→Prop}(h:F3 e f=ak)(k:∀a b c d,f a b c d=ak→P (.Compare a b c d)):P e:=dt h fun p q z=>q▸k p.1 p.2.1 p.2.2.1 p.2.2.2 z
def OQ(e:aT)(f:aT→aT→aT→bG→av):av:=(sh e).fB.any fun p=>f p.1.1 p.1.2.1 p.1.2.2.1 p.1.2.2.2
def V6{e:aT}{f:aT→aT→aT→bG→av}{P:aT→Prop}(h:OQ e f=ak)(k:∀a b c d,f a b c d=ak→P (.IfExp a b c d)):P e:=dt h fun p q z=>q▸k p.1 p.2.1 p.2.2.1 p.2.2.2 z
def wh(e:aT)(f:aT→ao aT→ao Me→bG→av):av:=(sh e).aD.any fun p=>f p.1.1 p.1.2.1 p.1.2.2.1 p.1.2.2.2
def Bc{e:aT}{f:aT→ao aT→ao Me→bG→av}{P:aT→Prop}(h:wh e f=ak)(k:∀a b c d,f a b c d=ak→P (.Call a b c d)):P e:=dt h fun p q z=>q▸k p.1 p.2.1 p.2.2.1 p.2.2.2 z
def q0(e:aT)(f:aT→aI→bG→av):av:=(sh e).aB.any fun p=>f p.1.1 p.1.2.1 p.1.2.2
def tR{e:aT}{f:aT→aI→bG→av}{P:aT→Prop}(h:q0 e f=ak)(k:∀a b c,f a b c=ak→P (.Attribute a b c)):P e:=dt h fun p q z=>q▸k p.1 p.2.1 p.2.2 z
def iy(e:aT)(f:aT→aT→bG→av):av:=(sh e).fA.any fun p=>f p.1.1 p.1.2.1 p.1.2.2
def nf{e:aT}{f:aT→aT→bG→av}{P:aT→Prop}(h:iy e f=ak)(k:∀a b c,f a b c=ak→P (.Subscript a b c)):P e:=dt h fun p q z=>q▸k p.1 p.2.1 p.2.2 z
def OR(e:aT)(f:aM aT→aM aT→aM aT→bG→av):av:=(sh e).fT.any fun p=>f p.1.1 p.1.2.1 p.1.2.2.1 p.1.2.2.2
def V7{e:aT}{f:aM aT→aM aT→aM aT→bG→av}{P:aT→Prop}(h:OR e f=ak)(k:∀a b c d,f a b c d=ak→P (.Slice a b c d)):P e:=dt h fun p q z=>q▸k p.1 p.2.1 p.2.2.1 p.2.2.2 z
def kl(e:aT)(f:ao aT→af→bG→av):av:=(sh e).bE.any fun p=>f p.1.1 p.1.2.1 p.1.2.2
def oq{e:aT}{f:ao aT→af→bG→av}{P:aT→Prop}(h:kl e f=ak)(k:∀a b c,f a b c=ak→P (.Tuple a b c)):P e:=dt h fun p q z=>q▸k p.1 p.2.1 p.2.2 z
def Lh(e:aT)(f:ao aT→bG→av):av:=(sh e).al.any fun p=>f p.1.1 p.1.2
def OS{e:aT}{f:ao aT→bG→av}{P:aT→Prop}(h:Lh e f=ak)(k:∀a b,f a b=ak→P (.List a b)):P e:=dt h fun p q z=>q▸k p.1 p.2 z
def F4(e:aT)(f:aT→bG→av):av:=(sh e).Lg.any fun p=>f p.1.1 p.1.2
def NO{e:aT}{f:aT→bG→av}{P:aT→Prop}(h:F4 e f=ak)(k:∀a b,f a b=ak→P (.Starred a b)):P e:=dt h fun p q z=>q▸k p.1 p.2 z
def Uc(e:aT)(f:ao (aM aT)→ao aT→bG→av):av:=(sh e).dK.any fun p=>f p.1.1 p.1.2.1 p.1.2.2
def Zc{e:aT}{f:ao (aM aT)→ao aT→bG→av}{P:aT→Prop}(h:Uc e f=ak)(k:∀a b c,f a b c=ak→P (.Dict a b c)):P e:=dt h fun p q z=>q▸k p.1 p.2.1 p.2.2 z
def Dg(e:aT)(f:aT→ao lL→kE→bG→av):av:=(sh e).afs.any fun p=>f p.1.1 p.1.2.1 p.1.2.2.1 p.1.2.2.2
def Ki{e:aT}{f:aT→ao lL→kE→bG→av}{P:aT→Prop}(h:Dg e f=ak)(k:∀a b c d,f a b c d=ak→P (.ListComp a b c d)):P e:=dt h fun p q z=>q▸k p.1 p.2.1 p.2.2.1 p.2.2.2 z
noncomputable def fS{α:Type}:ao α→(α→ao α→av)→av
 |a::r,f=>f a r
 |[],_=>aF
def du{α:Type}{l:ao α}{f:α→ao α→av}{P:ao α→Prop}(h:fS l f=ak)(k:∀a r,f a r=ak→P (a::r)):P l:=by
 induction l with
 |nil=>exact cG h
 |cons a r=>exact k a r h
def jr{α:Type}{l:ao α}{P:ao α→Prop}(h:l.isEmpty=ak)(k:P []):P l:=by
 induction l with
 |nil=>exact k
 |cons _ _=>exact cG h
def gu{a b:av}{G:Prop}(h:(a&&b)=ak)(k:a=ak→b=ak→G):G:=by
 induction a with
 |true=>exact k ag h
 |false=>exact cG h
def iG{a b c:av}{G:Prop}(h:(a&&b&&c)=ak)(k:a=ak→b=ak→c=ak→G):G:=gu h fun h h3=>gu h fun h1 h2=>k h1 h2 h3
def ul{a b c d:av}{G:Prop}(h:(a&&b&&c&&d)=ak)(k:a=ak→b=ak→c=ak→d=ak→G):G:=gu h fun h z=>iG h fun x y w=>k x y w z
def Iv{a b c d e:av}{G:Prop}(h:(a&&b&&c&&d&&e)=ak)(k:a=ak→b=ak→c=ak→d=ak→e=ak→G):G:=gu h fun h z=>ul h fun x y w v=>k x y w v z
def aft{a b c d e f:av}{G:Prop}(h:(a&&b&&c&&d&&e&&f)=ak)(k:a=ak→b=ak→c=ak→d=ak→e=ak→f=ak→G):G:=gu h fun h z=>Iv h fun x y w v u=>k x y w v u z
def afu{a b c d e f g:av}{G:Prop}(h:(a&&b&&c&&d&&e&&f&&g)=ak)(k:a=ak→b=ak→c=ak→d=ak→e=ak→f=ak→g=ak→G):G:=gu h fun h z=>aft h fun x y w v u t=>k x y w v u t z
def y6(e:aT)(nm:aI):av:=(sh e).bq.any fun p=>p.1.1==nm
def Ud(e:aT):aM aI:=(sh e).bq.map fun p=>p.1.1
noncomputable def pB:aT→av
 |.ListComp .. |.SetComp .. |.DictComp .. =>ak
 |_=>aF
noncomputable def MS:aT→av
 |.Set .. =>ak
 |_=>aF
def kU(e:aT):av:=(sh e).Lg.isSome
def BS(e:aT):av:=(sh e).bq.isSome||((sh e).aB.isSome||((sh e).fA.isSome||(sh e).dK.isSome))
def gi:ao af→fH→ao aT→av
 |[],_,es=>es.isEmpty
 |x::xs,aP,es=>fS es fun e es=>wg e fun id q9=>aP.contains (x,id)&&gi xs aP es
def DH(xs:ao af)(vZ:av)(aP:fH)(e:aT):av:=cE vZ (kl e fun es q9 q9=>gi xs aP es) (gi xs aP [e])
noncomputable def Be(names:Sc)(own:fH)(aP:fH):fH:=own++aP.filter fun p=>names.lookup p.2==ac .free
noncomputable def AJ(names:Sc)(slots:ao af)(aP:fH)(p:af×aI):av:=cE (slots.contains p.1) (names.lookup p.2==ac .local) (aP.contains p&&names.lookup p.2==ac .free)
noncomputable def Ue(c:kE)(sc:Sc)(p:aI×yo):av:=(p.2 != .cell)&&(p.2 != .local||c.names.lookup p.1==ac .local)&&(p.2 != .free||(sc.lookup p.1==ac .cell&&c.names.lookup p.1==ac .free&& !(p.1==("__classdict__":aI))))
def OT(c:kE)(sc:Sc):av:=c.kind== .function&&c.names.all (Ue c sc)
def V8(e:aT):ao aT:=(sh e).bE.elim [e] fun p=>p.1.1
def Zd(p:af×aT):aM (af×aI):=(Ud p.2).map fun id=>(p.1,id)
def Kj(xs:ao af)(e:aT):fH:=(xs.zip (V8 e)).filterMap Zd
def H6:mT→ao lL→fH
 |.ab,_=>[]
 |.O xs _ _ _ r,gs=>gs.head?.elim [] fun g=>Kj xs g.target++H6 r gs.tail
noncomputable def F5(v:fH):av:=dc (v.map (·.1)).Nodup&&dc (v.map (·.2)).Nodup
noncomputable def aew:mT→av
 |.ab=>ak
 |_=>aF
noncomputable def Bf:a8→av
 |.aA=>ak
 |_=>aF
noncomputable def afv:Const→aM I4
 |.none=>ac .aA
 |.bool b=>ac (.aG b)
 |.int i=>ac (.ae i)
 |.str x=>ac (.ah x)
 |_=>au
noncomputable def I4.aca:I4→I4→av
 |.aA,.aA=>ak
 |.aG a,.aG b=>a==b
 |.ae a,.ae b=>a==b
 |.ah a,.ah b=>a==b
 |_,_=>aF
def H7(e:aT)(c:I4):av:=De e fun k q9 q9=>(afv k).any (I4.aca c)
section
variable(T:vk)
mutual
def mE(sc:Sc)(aP:fH):a8→aT→av
 |.aA,e=>H7 e .aA
 |.aG b,e=>H7 e (.aG b)
 |.ae i,e=>H7 e (.ae i)
 |.ah x,e=>H7 e (.ah x)
 |.az x,e=>wg e fun id q9=>aP.contains (x,id)&& !(id==("__debug__":aI))
 |.aJ g,e=>wg e fun id q9=>(T.tH[g]?).any fun q=>q.1==id&&sc.lookup id==ac .globalImplicit&& !(id==("__debug__":aI))
 |.d6 _ op a b,e=>OP e fun l o r q9=>dc (o=acU op)&&mE sc aP a l&&mE sc aP b r
 |.g8 a,e=>zR e fun o x q9=>dc (o=.Not)&&mE sc aP a x
 |.tF a,e=>zR e fun o x q9=>dc (o=.USub)&&mE sc aP a x
 |.dX xs,e=>CE e fun o es q9=>dc (o=.And)&&xG sc aP xs es
 |.iP xs,e=>CE e fun o es q9=>dc (o=.Or)&&xG sc aP xs es
 |.aL a cs,e=>F3 e fun l os es q9=>mE sc aP a l&&mCs sc aP cs os es
 |.fB c a b,e=>OQ e fun t x y q9=>mE sc aP c t&&mE sc aP a x&&mE sc aP b y
 |.aD _ f args,e=>wh e fun g as ks q9=>(sh g).bq.isSome&&ks.isEmpty&&mE sc aP f g&&xG sc aP args as
 |.eI o nm args,e=>wh e fun g as ks pos=>q0 g fun v n ap=>nm==n&&ks.isEmpty&&ap.endLine==pos.line&&dc (as.length<29)&&BS v&&mE sc aP o v&&xG sc aP args as
 |.aB o nm,e=>q0 e fun v n q9=>nm==n&&BS v&&mE sc aP o v
 |.bx o i,e=>iy e fun v sl q9=>!(sh sl).fT.isSome&&mE sc aP o v&&mE sc aP i sl
 |.fT _ o lo hi,e=>iy e fun v sl q9=>OR sl fun l u st q9=>st.isNone&&mE sc aP o v&&l.elim (Bf lo) (mE sc aP lo)&&u.elim (Bf hi) (mE sc aP hi)
 |.bE xs,e=>kl e fun es q9 q9=>xG sc aP xs es
 |.al _ xs,e=>Lh e fun es q9=>xG sc aP xs es
 |.xK x r,e=>Lh e fun es q9=>fS es fun a es=>fS es fun b es=>F4 b fun b q9=>es.isEmpty&& !kU a&&mE sc aP x a&&mE sc aP r b
 |.dK kvs,e=>Uc e fun ks vs q9=>ks.all (·.isSome)&&dc (ks.length=vs.length)&& !ks.isEmpty&&dc (ks.length≤15)&&mKV sc aP kvs ks vs
 |.dL _ elt gens,e=>Dg e fun x gs c q9=>!gs.isEmpty&&dc (iZ gens).Nodup&&OT c sc&&(Be c.names (H6 gens gs) aP).all (AJ c.names (iZ gens) aP)&&F5 (Be c.names (H6 gens gs) aP)&&Ev sc aP c.names (Be c.names (H6 gens gs) aP) gens gs&&mE c.names (Be c.names (H6 gens gs) aP) elt x
 |.tG a,e=>BS e&&mE sc aP a e
 |.xb,_=>ak
def xG(sc:Sc)(aP:fH):c4→ao aT→av
 |.ab,es=>es.isEmpty
 |.O a r,es=>fS es fun e es=>!kU e&&mE sc aP a e&&xG sc aP r es
def mCs(sc:Sc)(aP:fH):wC→ao ly→ao aT→av
 |.ab,os,es=>os.isEmpty&&es.isEmpty
 |.O op a r,os,es=>fS os fun o os=>fS es fun e es=>dc (o=Iu op)&& !MS e&&mE sc aP a e&&mCs sc aP r os es
def mKV(sc:Sc)(aP:fH):c4→ao (aM aT)→ao aT→av
 |.ab,ks,vs=>ks.isEmpty&&vs.isEmpty
 |.O k r,ks,vs=>fS ks fun ko ks=>ko.any fun e=>mE sc aP k e&&ai0 sc aP r ks vs
def ai0(sc:Sc)(aP:fH):c4→ao (aM aT)→ao aT→av
 |.ab,_,_=>aF
 |.O v r,ks,vs=>fS vs fun e vs=>mE sc aP v e&&mKV sc aP r ks vs
def mIt(sc:Sc)(aP:fH):yD→aT→av
 |.bk a,e=>!MS e&&mE sc aP a e
 |.gD a,e=>wh e fun g as ks q9=>y6 g "range"&&sc.lookup ("range":aI)==ac .globalImplicit&&ks.isEmpty&&fS as fun x as=>as.isEmpty&& !kU x&&mE sc aP a x
 |.Dk a,e=>wh e fun g as ks q9=>y6 g "enumerate"&&sc.lookup ("enumerate":aI)==ac .globalImplicit&&ks.isEmpty&&fS as fun x as=>as.isEmpty&& !kU x&&mE sc aP a x
 |.Eh a b,e=>wh e fun g as ks q9=>y6 g "zip"&&sc.lookup ("zip":aI)==ac .globalImplicit&&ks.isEmpty&&fS as fun x as=>fS as fun y as=>as.isEmpty&& !kU x&& !kU y&&mE sc aP a x&&mE sc aP b y
def Ev(sc:Sc)(aP:fH)(sc':Sc)(j5:fH):mT→ao lL→av
 |.ab,gs=>gs.isEmpty
 |.O xs vZ it ifs r,gs=>fS gs fun g gs=>dc (g.is_async=0)&&mIt sc aP it g.iter&&DH xs vZ j5 g.target&&xG sc' j5 ifs g.ifs&&Ev sc' j5 sc' j5 r gs
end
end
inductive rJ(env:cB)(T:cr)(nm:aI)(u:aM aH):Prop
 |az (hk:env.kindOf nm=ac .local) (o:dF) (m:aI→aM aH) (e:T env.locals=ac o) (ns:kL o m) (h:m nm=u)
 |js (hk:env.kindOf nm=ac .cell∨env.kindOf nm=ac .free) (hn:(nm==("__classdict__":aI))=aF) (c:be) (o:dF) (hc:env.cells.lookup nm=ac c) (e:T c=ac o) (h:o.data=.cell u)
structure eN(W:Wd)(g:cZ)(env:cB)(sc:Sc)(aP:fH)(ρ:bJ):Prop where
 cx:env.scope.kind=.function
 pU:env.globals=tx
 qg:env.builtins=uL
 aJ:∀id,sc.lookup id=ac .globalImplicit→env.kindOf id=ac .globalImplicit
 js:∀id,sc.lookup id=ac .cell→env.kindOf id=ac .cell∧∃c,env.cells.lookup id=ac c
 az:∀id,sc.lookup id=ac .local→env.kindOf id=ac .local
 inj:∀n n' c,env.cells.lookup n=ac c→env.cells.lookup n'=ac c→n=n'
 iL:∀n c,env.cells.lookup n=ac c→c≠env.locals
 OU:∃o,g.T env.locals=ac o∧∃m,kL o m
 Jz:∀n c,env.cells.lookup n=ac c→∃o,g.T c=ac o
 nd1:(aP.map (·.1)).Nodup
 nd2:(aP.map (·.2)).Nodup
 pV:∀p∈aP,∃u,rJ env g.T p.2 u∧∀v,ρ[p.1]?.join=ac v→∃w,u=ac w∧c7 W g v w
def bM(env:cB)(a:be):Prop:=a=env.locals∨∃n,env.cells.lookup n=ac a
structure At(W:Wd)(d:af)(A:dD)(g:cZ)(σ:an)(s:bz)(env:cB)(sc:Sc)(aP:fH)(ρ:bJ):Prop where
 a:BQ A d
 S:bZ W g σ s
 E:eN W g env sc aP ρ
section
variable{W:Wd}{g g':cZ}{σ:an}{s:bz}{A:dD}{d:af}{env:cB}{sc:Sc}{aP:fH}{ρ:bJ}
def eN.jc(E:eN W g env sc aP ρ){a:be}(h:bM env a):g.T a≠au:=fun z=>by
 rcases h with rfl|⟨n,h⟩
 ·obtain ⟨o,e,_⟩:=E.OU;rw [z] at e;exact bn e
 ·obtain ⟨o,e⟩:=E.Jz n a h;rw [z] at e;exact bn e
def rJ.GU{T T':cr}{nm:aI}{u:aM aH}(h:rJ env T nm u)(k:∀a,bM env a→T' a=T a):rJ env T' nm u:=by
 induction h with
 |az hk o m e ns h=>exact .az hk o m ((k _ (.inl ag)).trans e) ns h
 |js hk hn c o hc e h=>exact .js hk hn c o hc ((k _ (.inr ⟨_,hc⟩)).trans e) h
def eN.bu{fr:be→Prop}(E:eN W g env sc aP ρ)(l:Le fr g g')(h:∀a,fr a→¬bM env a):eN W g' env sc aP ρ:=
 have k:∀a,bM env a→g'.T a=g.T a:=fun a z=>l.T a fun q=>h a q z
 {E with
  OU:=by obtain ⟨o,e,r⟩:=E.OU;exact ⟨o,(k _ (.inl ag)).trans e,r⟩
  Jz:=fun n c h=>by obtain ⟨o,e⟩:=E.Jz n c h;exact ⟨o,(k _ (.inr ⟨n,h⟩)).trans e⟩
  pV:=fun q hq=>let ⟨u,a,b⟩:=E.pV q hq;⟨u,a.GU k,fun v e=>let ⟨w,c,d⟩:=b v e;⟨w,c,d.bu l⟩⟩}
def At.aS{bS:an}{s':bz}(h:At W d A g σ s env sc aP ρ)(l:tO g g')(S:bZ W g' bS s'):At W d A g' bS s' env sc aP ρ:=⟨h.a,S,h.E.bu l fun q9 z=>z.elim⟩
def NQ(S:bZ W g σ s)(E:eN W g env sc aP ρ){x:af}{nm:aI}{v:aC}{Q:aH→bz→Prop}(h:(x,nm)∈aP)(hv:ρ[x]?.join=ac v)(q:∀u,c7 W g v u→Q u s):Wp W A (loadName env nm) Q s:=by
 refine aw fun kz=>?_
 obtain ⟨u,hh,hr⟩:=E.pV _ h
 obtain ⟨w,rfl,r⟩:=hr v hv
 refine kz ?_;try clear kz
 induction hh with
 |az hk o m e hm hv=>exact aaD E.cx hk (hm.eb (S.iQ _ _ e)) hv (q _ r)
 |js hk hn c o hc e hd=>
  have y7:s.heap.IsCell c (ac w):=⟨o,S.iQ _ _ e,hd⟩
  rcases hk with hk|hk
  ·exact aaE E.cx hk hc y7 (q _ r)
  ·exact aaF E.cx hk hc y7 (q _ r) hn
def F6{α β:Type}:∀{l:ao (α×β)}{x:α}{y y':β},(l.map (·.1)).Nodup→(x,y)∈l→(x,y')∈l→y=y':=by
 intro l
 induction l with
 |nil=>
  intro z1 z2 z3 z4 z5 z6
  first|exact bn z6|exact bW z6 hU|exact Bool.noConfusion z6|exact False.elim z6|exact bn z5|exact nomatch z5|exact Bool.noConfusion z5|exact False.elim z5|exact bn z4|exact nomatch z4|exact Bool.noConfusion z4|exact False.elim z4
 |cons p r ih=>
  intro x y y' hd h h'
  obtain ⟨h1,h2⟩:=Ax.mp hd
  rcases eH.mp h with e|h
  ·rcases eH.mp h' with e'|h'
   ·exact (abm (e.trans e'.symm)).2
   ·exact bW (Hf (f:=(·.1)) h') (by rw [← e] at h1;exact h1)
  ·rcases eH.mp h' with e'|h'
   ·exact bW (Hf (f:=(·.1)) h) (by rw [← e'] at h1;exact h1)
   ·exact ih h2 h h'
def V9{aP:fH}{x:af}{nm nm':aI}(hd:(aP.map (·.1)).Nodup)(h:(x,nm)∈aP)(h':(x,nm')∈aP):nm=nm':=F6 hd h h'
def Wa{aP:fH}{x y:af}{nm:aI}(hd:(aP.map (·.2)).Nodup)(h:(x,nm)∈aP)(h':(y,nm)∈aP):x=y:=by
 refine F6 (l:=aP.map fun p=>(p.2,p.1)) ?_ (iO.mpr ⟨_,h,ag⟩) (iO.mpr ⟨_,h',ag⟩)
 refine aq oM ?_;exact hd
def H8{ρ:bJ}{x y:af}{v w:aC}(h:(ρ.set x (ac v))[y]?.join=ac w):(x=y∧w=v)∨(x≠y∧ρ[y]?.join=ac w):=by
 by_cases q:x=y
 ·subst q
  rw [Z8] at h
  refine .inl ⟨ag,?_⟩
  cases e:ρ[x]? with
  |none=>rw [e] at h;exact bn h
  |some o=>rw [e] at h;exact (cp h).symm
 ·rw [sK q] at h;exact .inr ⟨q,h⟩
def BT(env:cB)(nm:aI)(a:be):Prop:=(env.kindOf nm=ac .local∧a=env.locals)∨((env.kindOf nm=ac .cell∨env.kindOf nm=ac .free)∧env.cells.lookup nm=ac a)
def BT.jc{nm:aI}{a:be}(h:BT env nm a):bM env a:=by
 rcases h with ⟨_,rfl⟩|⟨_,h⟩
 ·exact .inl ag
 ·exact .inr ⟨nm,h⟩
def aex{o:dF}{m m':aI→aM aH}(h:kL o m)(h':kL o m'):m'=m:=by
 refine aw fun kz=>?_
 obtain ⟨es,ep,a1,a2,a3⟩:=h
 obtain ⟨es',ep',b1,b2,b3⟩:=h'
 refine kz ?_;try clear kz
 rw [a1] at b1;cases b1
 exact rj fun n=>(b3 n).symm.trans (a3 n)
def bZ.Xd(S:bZ W g σ s){a:be}{o o':dF}{h':dW}(tk:af)(ht:g.T a=ac o)(hs:yx a s.heap h')(e:h'.get? a=ac o'):bZ W ⟨g.F,g.T.dB a o',g.α⟩ σ {s with heap:=h',toks:=tk}:=by
 refine S.Qn (fun b=>b=a) tk (fun b z=>⟨o,z▸ht⟩) (fun b p n q=>(hs.2 b n).trans q) fun b p q=>?_
 by_cases hb:b=a
 ·subst hb
  rw [cr.d9] at q
  obtain rfl:=cp q
  exact ⟨e,S.um ht⟩
 ·rw [cr.fc _ _ hb] at q
  exact ⟨(hs.2 b hb).trans (S.iQ b p q),S.um q⟩
def eN.Et(E:eN W g env sc aP ρ){x:af}{nm:aI}{v:aC}{u:aH}{a:be}{o':dF}(h:(x,nm)∈aP)(r:c7 W g v u)(ha:∀n c,env.cells.lookup n=ac c→∃o,(g.T.dB a o') c=ac o)(hl:∃o,(g.T.dB a o') env.locals=ac o∧∃m,kL o m)
  (hv:∀p∈aP,∀w,rJ env g.T p.2 w→rJ env (g.T.dB a o') p.2 (if p.2=nm then ac u else w)):eN W ⟨g.F,g.T.dB a o',g.α⟩ env sc aP (ρ.set x (ac v)):=by
 refine {E with OU:=hl,Jz:=ha,pV:=fun p hp=>?_}
 refine aw fun kz=>?_
 obtain ⟨w,hh,hr⟩:=E.pV p hp
 refine kz ?_;try clear kz
 refine ⟨_,hv p hp w hh,fun m hm=>?_⟩
 rcases H8 hm with ⟨e,rfl⟩|⟨ne,hm⟩
 ·refine aq (bD (V9 E.nd1 (show (p.1,p.2)∈aP from hp) (e▸h))) ?_
  exact ⟨u,ag,r⟩
 ·have:¬p.2=nm:=fun z=>ne (Wa E.nd2 h (z▸(show (p.1,p.2)∈aP from hp)))
  refine aq (cL this) ?_
  exact hr m hm
def ve(S:bZ W g σ s)(E:eN W g env sc aP ρ){x:af}{nm:aI}{v:aC}{u:aH}{Q:jE→bz→Prop}(h:(x,nm)∈aP)(r:c7 W g v u)
  (q:∀g' s',Le (BT env nm) g g'→eN W g' env sc aP (ρ.set x (ac v))→bZ W g' σ s'→Q () s'):Wp W A (storeName env nm u) Q s:=by
 refine aw fun kz=>?_
 obtain ⟨ai1,hh,_⟩:=E.pV _ h
 refine kz ?_;try clear kz
 have kk:∀n(P:Prop),env.kindOf n=ac .local→(env.kindOf n=ac .cell∨env.kindOf n=ac .free)→P:=fun n P k1 k2=>by
  rcases k2 with k2|k2<;>(rw [k1] at k2;cases k2)
 induction hh with
 |az hk o m e hm hv=>
  refine wpAny_storeName_local hk (hm.eb (S.iQ _ _ e)) (fun h' m4 sH=>?_) (by refine aq E.cx ?_;rfl)
  refine aw fun kz=>?_
  obtain ⟨o',e',BR⟩:=kL.eu m4
  refine kz ?_;try clear kz
  refine q ⟨g.F,g.T.dB env.locals o',g.α⟩ _ ⟨nI.bc _,lK _,fun a ha=>cr.fc _ _ fun z=>ha (.inl ⟨hk,z⟩)⟩ ?_ (S.Xd (s.toks+1) e sH e')
  refine E.Et h r (fun n c h=>let ⟨o,e⟩:=E.Jz n c h;⟨o,(cr.fc _ _ (E.iL _ _ h)).trans e⟩) ⟨_,cr.d9 _ _ _,_,BR⟩ fun p hp w hw=>?_
  induction hw with
  |az xw MT m₁ F7 S4 h₁=>
   rw [e] at F7;obtain rfl:=cp F7
   obtain rfl:=aex hm S4
   refine .az xw o' _ (cr.d9 _ _ _) BR ?_
   by_cases z:p.2=nm
   ·(refine aq (bD z) ?_;refine aq (bD z) ?_;rfl)
   ·(refine aq (cL z) ?_;refine aq (cL z) ?_);exact h₁
  |js xw MU MV MT H9 F7 h₁=>
   refine aq (cL (show¬p.2=nm from fun z=>kk nm dj hk (z▸xw))) ?_
   exact .js xw MU MV MT H9 ((cr.fc _ _ (E.iL _ _ H9)).trans F7) h₁
 |js hk hn c o hc e hd=>
  have y7:s.heap.IsCell c ai1:=⟨o,S.iQ _ _ e,hd⟩
  have fJ:∀h',h'.IsCell c (ac u)→yx c s.heap h'→Q () {s with heap:=h'}:=by
   intro h' hc' sH
   refine aw fun kz=>?_
   obtain ⟨o',e',hd'⟩:=hc'
   refine kz ?_;try clear kz
   refine q ⟨g.F,g.T.dB c o',g.α⟩ _ ⟨nI.bc _,lK _,fun a ha=>cr.fc _ _ fun z=>ha (.inr ⟨hk,z▸hc⟩)⟩ ?_ (S.Xd s.toks e sH e')
   refine E.Et h r (fun n MV h=>?_) (let ⟨o,e,r⟩:=E.OU;⟨o,(cr.fc _ _ (E.iL _ _ hc).symm).trans e,r⟩) fun p hp w hw=>?_
   ·by_cases z:MV=c
    ·subst z;exact ⟨_,cr.d9 _ _ _⟩
    ·obtain ⟨o,e⟩:=E.Jz n MV h;exact ⟨o,(cr.fc _ _ z).trans e⟩
   induction hw with
   |az xw MT m₁ F7 S4 h₁=>
    refine aq (cL (show¬p.2=nm from fun z=>kk nm dj (z▸xw) hk)) ?_
    exact .az xw MT m₁ ((cr.fc _ _ (E.iL _ _ hc).symm).trans F7) S4 h₁
   |js xw MU MV MT H9 F7 h₁=>
    by_cases z:p.2=nm
    ·refine aq (bD z) ?_
     exact .js xw MU c o' (by refine aq z ?_;exact hc) (cr.d9 _ _ _) hd'
    ·refine aq (cL z) ?_
     exact .js xw MU MV MT H9 ((cr.fc _ _ fun y=>z (E.inj _ _ _ (y▸H9) hc)).trans F7) h₁
  rcases hk with hk|hk
  ·exact wpAny_storeName_cell E.cx hk hc y7 fJ
  ·unfold storeName
   simp only [hk,E.cx]
   exact bV (wpAny_cellOf hc (wpAny_cellSet y7 fJ))
end
noncomputable def sE(W:Wd)(k:af):aH:=cE (lx k 1000) (.ref (W.lJ k)) (.ref (W.eK (k-1000)))
def BU(W:Wd)(f:aH):Prop:=(∃id,f=.builtin id)∨(∃T,f=.type T)∨oP W.K f=ak
def GV(W:Wd)(d:af)(C:bw):Prop:=∀(k:af)(args:ao aC)(σ:an)(K:KE),C k args σ K→∀(g:cZ)(s:bz)(vs:ao aH)(A:dD),BQ A d→bZ W g σ s→dI W g args vs→Wp W A (gH (sE W k) vs) (VP W g K) s
def Ez(W:Wd)(d:af)(C:bw):Prop:=(l9 W)∧(W.Da=tQ)∧(∀k,(W.T.tZ[k]?).isSome=ak→oP W.K (.ref (W.lJ k))=ak)∧(∀k,(W.T.tZ[k]?).isSome=ak→lx k 1000=ak)∧(∀(c:af)(k:nP),W.T.e6[c]? =ac k→∀p∈k.mU,oP W.K (.ref (W.lJ p.2))=ak)∧(GV W d C)
section
variable{W:Wd}{d:af}{C:bw}(s0:Ez W d C)
include s0
def Ez.bm:l9 W:=s0.1
def Ez.bi:W.Da=tQ:=s0.2.1
def Ez.bF:∀k,(W.T.tZ[k]?).isSome=ak→oP W.K (.ref (W.lJ k))=ak:=s0.2.2.1
def Ez.HZ:∀k,(W.T.tZ[k]?).isSome=ak→lx k 1000=ak:=s0.2.2.2.1
def Ez.S5:∀(c:af)(k:nP),W.T.e6[c]? =ac k→∀p∈k.mU,oP W.K (.ref (W.lJ p.2))=ak:=s0.2.2.2.2.1
def Ez.S6:GV W d C:=s0.2.2.2.2.2
end
structure vQ(W:Wd)(A:dD)(g:cZ)(s:bz)(e:aT)(env:cB)(V:KE→Prop):Prop where
 dC:∀K,V K→Wp W A (fo e env) (VP W g K) s
 qe:∀{K2:KE}(K:av→an→Prop),(∀m σ,K2 m σ→oQ K m σ)→V K2→Wp W A (Hq e env (fo e env)) (TP W g K) s
def eW(W:Wd)(d:af)(C:bw)(ir:a8):Prop:=∀{sc:Sc}{aP:fH}{e:aT}{A:dD}{g:cZ}{σ:an}{s:bz}{env:cB}{ρ:bJ},mE W.T sc aP ir e=ak→At W d A g σ s env sc aP ρ→vQ W A g s e env (vE ⟨W.T,C⟩ ir ρ σ)
section
variable{W:Wd}{g g':cZ}{σ:an}{s:bz}{A:dD}{d:af}{C:bw}
def vQ.eu{e:aT}{env:cB}{V:KE→Prop}(h:∀K,V K→Wp W A (fo e env) (VP W g K) s)(he:Hq e env (fo e env)=(do let v ← fo e env;uN e.pos;tz [v] (yr v))):vQ W A g s e env V:=
 ⟨h,fun K h2 k=>wpAny_isTrue_value ((h _ k).vp fun u s₁ m cJ bT l r S k=>(qZ (γ:=jE) S r (h2 _ _ k)).yX l) he⟩
def ai2{a b:I4}(h:I4.aca a b=ak):a=b:=by
 induction a<;>induction b<;>first|rfl|exact a7 _ (cz h)|exact cG h
def Wb{c:Const}{i:I4}(h:afv c=ac i):(c=.none∧i=.aA)∨(∃b,c=.bool b∧i=.aG b)∨(∃b,c=.int b∧i=.ae b)∨∃b,c=.str b∧i=.ah b:=by
 induction c<;>first|exact bn h|(obtain rfl:=cp h;first|exact .inl ⟨ag,ag⟩|exact .inr (.inl ⟨_,ag,ag⟩)|exact .inr (.inr (.inl ⟨_,ag,ag⟩))|exact .inr (.inr (.inr ⟨_,ag,ag⟩)))
def F8{c:I4}{e:aT}(hm:H7 e c=ak){env:cB}(S:bZ W g σ s):vQ W A g s e env fun K=>K (.f c.x) σ:=by
 apply Kh hm
 intro k n pos h2
 refine aw fun kz=>?_
 obtain ⟨i,h3,h4⟩:=kZ h2
 obtain rfl:=ai2 h4
 refine kz ?_;try clear kz
 rcases Wb h3 with ⟨rfl,rfl⟩|⟨b,rfl,rfl⟩|⟨b,rfl,rfl⟩|⟨b,rfl,rfl⟩
 ·exact .eu (fun K k=>wpAny_Constant_none (VP.f (x:=.aA) S ag k)) ag
 ·exact .eu (fun K k=>wpAny_Constant_bool (VP.aG S k)) ag
 ·exact .eu (fun K k=>wpAny_Constant_int (VP.ae (S.uc _) k)) ag
 ·exact .eu (fun K k=>wpAny_Constant_str (VP.ah (S.uc _) k)) ag
def ahd(x:af):eW W d C (.az x):=fun hm h=>by
 apply nL hm
 intro id pos h2
 refine gu h2 fun h3 h4=>.eu (fun K k=>?_) ag
 obtain ⟨v,hv,k⟩:=fk k
 exact wpAny_Name (NQ h.S h.E (vi.mp h3) hv fun u r=>VP.m h.S r k) (G4 _ |>.mp h4)
def aey(hW:l9 W)(gl:af):eW W d C (.aJ gl):=fun hm h=>by
 apply nL hm
 intro id pos h2
 refine aw fun kz=>?_
 obtain ⟨⟨nm,v⟩,h3,h4⟩:=kZ h2
 refine kz ?_;try clear kz
 refine iG h4 fun h5 h6 hd=>.eu (fun K k=>?_) ag
 refine aw fun kz=>?_
 obtain rfl:nm=id:=cz h5
 obtain ⟨q,hq,k⟩:=fk k
 refine kz ?_;try clear kz
 rw [show (⟨W.T,C⟩:g9).T.tH[gl]? =_ from h3] at hq
 obtain rfl:=cp hq
 refine aw fun kz=>?_
 obtain ⟨mg,u,hn,r,hv⟩:=hW.tH gl nm v h3
 refine kz ?_;try clear kz
 have hS:=h.S
 have ex:∀{a:be}{m:aI→aM aH},W.ea.Ns a m→_:=fun x=>x.keeps fun b o e=>hS.m9 e
 have fJ:=VP.f hS (iE.bu hS.m8 r) k
 refine abk h.E.cx (h.E.aJ _ (cz h6)) ?_ (G4 _ |>.mp hd)
 rcases hv with hv|⟨hv,mb,hb,hm⟩
 ·exact loadGlobal_global (by refine aq h.E.pU ?_;exact ex hn) hv fJ
 ·exact abl (by refine aq h.E.pU ?_;exact ex hn) hv (by refine aq h.E.qg ?_;exact ex hb) hm fJ
def ahe(fz:av)(op:EX){a b:a8}(ha:eW W d C a)(hb:eW W d C b):eW W d C (.d6 fz op a b):=fun hm h=>by
 apply V5 hm
 intro l o r pos h2
 refine iG h2 fun h3 h4 h5=>?_
 obtain rfl:=eX h3
 refine .eu (fun K k=>wpAny_BinOp (((ha h4 h).dC _ k).vp fun u s₁ m cJ bT l₁ cf bv bX=>?_)) ag
 refine ((hb h5 (h.aS l₁ bv)).dC _ bX).vp fun w df m₂ kM g5 l₂ nW dU eV=>?_
 exact (Qr dU (cf.bu l₂) nW eV).iX (l₁.aX l₂)
def ahf{a:a8}(ha:eW W d C a):eW W d C (.g8 a):=fun hm h=>by
 apply Df hm
 intro o x pos h2
 refine gu h2 fun h3 h4=>?_
 obtain rfl:=eX h3
 have E:=ha h4 h
 refine ⟨fun K k=>wpAny_UnaryOp ((E.dC _ k).vp fun u s₁ m cJ bT l₁ cf bv bX=>?_),fun K h2 k=>wpAny_isTrue_Not ?_⟩
 ·exact not_value ((qZ (γ:=jE) bv cf bX).bu fun c df jF=>by obtain ⟨kM,g5,l₂,dU,q⟩:=jF;exact VP.iX (l₁.aX l₂) (VP.aG dU q))
 ·refine E.qe (fun b σ=>K (!b) σ) (fun m σ q=>?_) k
  obtain ⟨b,e,q⟩:=fk q
  unfold oQ
  refine aq e ?_
  exact h2 _ _ q
def ahg{a:a8}(ha:eW W d C a):eW W d C (.tF a):=fun hm h=>by
 apply Df hm
 intro o x pos h2
 refine gu h2 fun h3 h4=>?_
 obtain rfl:=eX h3
 exact .eu (fun K k=>wpAny_UnaryOp (((ha h4 h).dC _ k).vp fun u s₁ m cJ bT l₁ cf bv bX=>(Qs bv cf bX).iX l₁)) ag
def ahh{c a b:a8}(hc:eW W d C c)(ha:eW W d C a)(hb:eW W d C b):eW W d C (.fB c a b):=fun hm h=>by
 apply V6 hm
 intro t x y pos h2
 refine iG h2 fun h3 h4 h5=>?_
 refine ⟨fun K k=>wpAny_IfExp (((hc h3 h).qe (fun t σ=>tI t (vE _ a _ σ K) (vE _ b _ σ K)) (fun q9 q9 q=>q) k).zP fun c s₁ cJ bT l₁ bv bX=>?_),fun {K2} K h2 k=>bV (((hc h3 h).qe (fun t σ=>tI t (vE _ a _ σ K2) (vE _ b _ σ K2)) (fun q9 q9 q=>q) k).zP fun c s₁ cJ bT l₁ bv bX=>?_)⟩
 ·induction c with
  |true=>exact ((ha h4 (h.aS l₁ bv)).dC _ bX).iX l₁
  |false=>exact ((hb h5 (h.aS l₁ bv)).dC _ bX).iX l₁
 ·induction c with
  |true=>exact ((ha h4 (h.aS l₁ bv)).qe _ h2 bX).yX l₁
  |false=>exact ((hb h5 (h.aS l₁ bv)).qe _ h2 bX).yX l₁
def nM{α:Type}{o:aM α}(h:o.isSome=ak):∃x,o=ac x:=Lo.mp h
def Wc{e:aT}(h:BS e=ak):(∃a b,e=.Name a b)∨(∃a b c,e=.Attribute a b c)∨(∃a b c,e=.Subscript a b c)∨∃a b c,e=.Dict a b c:=by
 rcases qS.mp h with h|h
 ·obtain ⟨x,_⟩:=nM h
  exact .inl ⟨_,_,x.2⟩
 rcases qS.mp h with h|h
 ·obtain ⟨x,_⟩:=nM h
  exact .inr (.inl ⟨_,_,_,x.2⟩)
 rcases qS.mp h with h|h
 ·obtain ⟨x,_⟩:=nM h
  exact .inr (.inr (.inl ⟨_,_,_,x.2⟩))
 ·obtain ⟨x,_⟩:=nM h
  exact .inr (.inr (.inr ⟨_,_,_,x.2⟩))
def GW{e:aT}(h:BS e=ak){env:cB}:(∀nm whole,attributeBase e nm env whole=whole)∧Hq e env (fo e env)=(do let v ← fo e env;uN e.pos;tz [v] (yr v)):=by
 rcases Wc h with ⟨_,_,rfl⟩|⟨_,_,_,rfl⟩|⟨_,_,_,rfl⟩|⟨_,_,_,rfl⟩<;>exact ⟨fun q9 q9=>ag,ag⟩
def aez(hW:l9 W){o:a8}(nm:aI)(ho:eW W d C o):eW W d C (.aB o nm):=fun hm h=>by
 apply tR hm
 intro v a pos h2
 refine iG h2 fun h3 h4 h5=>?_
 obtain rfl:nm=a:=cz h3
 refine .eu (fun K k=>Attribute_any_ (((ho h5 h).dC _ k).vp fun u s₁ m cJ bT l₁ cf bv bX=>(NA hW bv cf bX).iX l₁) ?_) ag
 rw [arm_eval_Attribute,(GW h4).1]
def ahi{a:a8}(ha:eW W d C a):eW W d C (.tG a):=fun hm h=>by
 refine gu hm fun hb hm=>?_
 have E:=ha hm h
 refine .eu (fun K k=>(E.dC _ k).vp fun u s₁ m cJ bT l₁ cf bv bX=>?_) (GW hb).2
 ·rcases sg bX with ⟨_,q⟩|⟨i,hi,q⟩
  ·refine aw fun kz=>?_
   obtain ⟨m',bS,q,eV⟩:=jD q
   obtain ⟨x,hx,e⟩:=cK q
   obtain rfl:=jm hx
   refine kz ?_;try clear kz
   cases e
   exact ⟨_,_,bT,l₁,cf,bv,eV⟩
  ·refine aw fun kz=>?_
   obtain rfl:=oo hi
   obtain ⟨m',bS,q,eV⟩:=jD q
   obtain ⟨xs,hx,e⟩:=cK q
   refine kz ?_;try clear kz
   cases e
   refine aw fun kz=>?_
   obtain ⟨ad,rfl,hi⟩:=cf
   obtain ⟨hF,vs,n,f,r⟩:=bv.wf hi hx
   obtain ⟨dU,l₂⟩:=(bv.aiX i).yW f hF (bv.kT ad (gM hi)) fun j hj=>by
    have:i=j:=by
     apply Sq
     intro z
     exact Js bv.tP hi hj z ag
    (refine iu this ?_;rw [LG (bv.bh▸(fM.mp hi).1)])
   refine kz ?_;try clear kz
   refine ⟨_,_,_,l₁.aX l₂,?_,dU,eV⟩
   exact ⟨ad,vs,n,ag,cr.d9 _ _ _,r.bu l₂.F⟩
end
def MsP(W:Wd)(g:cZ)(K:ao aC→an→Prop)(us:ao aH)(s':bz):Prop:=∃ms bS g',tO g g'∧dI W g' ms us∧bZ W g' bS s'∧K ms bS
def zS(W:Wd)(d:af)(C:bw)(xs:c4):Prop:=∀{sc:Sc}{aP:fH}{es:ao aT}{A:dD}{g:cZ}{σ:an}{s:bz}{env:cB}{ρ:bJ},xG W.T sc aP xs es=ak→At W d A g σ s env sc aP ρ→∀(pos:bG)(K:ao aC→an→Prop),Ob ⟨W.T,C⟩ xs ρ σ K→Wp W A (wz (tA pos (qL es env))) (MsP W g K) s
structure MW(W:Wd)(A:dD)(g:cZ)(s:bz)(op:BoolOp)(es:ao aT)(env:cB)(V:KE→Prop):Prop where
 dC:∀pos K,V K→Wp W A (boolOp pos op (oO es env)) (VP W g K) s
 qe:∀{K2:KE}(K:av→an→Prop),(∀m σ,K2 m σ→oQ K m σ)→V K2→Wp W A (allTrue op es env) (TP W g K) s
def AK(W:Wd)(d:af)(C:bw)(xs:c4):Prop:=∀{sc:Sc}{aP:fH}{es:ao aT}{A:dD}{g:cZ}{σ:an}{s:bz}{env:cB}{ρ:bJ},xG W.T sc aP xs es=ak→At W d A g σ s env sc aP ρ→MW W A g s .And es env (W6 ⟨W.T,C⟩ xs ρ σ)
def Iw(W:Wd)(d:af)(C:bw)(xs:c4):Prop:=∀{sc:Sc}{aP:fH}{es:ao aT}{A:dD}{g:cZ}{σ:an}{s:bz}{env:cB}{ρ:bJ},xG W.T sc aP xs es=ak→At W d A g σ s env sc aP ρ→MW W A g s .Or es env (vOr ⟨W.T,C⟩ xs ρ σ)
section
variable{W:Wd}{g g':cZ}{σ:an}{s:bz}{A:dD}{d:af}{C:bw}
def Wp.ms{t:gO (ao aH)}{K:ao aC→an→Prop}{Q:ao aH→bz→Prop}(h:Wp W A t (MsP W g K) s)(k:∀us s' ms bS g',tO g g'→dI W g' ms us→bZ W g' bS s'→K ms bS→Q us s'):Wp W A t Q s:=h.bu fun u s' jF=>by obtain ⟨m,bS,g',l,r,S,q⟩:=jF;exact k u s' m bS g' l r S q
def d5{b:av}(h:(!b)=ak):b=aF:=(G4 b).mp h
def si{e:aT}{es:ao aT}{env:cB}(h:kU e=aF):qL (e::es) env=(aF,fo e env)::qL es env:=by
 cases e<;>first|rfl|exact cG h
def xZ{T:vk}{sc:Sc}{aP:fH}{env:cB}{pos:bG}:∀{xs:c4}{es:ao aT},xG T sc aP xs es=ak→(tA pos (qL es env)).any (·.1)=aF∧(tA pos (qL es env)).all (fun x=>!x.1)=ak
 |.ab,es,h=>by refine aq (o4.mp h) ?_;exact ⟨ag,ag⟩
 |.O x xs,es,h=>by
  apply du h
  intro e es h
  refine iG h fun h1 h2 h3=>?_
  obtain ⟨i1,i2⟩:=xZ (xs:=xs) h3
  refine aq (si (d5 h1)) ?_
  exact ⟨i1,i2⟩
def kA{e:aT}{rest:ao aT}{env:cB}{pos:bG}{Q:ao aH→bz→Prop}(hs:kU e=aF)(h:Wp W A (fo e env) (fun v s₁=>Wp W A (wz (tA pos (qL rest env))) (fun vs df=>Q (v::vs) df) s₁) s):Wp W A (wz (tA pos (qL (e::rest) env))) Q s:=spliced_more h (by (refine aq (si hs) ?_;rfl))
def aeA:zS W d C .ab:=fun hm h pos K k=>by
 refine aq (o4.mp hm) ?_
 exact Mn ⟨[],_,_,.bc _,ag,h.S,k⟩
def OV{a:a8}{r:c4}(ha:eW W d C a)(hr:zS W d C r):zS W d C (.O a r):=fun hm h pos K k=>by
 apply du hm
 intro e es hm
 refine iG hm fun h1 h2 h3=>?_
 refine kA (d5 h1) (((ha h2 h).dC _ k).vp fun u s₁ m cJ bT l₁ cf bv bX=>?_)
 refine (hr h3 (h.aS l₁ bv) pos _ bX).ms fun us df ms kM g5 l₂ nW dU eV=>?_
 exact ⟨m::ms,kM,g5,l₁.aX l₂,⟨u,us,ag,cf.bu l₂,nW⟩,dU,eV⟩
def Ze{a:a8}(ha:eW W d C a):AK W d C (.O a .ab):=fun hm h=>by
 apply du hm
 intro e es hm
 refine iG hm fun h1 h2 h3=>?_
 apply jr h3
 have E:=ha h2 h
 refine ⟨fun pos K k=>E.dC K k,fun K h2 k=>aaA ((E.qe K h2 k).bu fun c s₁ P=>?_)⟩
 induction c with
 |true=>exact wpAny_allTrue_And_nil P
 |false=>exact P
def aeB{a:a8}(ha:eW W d C a):Iw W d C (.O a .ab):=fun hm h=>by
 apply du hm
 intro e es hm
 refine iG hm fun h1 h2 h3=>?_
 apply jr h3
 have E:=ha h2 h
 refine ⟨fun pos K k=>E.dC K k,fun K h2 k=>aaB ((E.qe K h2 k).bu fun c s₁ P=>?_)⟩
 induction c with
 |true=>exact P
 |false=>exact wpAny_allTrue_Or_nil P
def ahj{K2:KE}{K:av→an→Prop}(h2:∀m σ,K2 m σ→oQ K m σ){b:an→KE→Prop}{m:aC}{σ:an}(q:acC K2 b m σ):oQ (fun t σ=>tI t (b σ K2) (K aF σ)) m σ:=by
 refine aw fun kz=>?_
 obtain ⟨t,e,q⟩:=fk q
 refine kz ?_;try clear kz
 unfold oQ
 refine aq e ?_
 induction t
 ·have:=h2 _ _ q
  unfold oQ at this
  rw [e] at this
  exact this
 ·exact q
def ai3{K2:KE}{K:av→an→Prop}(h2:∀m σ,K2 m σ→oQ K m σ){b:an→KE→Prop}{m:aC}{σ:an}(q:kOr K2 b m σ):oQ (fun t σ=>tI t (K ak σ) (b σ K2)) m σ:=by
 refine aw fun kz=>?_
 obtain ⟨t,e,q⟩:=fk q
 refine kz ?_;try clear kz
 unfold oQ
 refine aq e ?_
 induction t
 ·exact q
 ·have:=h2 _ _ q
  unfold oQ at this
  rw [e] at this
  exact this
def OW{es:ao aT}{T:vk}{sc:Sc}{aP:fH}{a:a8}{r:c4}{P:ao aT→Prop}(h:xG T sc aP (.O a r) es=ak)(k:∀y ys,P (y::ys)):P es:=du h fun y ys q9=>k y ys
def We{a a':a8}{r:c4}(ha:eW W d C a)(hr:AK W d C (.O a' r)):AK W d C (.O a (.O a' r)):=fun {sc aP es A g σ s env ρ} hm h=>by
 apply du hm
 intro e es hm
 refine iG hm fun h1 h2 h3=>?_
 have E:=ha h2 h
 refine OW (P:=fun es=>xG W.T sc aP (.O a' r) es=ak→MW W A g s _ (e::es) env _) h3 (fun y ys h3=>?_) h3
 refine ⟨fun pos K k=>?_,fun {K2} K hk k=>aaA ((E.qe (K2:=acC K2 (W6 ⟨W.T,C⟩ (.O a' r) ρ)) _ (fun q9 q9=>ahj hk) k).zP fun c s₁ cJ bT l₁ bv bX=>?_)⟩
 ·refine bV ((E.dC _ k).vp fun u s₁ m cJ bT l₁ cf bv bX=>bV (mN (bV (jI ?_))))
  refine aw fun kz=>?_
  obtain ⟨t,et,eV⟩:=fk bX
  refine kz ?_;try clear kz
  refine (qZ (γ:=jE) (K:=fun c σ=>c=t∧σ=cJ) bv cf (by refine aq et ?_;exact ⟨ag,ag⟩)).bu fun c df jF=>?_
  refine aw fun kz=>?_
  obtain ⟨kM,g5,l₂,dU,e1,e2⟩:=jF
  refine kz ?_;try clear kz
  subst e1 e2
  induction c with
  |true=>exact ((hr h3 (h.aS (l₁.aX l₂) dU)).dC pos _ eV).iX (l₁.aX l₂)
  |false=>exact fV ⟨m,_,g5,l₁.aX l₂,cf.bu l₂,dU,eV⟩
 ·induction c with
  |true=>exact ((hr h3 (h.aS l₁ bv)).qe K hk bX).yX l₁
  |false=>exact ⟨cJ,bT,l₁,bv,bX⟩
def Zf{a a':a8}{r:c4}(ha:eW W d C a)(hr:Iw W d C (.O a' r)):Iw W d C (.O a (.O a' r)):=fun {sc aP es A g σ s env ρ} hm h=>by
 apply du hm
 intro e es hm
 refine iG hm fun h1 h2 h3=>?_
 have E:=ha h2 h
 refine OW (P:=fun es=>xG W.T sc aP (.O a' r) es=ak→MW W A g s _ (e::es) env _) h3 (fun y ys h3=>?_) h3
 refine ⟨fun pos K k=>?_,fun {K2} K hk k=>aaB ((E.qe (K2:=kOr K2 (vOr ⟨W.T,C⟩ (.O a' r) ρ)) _ (fun q9 q9=>ai3 hk) k).zP fun c s₁ cJ bT l₁ bv bX=>?_)⟩
 ·refine bV ((E.dC _ k).vp fun u s₁ m cJ bT l₁ cf bv bX=>bV (mN (bV (jI ?_))))
  refine aw fun kz=>?_
  obtain ⟨t,et,eV⟩:=fk bX
  refine kz ?_;try clear kz
  refine (qZ (γ:=jE) (K:=fun c σ=>c=t∧σ=cJ) bv cf (by refine aq et ?_;exact ⟨ag,ag⟩)).bu fun c df jF=>?_
  refine aw fun kz=>?_
  obtain ⟨kM,g5,l₂,dU,e1,e2⟩:=jF
  refine kz ?_;try clear kz
  subst e1 e2
  induction c with
  |false=>exact ((hr h3 (h.aS (l₁.aX l₂) dU)).dC pos _ eV).iX (l₁.aX l₂)
  |true=>exact fV ⟨m,_,g5,l₁.aX l₂,cf.bu l₂,dU,eV⟩
 ·induction c with
  |false=>exact ((hr h3 (h.aS l₁ bv)).qe K hk bX).yX l₁
  |true=>exact ⟨cJ,bT,l₁,bv,bX⟩
def ahk{xs:c4}(hx:AK W d C xs):eW W d C (.dX xs):=fun hm h=>by
 apply F2 hm
 intro o vs pos h2
 refine gu h2 fun h3 h4=>?_
 obtain rfl:=eX h3
 have R:=hx h4 h
 exact ⟨fun K k=>by rw [arm_eval_BoolOp];exact R.dC _ K k,fun K hk k=>aaG (R.qe K hk k)⟩
def ai4{xs:c4}(hx:Iw W d C xs):eW W d C (.iP xs):=fun hm h=>by
 apply F2 hm
 intro o vs pos h2
 refine gu h2 fun h3 h4=>?_
 obtain rfl:=eX h3
 have R:=hx h4 h
 exact ⟨fun K k=>by rw [arm_eval_BoolOp];exact R.dC _ K k,fun K hk k=>aaG (R.qe K hk k)⟩
end
def QF(W:Wd)(A:dD)(g:cZ)(s:bz)(pos:bG)(u:aH)(os:ao ly)(es:ao aT)(env:cB)(V:(av→an→Prop)→Prop):Prop:=(∀K:KE,V (wJ K)→Wp W A (D4 pos u os (pE os es (oO es env))) (VP W g K) s)∧(∀{K2:KE}(K:av→an→Prop),(∀m σ,K2 m σ→oQ K m σ)→V (wJ K2)→Wp W A (D7 pos u os (pE os es (oO es env))) (TP W g K) s)
section
variable{W:Wd}{A:dD}{g:cZ}{s:bz}{pos:bG}{u:aH}{os:ao ly}{es:ao aT}{env:cB}{V:(av→an→Prop)→Prop}(s0:QF W A g s pos u os es env V)
include s0
def QF.dC:∀K:KE,V (wJ K)→Wp W A (D4 pos u os (pE os es (oO es env))) (VP W g K) s:=s0.1
def QF.qe:∀{K2:KE}(K:av→an→Prop),(∀m σ,K2 m σ→oQ K m σ)→V (wJ K2)→Wp W A (D7 pos u os (pE os es (oO es env))) (TP W g K) s:=s0.2
end
def F9(W:Wd)(d:af)(C:bw)(cs:wC):Prop:=∀{sc:Sc}{aP:fH}{os:ao ly}{es:ao aT}{A:dD}{g:cZ}{σ:an}{s:bz}{env:cB}{ρ:bJ}{a:aC}{u:aH}{pos:bG},mCs W.T sc aP cs os es=ak→At W d A g σ s env sc aP ρ→c7 W g a u→QF W A g s pos u os es env (vCs ⟨W.T,C⟩ cs ρ a σ)
section
variable{W:Wd}{g g':cZ}{σ:an}{s:bz}{A:dD}{d:af}{C:bw}{env:cB}
def aeC{op:ly}{x:aT}(h:MS x=aF)(t:gO aH):markedBehindIn op x t=t:=by
 have e:behindInMarks op x=aF:=by
  unfold behindInMarks
  induction op<;>cases x<;>first|rfl|exact cG h
 unfold markedBehindIn
 (refine aq e ?_;rfl)
def Ga{o:ly}{y:aT}:∀{os:ao ly}{ys:ao aT},∃z zs,pE (o::os) (y::ys) (oO (y::ys) env)=z::zs:=by
 intro os
 induction os with
 |nil=>
  intro ys
  rcases ys with _|⟨_,_⟩
  ·exact ⟨_,_,ag⟩
  ·exact ⟨_,_,ag⟩
 |cons _ _ ih=>
  intro ys
  rcases ys with _|⟨_,_⟩
  ·exact ⟨_,_,ag⟩
  ·exact ⟨_,_,ag⟩
def ya(hW:l9 W){sc:Sc}{aP:fH}{ρ:bJ}(h:At W d A g σ s env sc aP ρ){e:a8}{x:aT}(E:vQ W A g s x env (vE ⟨W.T,C⟩ e ρ σ)){op:Kq}{a:aC}{u:aH}(r:c7 W g a u){K:aC→av→an→Prop}(k:vE ⟨W.T,C⟩ e ρ σ fun v σ=>oi (fg W.T σ op a v) fun b=>K v b σ)
  {Q:aH→aH→bz→Prop} (q:∀v b s' m bS g',tO g g'→c7 W g' m v→bZ W g' bS s'→K m b bS→Q v (.bool b) s'):Wp W A (fo x env) (fun v s₁=>Wp W A (D6 (Iu op) u v) (Q v) s₁) s:=
 (E.dC _ k).vp fun v s₁ m cJ bT l₁ cf bv bX=>by
  obtain ⟨b,hb,eV⟩:=fk bX
  refine (Qq hW bv h.a.aha (r.bu l₁) cf hb).bu fun c df ⟨e,dU⟩=>?_
  refine aq e ?_
  exact q v b df m cJ bT l₁ cf dU eV
def aeD(hW:l9 W){op:Kq}{e:a8}(he:eW W d C e):F9 W d C (.O op e .ab):=fun {sc aP os es A g σ s env ρ a u pos} hm h r=>by
 apply du hm
 intro o os hm
 apply du hm
 intro x es hm
 refine ul hm fun h1 h2 h3 h4=>gu h4 fun h4 h5=>?_
 obtain rfl:=eX h1
 (refine aq (o4.mp h4) ?_;refine aq (o4.mp h5) ?_)
 have E:=he h3 h
 have e1:pE [Iu op] [x] (oO [x] env)=[fo x env] :=a7 (· :: []) (aeC (d5 h2) _)
 refine ⟨fun K k=>?_,fun {K2} K hk k=>?_⟩
 ·refine aq e1 ?_
  exact bV (jI ((ya hW h E r (K:=fun q9 b σ=>K (.f (.aG b)) σ) k (Q:=fun q9 c s'=>VP W g K c s') fun v b s' m bS g' l q9 S q=>(VP.aG S q).iX l).bu fun v s₁ h₁=>bV (mN (wpAny_operating h₁))))
 ·refine aq e1 ?_
  refine bV (jI ((ya hW h E r (K:=fun q9 b σ=>K2 (.f (.aG b)) σ) k (Q:=fun q9 c s'=>Wp W A (yr c) (TP W g K) s') fun v b s' m bS g' l q9 S q=>?_).bu fun v s₁ h₁=>bV (mN (bV (wpAny_operating (h₁.bu fun w df h₂=>jI h₂))))))
  exact LZ ⟨bS,g',l,S,hk _ _ q⟩
def ai5{op:ly}{o':ly}{y:aT}{os:ao ly}{es:ao aT}{u:aH}{pos:bG}{t:gO aH}:D4 pos u (op::o'::os) (t::pE (o'::os) (y::es) (oO (y::es) env))=(do
  let rv ← tz [u] t
  uN pos
  let c ← tz [u,rv] (D6 op u rv)
  release [u,rv] [c]
  if ← tz [c,rv] (yr c) then D4 pos rv (o'::os) (pE (o'::os) (y::es) (oO (y::es) env)) else dM c):=by
 refine aw fun kz=>?_
 obtain ⟨z,zs,hz⟩:=Ga (env:=env) (o:=o') (y:=y) (os:=os) (ys:=es)
 refine kz ?_;try clear kz
 refine aq hz ?_;rfl
def ai6{op:ly}{o':ly}{y:aT}{os:ao ly}{es:ao aT}{u:aH}{pos:bG}{t:gO aH}:D7 pos u (op::o'::os) (t::pE (o'::os) (y::es) (oO (y::es) env))=(do
  let rv ← tz [u] t
  uN pos
  let c ← tz [u,rv] (D6 op u rv)
  release [u,rv] [c]
  if ← tz [c,rv] (yr c) then D7 pos rv (o'::os) (pE (o'::os) (y::es) (oO (y::es) env)) else dM aF):=by
 refine aw fun kz=>?_
 obtain ⟨z,zs,hz⟩:=Ga (env:=env) (o:=o') (y:=y) (os:=os) (ys:=es)
 refine kz ?_;try clear kz
 refine aq hz ?_;rfl
def ahl{W:Wd}{sc:Sc}{aP:fH}{op:Kq}{e:a8}{r:wC}{os:ao ly}{es:ao aT}{P:ao ly→ao aT→Prop}(h:mCs W.T sc aP (.O op e r) os es=ak)(k:∀o os y es,mCs W.T sc aP (.O op e r) (o::os) (y::es)=ak→P (o::os) (y::es)):P os es:=by
 rcases os with _|⟨o,os⟩
 ·exact cG h
 rcases es with _|⟨y,es⟩
 ·exact cG h
 exact k o os y es h
def Zg(hW:l9 W){op Xo:Kq}{e e':a8}{r':wC}(he:eW W d C e)(hr:F9 W d C (.O Xo e' r')):F9 W d C (.O op e (.O Xo e' r')):=fun {sc aP os es A g σ s env ρ a u pos} hm h r=>by
 apply du hm
 intro o os hm
 apply du hm
 intro x es hm
 refine ul hm fun h1 h2 h3 h4=>?_
 obtain rfl:=eX h1
 refine ahl (P:=fun os es=>QF W A g s pos u (Iu op::os) (x::es) env _) h4 fun o' os y es h4=>?_
 have E:=he h3 h
 refine ⟨fun K k=>(?_:Wp W A (D4 pos u (Iu op::o'::os) (fo x env::pE (o'::os) (y::es) (oO (y::es) env))) _ s),fun {K2} K hk k=>(?_:Wp W A (D7 pos u (Iu op::o'::os) (fo x env::pE (o'::os) (y::es) (oO (y::es) env))) _ s)⟩
 ·refine aq ai5 ?_
  refine bV (jI ((ya hW h E r (K:=fun v b σ=>tI b (vCs ⟨W.T,C⟩ (.O Xo e' r') ρ v σ (wJ K)) (wJ K aF σ)) k (Q:=fun v c s'=>Wp W A (yr c) (fun t s''=>Wp W A (if t=ak then D4 pos v (o'::os) (pE (o'::os) (y::es) (oO (y::es) env)) else dM c) (VP W g K) s'') s') fun v b s' m bS g' l rv S q=>?_).bu fun v s₁ h₁=>bV (mN (bV (jI (h₁.bu fun w df h₂=>bV (L3 (bV (jI h₂)))))))))
  refine LZ ?_
  induction b with
  |true=>exact ((hr h4 (h.aS l S) rv).dC K q).iX l
  |false=>exact fV ((VP.aG S q).iX l)
 ·refine aq ai6 ?_
  refine bV (jI ((ya hW h E r (K:=fun v b σ=>tI b (vCs ⟨W.T,C⟩ (.O Xo e' r') ρ v σ (wJ K2)) (wJ K2 aF σ)) k (Q:=fun v c s'=>Wp W A (yr c) (fun t s''=>Wp W A (if t=ak then D7 pos v (o'::os) (pE (o'::os) (y::es) (oO (y::es) env)) else dM aF) (TP W g K) s'') s') fun v b s' m bS g' l rv S q=>?_).bu fun v s₁ h₁=>bV (mN (bV (jI (h₁.bu fun w df h₂=>bV (L3 (bV (jI h₂)))))))))
  refine LZ ?_
  induction b with
  |true=>exact ((hr h4 (h.aS l S) rv).qe K hk q).yX l
  |false=>exact fV ⟨bS,g',l,S,hk _ _ q⟩
def ahm{a:a8}{cs:wC}(ha:eW W d C a)(hc:F9 W d C cs):eW W d C (.aL a cs):=fun {sc aP e A g σ s env ρ} hm h=>by
 apply NN hm
 intro l os es pos h2
 refine gu h2 fun h3 h4=>?_
 refine ⟨fun K k=>?_,fun K hk k=>?_⟩
 ·rw [arm_eval_Compare]
  exact bV (((ha h3 h).dC _ k).vp fun v s₁ m cJ bT l₁ cf bv bX=>((hc h4 (h.aS l₁ bv) cf).dC K bX).iX l₁)
 ·rw [arm_isTrue_Compare]
  exact bV (((ha h3 h).dC _ k).vp fun v s₁ m cJ bT l₁ cf bv bX=>((hc h4 (h.aS l₁ bv) cf).qe K hk bX).yX l₁)
end
section
variable{W:Wd}{g g':cZ}{σ:an}{s:bz}{A:dD}{d:af}{C:bw}
def Wf{sl:aT}(h:(sh sl).fT.isSome=aF)(o i:aH):L4 sl aF o i=operate [o,i] (yp o i):=by
 unfold L4
 cases sl<;>first|rfl|exact cG h
def ahn(hW:l9 W){o i:a8}(ho:eW W d C o)(hi:eW W d C i):eW W d C (.bx o i):=fun hm h=>by
 apply nf hm
 intro v sl pos h2
 refine iG h2 fun h3 h4 h5=>?_
 refine .eu (fun K k=>Subscript_ (((ho h4 h).dC _ k).vp fun u s₁ m cJ bT l₁ cf bv bX=>?_)) ag
 refine ((hi h5 (h.aS l₁ bv)).dC _ bX).vp fun w df m₂ kM g5 l₂ nW dU eV=>?_
 exact (Qv hW dU (cf.bu l₂) nW eV (Wf (d5 h3))).iX (l₁.aX l₂)
def aeE{e:a8}{P:a8→Prop}(h:Bf e=ak)(k:P .aA):P e:=by
 cases e<;>first|exact k|exact cG h
def JA{e:a8}(he:eW W d C e){sc:Sc}{aP:fH}{l:aM aT}{env:cB}{ρ:bJ}(hm:l.elim (Bf e) (mE W.T sc aP e)=ak)(h:At W d A g σ s env sc aP ρ){K:KE}(k:vE ⟨W.T,C⟩ e ρ σ K):Wp W A (valueOrNone (evalOpt l env)) (VP W g K) s:=by
 induction l with
 |some x=>exact (he hm h).dC _ k
 |none=>exact aeE (P:=fun e=>vE ⟨W.T,C⟩ e ρ σ K→_) hm (fun k=>fV (VP.f (x:=.aA) h.S ag k)) k
def Zh(fz:av){o lo hi:a8}(ho:eW W d C o)(hl:eW W d C lo)(hh:eW W d C hi):eW W d C (.fT fz o lo hi):=fun hm h=>by
 apply nf hm
 intro v sl pos h2
 refine V7 (P:=fun sl=>vQ _ _ _ _ (.Subscript v sl pos) _ _) h2 fun l u st p h2=>ul h2 fun h3 h4 h5 h6=>?_
 obtain rfl:st=au:=G1.mp h3
 refine .eu (fun K k=>Subscript_ (((ho h4 h).dC _ k).vp fun u s₁ m cJ bT l₁ cf bv bX=>?_)) ag
 rw [arm_eval_Slice]
 refine bV ((JA hl h5 (h.aS l₁ bv) bX).vp fun lv df m₂ kM g5 l₂ nW dU eV=>?_)
 refine bV (jI ((JA hh h6 (h.aS (l₁.aX l₂) dU) eV).vp fun hv qq afw MX te l₃ QG pW oG=>?_))
 refine bV (jI (fV ?_))
 refine aw fun kz=>?_
 obtain ⟨T',id,a1,a2,a3⟩:=Kg (A:=_) pW (cf.bu (l₂.aX l₃)) (nW.bu l₃) QG oG
 refine kz ?_;try clear kz
 exact aaL (Ht a2 a1 (a3.iX (l₁.aX (l₂.aX l₃))) ag)
def uY{n:af}(h:n≤100000):n≤oN:=by unfold oN;lia
def xH{n m:af}{K:jE→Prop}(h:oi (wI n m) K):n≤m∧K ():=by
 obtain ⟨x,h,k⟩:=fk h
 exact ⟨(d4 h).1,k⟩
def aho{xs:c4}(hx:zS W d C xs):eW W d C (.bE xs):=fun hm h=>by
 apply oq hm
 intro es n pos h2
 refine .eu (fun K k=>RY ((hx h2 h _ _ k).ms fun us s₁ ms cJ bT l₁ cf bv bX=>?_)) ag
 refine aw fun kz=>?_
 obtain ⟨fs,r,eV⟩:=cf.zo bX
 obtain ⟨hz,oG⟩:=xH eV
 have lo:=c9 s₁.heap.objs.size
 obtain ⟨dU,l₂⟩:=(bv.dh (cw "tuple" us 0)).yW (a:=s₁.heap.objs.size) (rN _ ag) (bv.DG lo) (bv.sZ lo) fun i hi=>bW (gM hi) (bv.gm lo)
 refine kz ?_;try clear kz
 exact ⟨uY (r.bh.symm▸hz),.f (.bE fs),_,_,l₁.aX l₂,⟨_,us,0,ag,cr.d9 _ _ _,r.bu l₂.F⟩,dU,oG⟩
def aeF(fz:av){xs:c4}(hx:zS W d C xs):eW W d C (.al fz xs):=fun hm h=>by
 apply OS hm
 intro es pos h2
 refine .eu (fun K k=>aaI ((hx h2 h _ _ k).ms fun us s₁ ms cJ bT l₁ cf bv bX=>?_)) ag
 obtain ⟨fs,r,eV⟩:=cf.zo bX
 exact ⟨uY (r.bh.symm▸s9 eV),(se bv r eV).iX l₁⟩
def Aj{a:be}{t:av}{vs:ao aH}{n:af}{Q:av→bz→Prop}(f:s.heap.get? a=ac (cw (cE t "tuple" "list") vs n))(q:Q aF s):Wp W A (L1 (.ref a)) Q s:=by
 unfold L1
 induction t
 ·exact bV (wpAny_specialOf ⟨_,f,ag⟩ PySem.F.slot_list_iter.lookup (fV q))
 ·exact bV (wpAny_specialOf ⟨_,f,ag⟩ PySem.F.slot_tuple_iter.lookup (fV q))
def Wg{m n:aC}{K:KE}(h:gX (Kt σ m n) K):∃x y t xs,m=.f x∧n=.f y∧wF y=ac (t,xs)∧gX (jJ σ ak (x::xs)) K:=by
 induction m with
 |f x=>
  refine aw fun kz=>?_
  obtain ⟨vs,e,k⟩:=cg h
  obtain ⟨y,hy,e⟩:=bo e
  obtain ⟨p,hp,rfl⟩:=cK e
  refine kz ?_;try clear kz
  exact ⟨x,y,p.1,p.2,ag,jm hy,hp,k⟩
 |_=>exact h.elim
def aeG{x r:a8}(hx:eW W d C x)(hr:eW W d C r):eW W d C (.xK x r):=fun {sc aP e A g σ s env ρ} hm h=>by
 apply OS hm
 intro es pos h2
 refine du (P:=fun es=>vQ W A g s (.List es pos) env _) h2 fun a es h2=>du (P:=fun es=>vQ W A g s (.List (a::es) pos) env _) h2 fun b es h2=>NO (P:=fun b=>vQ W A g s (.List (a::b::es) pos) env _) h2 fun b' p h2=>ul h2 fun h3 h4 h5 h6=>jr (P:=fun es=>vQ W A g s (.List (a:: .Starred b' p::es) pos) env _) h3 ?_
 refine .eu (fun K k=>aaI (kA (d5 h4) (((hx h5 h).dC _ k).vp fun u s₁ m cJ bT l₁ cf bv bX=>?_))) ag
 show Wp W A (wz [(ak,do let v ← fo b' _;uN pos;dM v)]) _ s₁
 rw [wz]
 refine bV (bV (((hr h6 (h.aS l₁ bv)).dC _ bX).vp fun w df m₂ kM g5 l₂ nW dU eV=>bV (mN (fV ?_))))
 refine aw fun kz=>?_
 obtain ⟨x',y,t,xs,rfl,rfl,hs,oG⟩:=Wg eV
 obtain ⟨l,us,n,rfl,f,rs⟩:=pj dU nW ag hs
 refine kz ?_;try clear kz
 have hz:=s9 oG
 rw [o3,← rs.bh] at hz
 refine bV (m:=L1 (.ref l)) (Aj (W:=W) f ?_)
 refine bV (m:=collect (.ref l)) (wpAny_collect_seq l (by induction t;exact .inl ag;exact .inr ag) f ag ag (fun h' hk=>?_) (by refine aq jy ?_;exact uY (ou hz)))
 refine bV (jI (spliced_nil (fV ?_)))
 rw [ny]
 exact ⟨uY hz,(se (xs:=x'::xs) (dU.jP df.toks hk) ⟨u,us,ag,cf.bu l₂,rs⟩ oG).iX (l₁.aX l₂)⟩
def ahp:eW W d C .xb:=fun hm h=>⟨fun K k=>k.elim,fun K h2 k=>k.elim⟩
def aeH:eW W d C .aA:=fun hm h=>F8 (c:=.aA) hm h.S
def aeI(b:av):eW W d C (.aG b):=fun hm h=>F8 (c:=.aG b) hm h.S
def ahq(b:aN):eW W d C (.ae b):=fun hm h=>F8 (c:=.ae b) hm h.S
def ahr(b:aI):eW W d C (.ah b):=fun hm h=>F8 (c:=.ah b) hm h.S
end
section
variable{W:Wd}{g g':cZ}{σ:an}{s:bz}{A:dD}{d:af}{C:bw}
def zT{f:aH}{trees:ao (av×gO aH)}(hp:trees.any (·.1)=aF){P:ao aH→bz→Prop}(h:Wp W A (wz trees) P s):rm (ke W.cY W.w) A (evalArgs f ak trees []) (fun a s₁=>∃vs,a=⟨vs,[]⟩∧P vs s₁) (fun q9 q9=>dj) s:=by
 match trees,hp,h with
 |[],_,h=>
  unfold evalArgs
  show rm _ A (wz [] >>=_) _ _ s
  refine bV (Wp.pT h fun vs s' h'=>?_)
  exact bV (fV (jI (bV (fV (bV (fV (fV ⟨vs,ag,h'⟩)))))))
 |(ak,x)::trees,hp,_=>exact cG hp
 |(aF,x)::trees,hp,h=>exact evalArgs_plain (Wp.pT h fun vs s' h=>⟨vs,ag,h⟩)
def tS{pos:bG}{f:aH}{first:ao aH}{trees:ao (av×gO aH)}{Q:aH→bz→Prop}(hf:BU W f)(hp:trees.any (·.1)=aF)
  (h:Wp W A (wz trees) (fun vs s₁=>W.K.In s₁.heap∧Wp W A (gH f (first++vs)) Q s₁) s):Wp W A (Mb pos f first trees []) Q s:=by
 rcases hf with ⟨id,rfl⟩|⟨T',rfl⟩|hk
 ·exact Calls.callWith_builtin hp (Hm (zT hp h) (fun a s₁ hz=>by obtain ⟨vs,e,h⟩:=hz;refine aq e ?_;exact h.2) fun q9 q9 h=>h)
 ·exact PySem.callWith_type hp (Hm (zT hp h) (fun a s₁ hz=>by obtain ⟨vs,e,h⟩:=hz;refine aq e ?_;exact h.2) fun q9 q9 h=>h)
 ·exact callWith_of (P:=W.K.In) (by refine aq hp ?_;rfl) (keeps_K hk) (Hm (zT hp h) (fun a s₁ hz=>by obtain ⟨vs,e,h⟩:=hz;refine aq e ?_;exact h) fun q9 q9 h=>h)
def ky{β:Type}{nm:aI}{g:β}:∀(l:ao (aI×β)),l.lookup nm=ac g→(nm,g)∈l:=by
 intro l
 induction l with
 |nil=>
  intro z1
  first|exact bn z1|exact nomatch z1|exact Bool.noConfusion z1|exact False.elim z1
 |cons zp l ih=>
  obtain ⟨x,y⟩:=zp
  intro h
  rw [Hi] at h
  cases e:nm==x with
  |true=>rw [e] at h;(refine aq (cz e) ?_;refine iu (cp h) ?_);exact fF ..
  |false=>rw [e] at h;exact jf _ (ih h)
def JB(hW:l9 W)(S:bZ W g σ s){v:aH}{c:af}{fs:ao aC}{nm:aI}{κ:rP}{pl:gO av}{Q:aH×ao aH→bz→Prop}(I:MR W g s v c fs)(h:EY W.T c nm=ac κ)(q:Q (xF W κ,[v]) s):Wp W A (getMethod v nm pl) Q s:=by
 refine aw fun kz=>?_
 obtain ⟨a,kc,vs,d,od,mm,rfl,hk,F,l,r,IA,ns⟩:=I.ex
 obtain ⟨kc',xw,h⟩:=bo h
 refine kz ?_;try clear kz
 rw [hk] at xw
 obtain rfl:=cp xw
 refine aw fun kz=>?_
 obtain ⟨f,hf,rfl⟩:=cK h
 have C:=hW.e6 c kc hk
 obtain ⟨m1,m2,m3⟩:=C.mU _ (ky _ hf)
 refine kz ?_;try clear kz
 exact method_fn (S.Ld hW) IA C.yY C.Y7 m1 m3 (by unfold shadowIn;dsimp only;(rewrite [FY ns];refine aq (F.aiW _ m2) ?_);rfl) q
def JC{c d:Prop}[DQ c][DQ d]{α:Type}{a b:α}{y:α}(h:(if c then ac a else if d then ac b else au)=ac y):(c∧a=y)∨(d∧b=y):=by
 by_cases q:c
 ·rw [bD q] at h;exact .inl ⟨q,cp h⟩
 ·rw [cL q] at h
  exact .inr (let ⟨x,y⟩:=d4 h;⟨x,cp y⟩)
def NR(hW:l9 W)(S:bZ W g σ s){v:aH}{nm:aI}{κ:rP}{pl:gO av}{Q:aH×ao aH→bz→Prop}(q:Q (xF W κ,[v]) s):∀{o:aC},c7 W g o v→lB W.T σ o nm=ac κ→Wp W A (getMethod v nm pl) Q s
 |.a6 i,h1,h=>by
  refine aw fun kz=>?_
  obtain ⟨a,rfl,hi⟩:=h1
  refine kz ?_;try clear kz
  rcases gC h with ⟨_,h⟩|⟨xs,hx,h⟩
  ·refine aw fun kz=>?_
   obtain ⟨es,he,h⟩:=bo h
   obtain ⟨hn,h⟩:=d4 h
   refine kz ?_;try clear kz
   obtain rfl:=cp h
   subst hn
   refine aw fun kz=>?_
   obtain ⟨hF,hsy,ob,kvs,f,hd,er⟩:=S.FU hi he
   refine kz ?_;try clear kz
   have hD:s.heap.DictOf (kj W.cY W.w) a kvs:=D9.mpr ⟨ob,f,hd⟩
   exact L0 (T:="dict") hD.typeIs aa1 Mk aa6 hD.mapOf.noDict q
  ·refine aw fun kz=>?_
   obtain ⟨hF,vs,n,f,r⟩:=S.wf hi hx
   refine kz ?_;try clear kz
   rcases JC h with ⟨hn,e⟩|⟨hn,e⟩
   ·subst hn e
    exact L0 (T:="list") ⟨_,f,ag⟩ aa2 So PySem.F.type_list_append (fun b e=>by cases e;exact ⟨_,f,ag⟩) q
   ·subst hn e
    exact L0 (T:="list") ⟨_,f,ag⟩ aa2 Sp PySem.F.type_list_pop (fun b e=>by cases e;exact ⟨_,f,ag⟩) q
 |.fN i,h1,h=>by
  refine aw fun kz=>?_
  obtain ⟨p,hp,h⟩:=bo h
  refine kz ?_;try clear kz
  exact JB hW S (Ua S h1 hp) h q
 |.f x,h1,h=>by
  rcases gC h with ⟨_,h⟩|⟨d,hd,h⟩
  ·refine aw fun kz=>?_
   obtain ⟨p,hp,h⟩:=bo h
   obtain rfl:=CB hp
   refine kz ?_;try clear kz
   exact JB hW S (Lf S h1) h q
  ·refine aw fun kz=>?_
   obtain ⟨hn,h⟩:=d4 h
   obtain ⟨es,he,e⟩:=cK h
   obtain rfl:=vP hd
   subst hn e
   obtain rfl:v=.ref (W.m7 d):=h1
   obtain ⟨mf,hm,lo,hl⟩:=hW.n7 d es he
   refine kz ?_;try clear kz
   have BR:=qY hm (h':=s.heap) fun b o e=>S.m9 e
   exact L0 (T:="dict") BR.typeIs aa1 Mk aa6 BR.noDict q
def JD{l:ao aH}{P:aH→Prop}{x:aH}(h:∀v∈l,P v)(hx:P x)(k:af):P ((l[k]?).getD x):=by
 cases e:l[k]? with
 |none=>exact hx
 |some v=>exact h v (gM e)
noncomputable def isB:aH→av
 |.builtin _=>ak
 |.type _=>ak
 |_=>aF
def Wh{v:aH}(h:isB v=ak):BU W v:=by
 induction v<;>first|exact .inl ⟨_,ag⟩|exact .inr (.inl ⟨_,ag⟩)|exact cG h
def Zi(k:af):BU W (tQ k):=Wh (JD (P:=fun v=>isB v=ak) (ow.mp (show F1.all isB=ak from ag)) ag k)
def aeJ(c:af):lx (1000+c) 1000=aF:=by
 rw [wm]
 intro h
 exact bW (Rv.mp h) (lw.mpr (ff ..))
def Gb{k:af}(h:lx k 1000=ak):sE W k=.ref (W.lJ k):=by
 unfold sE
 refine aq h ?_;rfl
def NS(c:af):sE W (1000+c)=.ref (W.eK c):=by
 unfold sE
 (refine aq (aeJ c) ?_;rw [Nat.add_sub_cancel_left]);rfl
def Kk{T:vk}{P:am→Prop}(k1:∀k,(T.tZ[k]?).isSome=ak→P (.fn k))(k2:∀c,(T.e6[c]?).isSome=ak→P (.mQ c))(k3:∀k,P (.bi k)){x:am}(h:abz T x=ak):P x:=by
 cases x<;>first|exact k1 _ h|exact k2 _ h|exact k3 _|exact cG h
def acb(W:Wd)(A:dD)(g:cZ)(d:af)(C:bw)(m:aC):Prop:=∀{fz:av}{u:aH}{K:KE},c7 W g m u→BU W u∧∀{g':cZ}{bS:an}{s':bz}{ms:ao aC}{vs:ao aH},BQ A d→bZ W g' bS s'→dI W g' ms vs→abA ⟨W.T,C⟩ fz m ms bS K→Wp W A (gH u vs) (VP W g' K) s'
def Zj(X:Ez W d C){m:aC}(h:SD W.T m=ak):acb W A g d C m:=by
 refine aw fun kz=>?_
 obtain ⟨x,hx,h⟩:=kZ h
 obtain rfl:=jm hx
 refine kz ?_;try clear kz
 refine Kk (P:=fun x=>acb W A g d C (.f x)) (fun k h fz u K r=>?_) (fun c h fz u K r=>?_) (fun k fz u K r=>?_) h
 ·obtain rfl:u=.ref (W.lJ k):=r
  exact ⟨.inr (.inr (X.bF k h)),fun {g' bS s' ms vs} hA S r bX=>Gb (X.HZ k h)▸X.S6 k ms bS K (uX bX).2 _ _ vs A hA S r⟩
 ·refine aw fun kz=>?_
  obtain rfl:u=.ref (W.eK c):=r
  obtain ⟨k,hk⟩:=nM h
  refine kz ?_;try clear kz
  exact ⟨.inr (.inr (X.bm.e6 c k hk).jP),fun {g' bS s' ms vs} hA S r bX=>NS (W:=W) c▸X.S6 (1000+c) ms bS K bX _ _ vs A hA S r⟩
 ·obtain rfl:u=W.Da k:=r
  exact ⟨by refine aq X.bi ?_;exact Zi k,fun hA S r bX=>EU hA.gA X.bm X.bi S r bX⟩
def QH{f:aT}{as:ao aT}{pos:bG}{env:cB}(h:(sh f).bq.isSome=ak):fo (.Call f as [] pos) env=(do Mb pos (← fo f env) [] (tA pos (qL as env)) []):=by
 refine aw fun kz=>?_
 obtain ⟨⟨p,e⟩,_⟩:=nM h
 refine kz ?_;try clear kz
 refine aq e ?_;rfl
def Zk{κ:rP}{nm:aI}{f:af}:∀{o:aC},lB W.T σ o nm=ac κ→κ=.fn f→∃c,EY W.T c nm=ac (.fn f)
 |.a6 i,h,e=>by
  rcases gC h with ⟨_,h⟩|⟨xs,hx,h⟩
  ·refine aw fun kz=>?_
   obtain ⟨es,he,h⟩:=bo h
   refine kz ?_;try clear kz
   rw [← cp (d4 h).2] at e;cases e
  ·rcases JC h with ⟨_,h⟩|⟨_,h⟩<;>(rw [← h] at e;cases e)
 |.fN i,h,e=>by
  refine aw fun kz=>?_
  obtain ⟨p,hp,h⟩:=bo h
  refine kz ?_;try clear kz
  exact ⟨_,e▸h⟩
 |.f x,h,e=>by
  rcases gC h with ⟨_,h⟩|⟨d,hd,h⟩
  ·refine aw fun kz=>?_
   obtain ⟨p,hp,h⟩:=bo h
   refine kz ?_;try clear kz
   exact ⟨_,e▸h⟩
  ·refine aw fun kz=>?_
   obtain ⟨_,_,q⟩:=cK (d4 h).2
   refine kz ?_;try clear kz
   rw [← q] at e;cases e
def OX(X:Ez W d C){nm:aI}{f:af}{o:aC}(h:lB W.T σ o nm=ac (.fn f)):oP W.K (.ref (W.lJ f))=ak∧lx f 1000=ak:=by
 refine aw fun kz=>?_
 obtain ⟨c,h⟩:=Zk h ag
 obtain ⟨kc,hk,h⟩:=bo h
 obtain ⟨f',hf,e⟩:=cK h
 refine kz ?_;try clear kz
 cases e
 exact ⟨X.S5 c kc hk _ (ky _ hf),Rv.mpr ((X.bm.e6 c kc hk).VV _ (ky _ hf))⟩
def QI(X:Ez W d C){nm:aI}{o:aC}:∀{κ:rP},lB W.T σ o nm=ac κ→BU W (xF W κ)
 |.eA,_=>.inl ⟨_,ag⟩
 |.g6,_=>.inl ⟨_,ag⟩
 |.jV,_=>.inl ⟨_,ag⟩
 |.Ig,_=>.inl ⟨_,ag⟩
 |.fn f,h=>.inr (.inr (OX X h).1)
def Zl(X:Ez W d C){nm:aI}{o:aC}{ahs:an}{u:aH}{ms:ao aC}{vs:ao aH}{K:KE}:∀{κ:rP},lB W.T ahs o nm=ac κ→BQ A d→bZ W g σ s→c7 W g o u→dI W g ms vs→abB ⟨W.T,C⟩ κ o ms σ K→Wp W A (gH (xF W κ) (u::vs)) (VP W g K) s
 |.fn f,h,hA,S,r,rs,k=>by
  show Wp W A (gH (.ref (W.lJ f)) (u::vs)) _ _
  exact Gb (OX X h).2▸X.S6 f (o::ms) σ K k _ _ (u::vs) A hA S ⟨u,vs,ag,r,rs⟩
 |.eA,_,_,S,r,rs,k=>ta (κ:=.eA) X.bm S r rs k
 |.g6,_,_,S,r,rs,k=>ta (κ:=.g6) X.bm S r rs k
 |.jV,_,_,S,r,rs,k=>ta (κ:=.jV) X.bm S r rs k
 |.Ig,_,_,S,r,rs,k=>ta (κ:=.Ig) X.bm S r rs k
def aeK(X:Ez W d C)(fz:av){f:a8}{args:c4}(hf:eW W d C f)(hx:zS W d C args):eW W d C (.aD fz f args):=fun {sc aP e A g σ s env ρ} hm h=>by
 apply Bc hm
 intro f' as ks pos h2
 refine ul h2 fun h3 h4 h5 h6=>jr (P:=fun ks=>vQ W A g s (.Call f' as ks pos) env _) h4 ?_
 refine .eu (fun K k=>?_) ag
 refine aq (show fo (.Call f' as [] pos) env=(do Mb pos (← fo f' env) [] (tA pos (qL as env)) []) from QH h3) ?_
 refine bV (((hf h5 h).dC _ k).vp fun u s₁ m cJ bT l₁ cf bv bX=>?_)
 obtain ⟨hc,bX⟩:=uX bX
 obtain ⟨K1,K2⟩:=Zj (A:=A) X hc (K:=K) (fz:=fz) cf
 exact tS K1 (xZ h6).1 ((hx h6 (h.aS l₁ bv) pos _ bX).ms fun vs df ms kM g5 l₂ nW dU eV=>⟨dU.Ld X.bm,(K2 h.a dU nW eV).iX (l₁.aX l₂)⟩)
def aeL(X:Ez W d C){o:a8}(nm:aI){args:c4}(ho:eW W d C o)(hx:zS W d C args):eW W d C (.eI o nm args):=fun {sc aP e A g σ s env ρ} hm h=>by
 apply Bc hm
 intro f' as ks pos h2
 refine tR (P:=fun f'=>vQ W A g s (.Call f' as ks pos) env _) h2 fun v n ap h2=>afu h2 fun h3 h4 h5 h6 h7 h8 h9=>jr (P:=fun ks=>vQ W A g s (.Call (.Attribute v n ap) as ks pos) env _) h4 ?_
 obtain rfl:nm=n:=cz h3
 refine .eu (fun K k=>?_) ag
 rw [arm_eval_Call,(GW h7).1]
 refine bV (((ho h8 h).dC _ k).vp fun u s₁ m cJ bT l₁ cf bv bX=>bV (mN ?_))
 refine aw fun kz=>?_
 obtain ⟨κ,hκ,bX⟩:=fk bX
 refine kz ?_;try clear kz
 have aht:methodCallForm (as.length+([] :ao Me).length) (tA pos (qL as env)) (backToKw pos (keywordEach [] env))=ak:=by
  unfold methodCallForm
  refine aq ((xZ h9).2) ?_
  exact jY.mpr ⟨ag,(show dc (as.length+0+0<30)=ak from jx (uD (eX h6)))⟩
 unfold methodCall
 refine aq aht ?_
 refine bV (jI (NR X.bm bv ?_ cf hκ))
 refine bV (L5 (show methodCallPos ak v env ap pos=dM pos by unfold methodCallPos;refine aq h5 ?_;rfl) ?_)
 refine tS (QI X hκ) (xZ h9).1 ((hx h9 (h.aS l₁ bv) pos _ bX).ms fun vs df ms kM g5 l₂ nW dU eV=>⟨dU.Ld X.bm,?_⟩)
 exact (Zl X hκ h.a dU (cf.bu l₂) nW eV).iX (l₁.aX l₂)
end
def DI(W:Wd)(d:af)(C:bw)(xs:c4):Prop:=∀{sc:Sc}{aP:fH}{ks:ao (aM aT)}{vs:ao aT}{A:dD}{g:cZ}{σ:an}{s:bz}{env:cB}{ρ:bJ},mKV W.T sc aP xs ks vs=ak→At W d A g σ s env sc aP ρ→∀(pos:bG)(K:ao aC→an→Prop),Ob ⟨W.T,C⟩ xs ρ σ K→Wp W A (Sg (Si ks vs env pos)) (fun ps s'=>MsP W g K (ps.flatMap fun p=>[p.1,p.2]) s') s
section
variable{W:Wd}{g g':cZ}{σ:an}{s:bz}{A:dD}{d:af}{C:bw}{F:cr}
def bZ.Ix(S:bZ W g σ s){o:dF}(hf:o.isFreed=aF):bZ W ⟨g.F,g.T.dB s.heap.objs.size o,g.α⟩ σ {s with heap:=s.heap.push o}:=by
 have lo:=c9 s.heap.objs.size
 refine S.Qn (fun q9=>dj) s.toks (fun q9 z=>z.elim) (fun b p q9 e=>ql _ e) fun b p q=>?_
 by_cases hb:b=s.heap.objs.size
 ·subst hb
  rw [cr.d9] at q
  exact ⟨cp q▸rN _ hf,S.DG lo,S.gm lo⟩
 ·rw [cr.fc _ _ hb] at q
  exact ⟨ql _ (S.iQ b p q),S.um q⟩
def eN.Ix{env:cB}{sc:Sc}{aP:fH}{ρ:bJ}(E:eN W g env sc aP ρ){D:be}(h:g.T D=au)(o:dF):eN W ⟨g.F,g.T.dB D o,g.α⟩ env sc aP ρ:=
 E.bu (fr:=fun a=>a=D) ⟨nI.bc _,lK _,fun a z=>cr.fc _ _ z⟩ fun a z f=>E.jc f (z▸h)
def At.Ix{env:cB}{sc:Sc}{aP:fH}{ρ:bJ}(h:At W d A g σ s env sc aP ρ){o:dF}(hf:o.isFreed=aF):At W d A ⟨g.F,g.T.dB s.heap.objs.size o,g.α⟩ σ {s with heap:=s.heap.push o} env sc aP ρ:=⟨h.a,h.S.Ix hf,h.E.Ix (h.S.sZ (c9 _)) o⟩
def bZ.FZ{T:cr}{D:be}{o:dF}{h':dW}(S:bZ W g σ s)(tk:af)(hT:g.T=T.dB D o)(hD:T D=au)(hs:yx D s.heap h'):bZ W ⟨g.F,T,g.α⟩ σ {s with heap:=h',toks:=tk}:=by
 refine S.Qn (fun b=>b=D) tk (fun b z=>⟨o,by (refine aq z ?_;refine aq hT ?_;rw [cr.d9])⟩) (fun b p n q=>(hs.2 b n).trans q) fun b p q=>?_
 have n:b≠D:=fun z=>by rw [z,hD] at q;exact bn q
 have q':g.T b=ac p:=by (refine aq hT ?_;refine aq (cr.fc _ _ n) ?_);exact q
 exact ⟨(hs.2 b n).trans (S.iQ b p q'),S.um q'⟩
def Wp.kv{t:gO (ao (aH×aH))}{K:ao aC→an→Prop}{Q:ao (aH×aH)→bz→Prop}(h:Wp W A t (fun ps s'=>MsP W g K (ps.flatMap fun p=>[p.1,p.2]) s') s)(k:∀ps s' ms bS g',tO g g'→dI W g' ms (ps.flatMap fun p=>[p.1,p.2])→bZ W g' bS s'→K ms bS→Q ps s'):Wp W A t Q s:=h.bu fun u s' jF=>by obtain ⟨m,bS,g',l,r,S,q⟩:=jF;exact k u s' m bS g' l r S q
def aeM:DI W d C .ab:=fun hm h pos K k=>by
 refine gu hm fun h1 h2=>jr (P:=fun ks=>Wp W _ (Sg (Si ks _ _ pos)) _ _) h1 ?_
 exact fV ⟨[],_,_,.bc _,ag,h.S,k⟩
def aeN{e:a8}:DI W d C (.O e .ab):=fun hm h pos K k=>by
 apply du hm
 intro ko ks h2
 obtain ⟨x,_,h3⟩:=kZ h2
 exact gu h3 fun q9 z=>cG z
def OY{k v:a8}{r:c4}(hk:eW W d C k)(hv:eW W d C v)(hr:DI W d C r):DI W d C (.O k (.O v r)):=fun {sc aP ks vs A g σ s env ρ} hm h pos K q=>by
 apply du hm
 intro ko ks h2
 obtain ⟨x,rfl,h3⟩:=kZ h2
 refine gu h3 fun h3 h4=>du (P:=fun vs=>Wp W A (Sg (Si (ac x::ks) vs env pos)) _ s) h4 fun y vs h4=>gu h4 fun h4 h5=>?_
 refine pairTrees_cons_walk (((hk h3 h).dC _ q).vp fun u s₁ m cJ bT l₁ cf bv bX=>?_)
 refine ((hv h4 (h.aS l₁ bv)).dC _ bX).vp fun w df m₂ kM g5 l₂ nW dU eV=>?_
 refine (hr h5 (h.aS (l₁.aX l₂) dU) pos _ eV).kv fun ps qq ms MX te l₃ QG pW oG=>?_
 exact ⟨m::m₂::ms,MX,te,l₁.aX (l₂.aX l₃),⟨u,_,ag,cf.bu (l₂.aX l₃),w,_,ag,nW.bu l₃,QG⟩,pW,oG⟩
def Wi{K:iF→Prop}:∀{x:am},afd x K→∃key,lA x=ac key∧K key
 |.ae i,k=>⟨.inl i,ag,k⟩
 |.ah z,k=>⟨.inr z,ag,k⟩
def QJ:∀{ps:ao (aH×aH)}{fs:ao am}{K:ao (iF×am)→Prop},cI W F fs (ps.flatMap fun p=>[p.1,p.2])→Ks fs K→∃kvs es,Carries (kj W.cY W.w) ps kvs∧jl W F es kvs∧K es:=by
 intro ps
 induction ps with
 |nil=>
  intro fs K r k
  rcases fs with _|⟨x,fs⟩
  ·exact ⟨[],[],di,ag,k⟩
  ·obtain ⟨_,_,e,_⟩:=r;exact (aap _ _ e.symm).elim
 |cons p ps ih=>
  intro fs K r k
  rcases fs with _|⟨x,_|⟨y,fs⟩⟩
  ·exact (aap _ _ r).elim
  ·exact rt k
  ·refine aw fun kz=>?_
   obtain ⟨v,_,e,r,w,us,e2,r2,r3⟩:=r
   obtain ⟨key,hk,k⟩:=Wi k
   obtain ⟨rfl,rfl⟩:=Ml e
   obtain ⟨rfl,rfl⟩:=Ml e2
   obtain ⟨kvs,es,c1,c2,k⟩:=ih r3 k
   refine kz ?_;try clear kz
   exact ⟨(key,p.2)::kvs,(key,y)::es,⟨OO hk r,ag,c1⟩,⟨p.2,kvs,ag,r2,c2⟩,k⟩
def jl.Zm{es:ao (iF×am)}:∀{kvs:ao (iF×aH)},jl W F es kvs→kvs.map (·.1)=es.map (·.1):=by
 induction es with
 |nil=>exact fun h=>a7 (LX (·.1)) (show _=[] from h)
 |cons x es ih=>
  intro kvs h
  obtain ⟨v,us,e,_,r⟩:=h
  exact (a7 (LX (·.1)) e).trans (a7 (_:: ·) (ih r))
def Wj(hW:l9 W){T:cr}{D:be}{o:dF}{s:bz}{bT g5:cZ}{ms:ao aC}{ps:ao (aH×aH)}{K:KE}(hD:T D=au)(acV:(D==uK)=aF)(l:tO ⟨bT.F,T.dB D o,bT.α⟩ g5)(S:bZ W g5 σ s)(r:dI W g5 ms (ps.flatMap fun p=>[p.1,p.2]))(k:abD K ms σ)(hT:T=bT.T):
  ∃kvs,Carries (kj W.cY W.w) ps kvs∧∀h' tk,h'.DictOf (kj W.cY W.w) D (merged [] kvs)→yx D s.heap h'→VP W bT K (.ref D) {s with heap:=h',toks:=tk}:=by
 subst hT
 refine aw fun kz=>?_
 obtain ⟨fs,r,k⟩:=r.zo k
 obtain ⟨kvs,es,c1,c2,k⟩:=QJ r k
 obtain ⟨hd,k⟩:=uX k
 refine kz ?_;try clear kz
 refine ⟨kvs,c1,fun h' tk hd' sH=>?_⟩
 rw [merged_nil_of_nodup _ (by refine aq c2.Zm ?_;exact (eX hd).2)] at hd'
 refine aw fun kz=>?_
 obtain ⟨o',g',hd'⟩:=D9.mp hd'
 have eT:g5.T=bT.T.dB D o:=rj fun a=>l.T a id
 have own:=S.um (a:=D) (by refine aq eT ?_;exact cr.d9 _ _ _)
 obtain ⟨q8,nF⟩:=(S.FZ tk eT hD sH).Lc (mo:=.dK es) own.2 hD ⟨_,g'⟩ ⟨own.1,acV,o',kvs,g',hd',c2⟩
 refine kz ?_;try clear kz
 refine ⟨_,_,_,?_,?_,q8,k⟩
 ·exact ⟨l.F,l.α.trans (As _ _),fun q9 q9=>ag⟩
 ·exact ⟨D,ag,by refine iu S.bh ?_;exact Z1⟩
def aeO(hW:l9 W){kvs:c4}(hx:DI W d C kvs):eW W d C (.dK kvs):=fun {sc aP e A g σ s env ρ} hm h=>by
 apply Zc hm
 intro ks vs pos h2
 refine Iv h2 fun h3 h4 h5 h6 h7=>.eu (fun K k=>?_) ag
 refine wpAny_Dict_walk (knd:=kj W.cY W.w) h3 (eX h4) (List.isEmpty_eq_false_iff.mp (d5 h5)) (eX h6) ((hx h7 (h.Ix (o:={cls:=.type "dict",data:=.dict #[]}) ag) pos _ k).kv fun ps s₁ ms cJ bT l₁ cf bv bX=>?_)
 refine aw fun kz=>?_
 obtain ⟨a,o,e,hs⟩:=hW.aem
 have acV:(s.heap.objs.size==uK)=aF:=by
  rw [Ap]
  exact Rt (Ru hs (mq (h.S.m9 e)))
 obtain ⟨kvs,c1,c2⟩:=Wj hW (h.S.sZ (c9 _)) acV l₁ bv cf bX ag
 refine kz ?_;try clear kz
 have ai7:(s.heap.push {cls:=.type "dict",data:=.dict #[]}).DictOf (kj W.cY W.w) s.heap.objs.size [] :=Heap.DictOf.new s.heap
 have g0:(s.heap.push {cls:=.type "dict",data:=.dict #[]}).get? s.heap.objs.size=ac {cls:=.type "dict",data:=.dict #[]}:=rN _ ag
 refine ⟨kvs,c1,ai7.at fun o e=>?_,fun h' hd sH=>c2 h' _ hd sH⟩
 rw [g0] at e
 obtain rfl:=cp e
 exact bv.iQ _ _ ((l₁.T _ id).trans (cr.d9 _ _ _))
end
section
def Gc(W:Wd)(F:cr)(tp:av)(v:aH)(x:am)(h:dW):Prop:=cE tp (∃t vals ys,v=.ref t∧h.IsTuple t vals∧x=.bE ys∧cI W F ys vals.toList) (iE W F x v)
def MY(tp:av)(t:aT):Prop:=cE tp (∃es k pos,t=.Tuple es k pos) (∃id pos,t=.Name id pos)
open Classical in
def cr.iY(T:cr)(own:Addr→Prop):cr:=fun a=>if own a then none else T a
open Classical in
def cr.ju(T:cr)(own:Addr→Prop)(h:Heap):cr:=fun a=>if own a then h.get? a else T a
def It(W:Wd)(A:dD)(I:be)(tp:av)(xs:ao am)(own:be→Prop)(P:af→cZ→Prop):Prop:=(∀{i:af}{g g':cZ}{fr:be→Prop},P i g→Le fr g g'→(∀a,own a→¬fr a)→P i g')∧(∀{i:af}{g:cZ}{a:be},P i g→own a→∃o,g.T a=ac o)∧(∀{i:af}{g:cZ}{σ:an}{s:bz}{x:am}{t:aT},P i g→bZ W g σ s→xs[i]? =ac x→MY tp t→Wp W A (tB (.ref I)) (fun r s₁=>∃v,r=ac v∧Wp W A (Az t (.ref I) v) (fun q9 df=>∃g5,Le own g g5∧bZ W g5 σ df∧P (i+1) g5∧Gc W g5.F tp v x df.heap) s₁) s)∧(∀{g:cZ}{σ:an}{s:bz},P xs.length g→bZ W g σ s→Wp W A (tB (.ref I)) (fun r s₁=>r=au∧bZ W ⟨g.F,g.T.iY own,g.α⟩ σ s₁) s)∧(∀{i:af}{g:cZ}{σ:an}{s:bz}{Q:aH→bz→Prop},P i g→bZ W g σ s→Q (.ref I) s→Wp W A (mj (.ref I)) Q s)
section
variable{W:Wd}{A:dD}{I:be}{tp:av}{xs:ao am}{own:be→Prop}{P:af→cZ→Prop}(s0:It W A I tp xs own P)
include s0
def It.bu:∀{i:af}{g g':cZ}{fr:be→Prop},P i g→Le fr g g'→(∀a,own a→¬fr a)→P i g':=s0.1
def It.zU:∀{i:af}{g:cZ}{a:be},P i g→own a→∃o,g.T a=ac o:=s0.2.1
def It.sj:∀{i:af}{g:cZ}{σ:an}{s:bz}{x:am}{t:aT},P i g→bZ W g σ s→xs[i]? =ac x→MY tp t→Wp W A (tB (.ref I)) (fun r s₁=>∃v,r=ac v∧Wp W A (Az t (.ref I) v) (fun q9 df=>∃g5,Le own g g5∧bZ W g5 σ df∧P (i+1) g5∧Gc W g5.F tp v x df.heap) s₁) s:=s0.2.2.1
def It.qz:∀{g:cZ}{σ:an}{s:bz},P xs.length g→bZ W g σ s→Wp W A (tB (.ref I)) (fun r s₁=>r=au∧bZ W ⟨g.F,g.T.iY own,g.α⟩ σ s₁) s:=s0.2.2.2.1
def It.jR:∀{i:af}{g:cZ}{σ:an}{s:bz}{Q:aH→bz→Prop},P i g→bZ W g σ s→Q (.ref I) s→Wp W A (mj (.ref I)) Q s:=s0.2.2.2.2
end
inductive vR(W:Wd)(A:dD)(g:cZ)(tp:av)(K:KL)(iv:aH)(s':bz):Prop
 |mk (xs:ao am) (bS:an) (g':cZ) (I:be) (own:be→Prop) (P:af→cZ→Prop) (oT:xs.length≤1000000) (k:K xs bS) (le:Le own g g') (new:∀a,own a→g.T a=au) (sat:bZ W g' bS s') (iv:iv=.ref I) (it:It W A I tp xs own P) (start:P 0 g')
def vR.iX{W:Wd}{A:dD}{g bT:cZ}{tp:av}{K:KL}{iv:aH}{s':bz}(l:tO g bT)(h:vR W A bT tp K iv s'):vR W A g tp K iv s':=
 by
 obtain ⟨xs,bS,g',I,own,P,a,b,c,d,e1,e2,e3,e4⟩:=h
 exact ⟨xs,bS,g',I,own,P,a,b,l.zO.aX c,fun z w=>(l.T z id).symm.trans (d z w),e1,e2,e3,e4⟩
structure Wk(W:Wd)(A:dD)(I:be)(fp wr:ao be)(F:cr)(tp:av)(xs:ao am)(St:af→dW→Prop)(Mid:af→aH→dW→Prop):Prop where
 fA:∀b∈wr,b∈fp
 jc:∀i h h',St i h→(∀b∈fp,∀o,h.get? b=ac o→h'.get? b=ac o)→St i h'
 MA:∀i h,St i h→∀b∈wr,∃o,h.get? b=ac o
 sj:∀(i:af)(x:am)(s:bz)(Q:aM aH→bz→Prop),xs[i]? =ac x→St i s.heap→
  (∀v h' tk,(∀Li,(∀b o,b∉wr→h'.get? b=ac o→Li.get? b=ac o)→Gc W F tp v x Li)→Mid i v h'→(∀b o,b∉wr→s.heap.get? b=ac o→h'.get? b=ac o)→Q (ac v) {s with heap:=h',toks:=tk})→Wp W A (tB (.ref I)) Q s
 DD:∀(t:aT)(i:af)(v:aH)(s:bz)(Q:jE→bz→Prop),MY tp t→Mid i v s.heap→
  (∀h',St (i+1) h'→(∀b o,b∉wr→s.heap.get? b=ac o→h'.get? b=ac o)→Q () {s with heap:=h'})→Wp W A (Az t (.ref I) v) Q s
 qz:∀(s:bz)(Q:aM aH→bz→Prop),St xs.length s.heap→
  (∀h' tk,(∀b o,b∉wr→s.heap.get? b=ac o→h'.get? b=ac o)→Q au {s with heap:=h',toks:=tk})→Wp W A (tB (.ref I)) Q s
 jR:∀(i:af)(s:bz)(Q:aH→bz→Prop),St i s.heap→Q (.ref I) s→Wp W A (mj (.ref I)) Q s
section
variable{W:Wd}{A:dD}{g g':cZ}{σ:an}{s:bz}{F T:cr}{own:be→Prop}
def sF{a:be}(h:own a):T.iY own a=au:=bD h
def rK{a:be}(h:¬own a):T.iY own a=T a:=cL h
def Wl{a:be}{o:dF}(h:T.iY own a=ac o):¬own a∧T a=ac o:=by
 by_cases q:own a
 ·rw [sF q] at h;exact bn h
 ·rw [rK q] at h;exact ⟨q,h⟩
def qD{a:be}{h:dW}(q:own a):T.ju own h a=h.get? a:=bD q
def rL{a:be}{h:dW}(q:¬own a):T.ju own h a=T a:=cL q
def bZ.iY(S:bZ W g σ s)(own:be→Prop){h':dW}(tk:af)(ho:∀a,own a→∃o,g.T a=ac o)(hk:∀b o,¬own b→s.heap.get? b=ac o→h'.get? b=ac o):bZ W ⟨g.F,g.T.iY own,g.α⟩ σ {s with heap:=h',toks:=tk}:=
 S.Qn own tk ho hk fun a o e=>by obtain ⟨n,e⟩:=Wl e;exact ⟨hk a o n (S.iQ a o e),S.um e⟩
def bZ.ju(S:bZ W g σ s)(own:be→Prop){h':dW}(tk:af)(ho:∀a,own a→∃o,g.T a=ac o)(hk:∀b o,¬own b→s.heap.get? b=ac o→h'.get? b=ac o):bZ W ⟨g.F,g.T.ju own h',g.α⟩ σ {s with heap:=h',toks:=tk}:=
 S.Qn own tk ho hk fun a o e=>by
  by_cases q:own a
  ·rw [qD q] at e
   obtain ⟨o',e'⟩:=ho a q
   exact ⟨e,S.um e'⟩
  ·rw [rL q] at e
   exact ⟨hk a o q (S.iQ a o e),S.um e⟩
def Xu(fp:ao be)(F:cr)(St:af→dW→Prop)(i:af)(g:cZ):Prop:=(nI F g.F)∧(∀a,a∈fp∧F a=au→∃o,g.T a=ac o)∧(∃h,St i h∧∀b∈fp,∀o,h.get? b=ac o→F b=ac o∨(F b=au∧g.T b=ac o))
section
variable{fp:ao be}{F:cr}{St:af→dW→Prop}{i:af}{g:cZ}(s0:Xu fp F St i g)
include s0
def Xu.gP:nI F g.F:=s0.1
def Xu.zU:∀a,a∈fp∧F a=au→∃o,g.T a=ac o:=s0.2.1
def Xu.Mv:∃h,St i h∧∀b∈fp,∀o,h.get? b=ac o→F b=ac o∨(F b=au∧g.T b=ac o):=s0.2.2
end
def Xu.pN{fp wr:ao be}{tp:av}{xs:ao am}{I:be}{St:af→dW→Prop}{Mid:af→aH→dW→Prop}(K:Wk W A I fp wr F tp xs St Mid){i:af}(P:Xu fp F St i g)(S:bZ W g σ s):St i s.heap:=by
 obtain ⟨h,st,q⟩:=P.Mv
 refine K.jc i h s.heap st fun b hb o e=>?_
 rcases q b hb o e with z|⟨_,z⟩
 ·exact S.dZ b o (P.gP b o z)
 ·exact S.iQ b o z
def It.eu{fp wr:ao be}{tp:av}{xs:ao am}{I:be}{St:af→dW→Prop}{Mid:af→aH→dW→Prop}(K:Wk W A I fp wr F tp xs St Mid)(hwr:∀b∈wr,F b=au):It W A I tp xs (fun a=>a∈fp∧F a=au) (Xu fp F St):=⟨
 (fun {i g g' fr} P l h=>⟨P.gP.aX l.F,fun a q=>(P.zU a q).imp fun o e=>(l.T a (h a q)).trans e,P.Mv.imp fun z p=>⟨p.1,fun b hb o e=>(p.2 b hb o e).imp id fun w=>⟨w.1,(l.T b (h b ⟨hb,w.1⟩)).trans w.2⟩⟩⟩),
 (fun P h=>P.zU _ h),
 (fun {i g σ s x t} P S hx ht=>K.sj i x s _ hx (P.pN K S) fun v h' tk gZ mid hk=>by
  have nw:∀b,¬(b∈fp∧F b=au)→b∉wr:=fun b n z=>n ⟨K.fA b z,hwr b z⟩
  refine ⟨v,ag,K.DD t i v _ _ ht mid fun Li afx Xe=>?_⟩
  have KV:∀b o,b∉wr→s.heap.get? b=ac o→Li.get? b=ac o:=fun b o n e=>Xe b o n (hk b o n e)
  refine ⟨⟨g.F,g.T.ju (fun a=>a∈fp∧F a=au) Li,g.α⟩,⟨nI.bc _,lK _,fun a n=>(rL n:g.T.ju (fun a=>a∈fp∧F a=au) Li a=g.T a)⟩,S.ju _ tk P.zU fun b o n=>KV b o (nw b n),⟨P.gP,fun a q=>?_,Li,afx,fun b hb o e=>?_⟩,?_⟩
  ·have e:=(qD q:g.T.ju (fun a=>a∈fp∧F a=au) Li a=_)
   by_cases w:a∈wr
   ·obtain ⟨o,z⟩:=K.MA _ _ afx a w
    exact ⟨o,e.trans z⟩
   ·obtain ⟨o,z⟩:=P.zU a q
    exact ⟨o,e.trans (KV a o w (S.iQ a o z))⟩
  ·cases q:F b with
   |none=>exact .inr ⟨ag,(qD ⟨hb,q⟩:g.T.ju (fun a=>a∈fp∧F a=au) Li b=_).trans e⟩
   |some p=>
    have:=KV b p (nw b fun z=>by rw [q] at z;cases z.2) (S.dZ b p (P.gP b p q))
    rw [e] at this
    exact .inl this.symm
  ·have:=gZ Li Xe
   induction tp
   ·exact iE.bu P.gP this
   ·refine aw fun kz=>?_
    obtain ⟨t,vals,ys,a,b,c,d⟩:=this
    refine kz ?_;try clear kz
    exact ⟨t,vals,ys,a,b,c,d.bu P.gP⟩),
 (fun {g σ s} P S=>K.qz s _ (P.pN K S) fun h' tk hk=>⟨ag,S.iY _ tk P.zU fun b o n=>hk b o fun z=>n ⟨K.fA b z,hwr b z⟩⟩),
 (fun {i g σ s Q} P S q=>K.jR i s Q (P.pN K S) q)⟩
end
end
section
variable{W:Wd}{A:dD}{g g':cZ}{σ:an}{s:bz}{F:cr}{I:be}{fp wr:ao be}{xs:ao am}{St:af→dW→Prop}
def Wk.GX{n:af}{P:af→aH→Prop}(K:Walks W.cY W.w A I fp wr n P St)(hn:n=xs.length)
  (hP:∀i v x,P i v→xs[i]? =ac x→iE W F x v) (hl:∀i h,St i h→∀b∈wr,∃o,h.get? b=ac o):Wk W A I fp wr F aF xs St (fun i q9 h=>St (i+1) h) where
 fA:=K.sub
 jc:=K.frame
 MA:=hl
 sj:=fun i x s Q hx st q=>K.item i s Q _ (hn▸(fM.mp hx).1) st fun v h' tk p Tk hk=>q v h' tk (fun q9 q9=>hP i v x p hx) Tk hk
 DD:=fun t i v s Q ⟨id,pos,e⟩ st q=>L5 (by refine aq e ?_;rfl:letOwnedTupleGo t (.ref I) v=pure ()) (q s.heap st fun q9 q9 q9 e=>e)
 qz:=fun s Q st q=>K.done s Q _ (hn▸st) q
 jR:=fun i s Q st q=>K.self i s Q _ st q
def Wk.ofU{n:af}{Pt:af→kC aH→Prop}{Mid:af→be→dW→Prop}(K:WalksU W.cY W.w A I fp wr n Pt St Mid)(hn:n=xs.length)
  (hP:∀i vals x,Pt i vals→xs[i]? =ac x→∃ys,x=.bE ys∧cI W F ys vals.toList) (hl:∀i h,St i h→∀b∈wr,∃o,h.get? b=ac o):
  Wk W A I fp wr F ak xs St (fun i v h=>∃t,v=.ref t∧Mid i t h) where
 fA:=K.sub
 jc:=K.frame
 MA:=hl
 sj:=fun i x s Q hx st q=>K.item i s Q _ (hn▸(fM.mp hx).1) st fun t vals h' tk p ht hm hk=>
  by
   obtain ⟨ys,e,r⟩:=hP i vals x p hx
   obtain ⟨o,e1,e2⟩:=ht
   exact q (.ref t) h' tk (fun Li Xe=>⟨t,vals,ys,ag,⟨o,Xe t o (K.apart i t h' hm) e1,e2⟩,e,r⟩) ⟨t,ag,hm⟩ hk
 DD:=fun t i v s Q hz hz2 q=>by
  obtain ⟨es,k,pos,e⟩:=hz
  obtain ⟨a,ev,hm⟩:=hz2
  (refine aq e ?_;refine aq ev ?_)
  exact K.go es k pos i a s Q _ hm q
 qz:=fun s Q st q=>K.done s Q _ (hn▸st) q
 jR:=fun i s Q st q=>K.self i s Q _ st q
def vR.eu{bS:an}{tp:av}{K:KL}{h':dW}{tk:af}{Mid:af→aH→dW→Prop}(l:tO g g')(S:bZ W g' bS s)(hk:∀b o,s.heap.get? b=ac o→h'.get? b=ac o)(W':Wk W A I fp wr g'.F tp xs St Mid)(st:St 0 h')
  (hfp:∀b∈fp,(∃o,h'.get? b=ac o)∧(s.heap.objs.size≤b∨∃o,g'.F b=ac o)) (hwr:∀b∈wr,s.heap.objs.size≤b) (oT:xs.length≤1000000) (k:K xs bS):vR W A g tp K (.ref I) {s with heap:=h',toks:=tk}:=by
 have new:∀a,a∈fp∧g'.F a=au→s.heap.objs.size≤a:=fun a q=>(hfp a q.1).2.elim id fun ⟨o,e⟩=>by rw [q.2] at e;exact bn e
 have hT:∀a,a∈fp∧g'.F a=au→g'.T a=au:=fun a q=>S.sZ (new a q)
 have S':bZ W ⟨g'.F,g'.T.ju (fun a=>a∈fp∧g'.F a=au) h',g'.α⟩ bS {s with heap:=h',toks:=tk}:=by
  refine S.Qn (fun q9=>dj) tk (fun q9 z=>z.elim) (fun b o q9=>hk b o) fun a o e=>?_
  by_cases q:a∈fp∧g'.F a=au
  ·rw [qD q] at e
   exact ⟨e,q.2,S.gm (new a q)⟩
  ·rw [rL q] at e
   exact ⟨hk a o (S.iQ a o e),S.um e⟩
 refine ⟨xs,bS,⟨g'.F,g'.T.ju (fun a=>a∈fp∧g'.F a=au) h',g'.α⟩,I,_,_,oT,k,l.zO.aX ⟨nI.bc _,lK _,fun a n=>(rL n:g'.T.ju (fun a=>a∈fp∧g'.F a=au) h' a=_)⟩,fun a q=>(l.T a id).symm.trans (hT a q),S',ag,It.eu W' fun b hb=>S.DG (hwr b hb),⟨nI.bc _,fun a q=>?_,h',st,fun b hb o e=>?_⟩⟩
 ·obtain ⟨o,e⟩:=(hfp a q.1).1
  exact ⟨o,(qD q:g'.T.ju (fun a=>a∈fp∧g'.F a=au) h' a=_).trans e⟩
 ·cases q:g'.F b with
  |none=>exact .inr ⟨ag,(qD ⟨hb,q⟩:g'.T.ju (fun a=>a∈fp∧g'.F a=au) h' b=_).trans e⟩
  |some p=>rw [hk b p (S.dZ b p q)] at e;exact .inl e
def mH{a b:be}{Q:be→Prop}(h1:Q a)(h2:Q b):∀c∈ [a,b],Q c:=oZ.mpr ⟨h1,oZ.mpr ⟨h2,fun q9 z=>bW z hU⟩⟩
def pk{a:be}{Q:be→Prop}(h1:Q a):∀c∈ [a],Q c:=oZ.mpr ⟨h1,fun q9 z=>bW z hU⟩
def BV{vs:ao aH}{i:af}{x:am}{v:aH}(r:cI W F xs vs)(hv:vs.toArray[i]? =ac v)(hx:xs[i]? =ac x):iE W F x v:=r.pN hx (by rw [yj] at hv;exact hv)
def Zn{x:am}(h:Hz x=ak):∃ys,x=.bE ys:=by
 cases x<;>first|exact ⟨_,ag⟩|exact cG h
def eU{α:Type}{x:α}{G:Prop}(h:au=ac x):G:=bn h
def Wm{tp:av}{m:aC}{xs:ao am}{P:av→aC→Prop}(h:IB tp m=ac xs)(h1:xs.all Hz=ak→P ak (.f (.al xs)))(h2:P aF (.f (.al xs)))(h3:P aF (.f (.bE xs))):P tp m:=by
 induction m with
 |a6 i=>exact eU h
 |fN i=>exact eU h
 |f x=>
  cases x<;>first|exact eU h|skip
  ·induction tp
   ·exact cp h▸h3
   ·exact eU h
  ·induction tp
   ·exact cp h▸h2
   ·refine aw fun kz=>?_
    obtain ⟨ht,e⟩:=d4 h
    obtain rfl:=cp e
    refine kz ?_;try clear kz
    exact h1 ht
def Zo{vs:ao aH}(r:cI W F xs vs)(h:xs.all Hz=ak):∃(Ts:af→be)(vals:af→ao aH),∀j x,xs[j]? =ac x→vs[j]? =ac (.ref (Ts j))∧(∃n,F (Ts j)=ac (cw "tuple" (vals j) n))∧∃ys,x=.bE ys∧cI W F ys (vals j):=by
 have qb:∀j:af,∃p:be×ao aH,∀x:am,xs[j]? =ac x→vs[j]? =ac (Value.ref p.1)∧(∃n,F p.1=ac (cw "tuple" p.2 n))∧∃ys,x=am.bE ys∧cI W F ys p.2:=fun j=>by
  cases e:xs[j]? with
  |none=>exact ⟨(0,[]),fun x z=>nomatch (show au=ac x from z)⟩
  |some x=>
   refine aw fun kz=>?_
   obtain ⟨ys,rfl⟩:=Zn (ow.mp h x (gM e))
   obtain ⟨v,hv,a,l,n,rfl,f,q⟩:=r.jV e
   refine kz ?_;try clear kz
   exact ⟨(a,l),fun x z=>cp z▸⟨hv,⟨n,f⟩,ys,ag,q⟩⟩
 exact ⟨fun j=>(aa7 (qb j)).1,fun j=>(aa7 (qb j)).2,fun j=>Classical.choose_spec (qb j)⟩
def QK(hA:A.handled=au){K:KL}(S:bZ W g σ s){v:aH}(r:iE W g.F (.bE xs) v)(hz:xs.length≤100000)(k:K xs σ):Wp W A (mj v) (vR W A g aF K) s:=by
 obtain ⟨a,vs,n,rfl,f,q⟩:=r
 have e:=S.dZ _ _ f
 refine wpAny_pyIter_tuple (l4 e) (vR.eu (.bc _) S (fun b o e=>ql _ e) (Wk.GX (Walks.tuple hA s.heap.objs.size a (nv (mq e)) vs.toArray) (by (refine aq jy ?_;refine aq q.bh ?_;rfl)) (fun i v x p hx=>BV q p hx) fun i h st=>pk (st.1.imp fun q9 e=>e.1))
  ⟨⟨_,rN _ ag,ag,ag⟩,l4 (ql _ e)⟩ (mH ⟨⟨_,rN _ ag⟩,.inl (c9 _)⟩ ⟨⟨_,ql _ e⟩,.inr ⟨_,f⟩⟩) (pk (c9 _)) (a5 hz (by decide)) k)
def Wn(hA:A.handled=au){K:KL}(S:bZ W g σ s){v:aH}(r:iE W g.F (.al xs) v)(hz:xs.length≤100000)(k:K xs σ):Wp W A (mj v) (vR W A g aF K) s:=by
 obtain ⟨a,vs,n,rfl,f,q⟩:=r
 have e:=S.dZ _ _ f
 refine R5 (eF e) (vR.eu (.bc _) S (fun b o e=>ql _ e) (Wk.GX (Walks.list hA s.heap.objs.size a (nv (mq e)) vs.toArray) (by (refine aq jy ?_;refine aq q.bh ?_;rfl)) (fun i v x p hx=>BV q p hx) fun i h st=>pk (st.1.imp fun q9 e=>e.1))
  ⟨⟨_,rN _ ag,ag,ag⟩,(eF e).push _⟩ (mH ⟨⟨_,rN _ ag⟩,.inl (c9 _)⟩ ⟨⟨_,ql _ e⟩,.inr ⟨_,f⟩⟩) (pk (c9 _)) (a5 hz (by decide)) k)
def QL(hA:A.handled=au){K:KL}(S:bZ W g σ s){v:aH}(r:iE W g.F (.al xs) v)(ht:xs.all Hz=ak)(hz:xs.length≤100000)(k:K xs σ):Wp W A (mj v) (vR W A g ak K) s:=by
 refine aw fun kz=>?_
 obtain ⟨a,vs,n,rfl,f,q⟩:=r
 have e:=S.dZ _ _ f
 obtain ⟨Ts,vals,H⟩:=Zo q ht
 refine kz ?_;try clear kz
 have sz:vs.toArray.size=xs.length:=by (refine aq jy ?_;refine aq q.bh ?_;rfl)
 have at_:∀j,j<vs.toArray.size→∃x,xs[j]? =ac x:=fun j hj=>⟨_,ed (sz▸hj)⟩
 refine R5 (eF e) (vR.eu (.bc _) S (fun b o e=>ql _ e)
  (Wk.ofU (WalksU.listOfTuples hA s.heap.objs.size a (nv (mq e)) vs.toArray Ts (fun j=>(vals j).toArray) (fun j hj=>?_) (fun j hj=>?_)) sz (fun i vv x p hx=>?_) fun i h st=>pk (st.1.imp fun q9 e=>e.1))
  ⟨⟨_,rN _ ag,ag,ag⟩,(eF e).push _,fun j hj=>?_⟩ (oZ.mpr ⟨⟨⟨_,rN _ ag⟩,.inl (c9 _)⟩,oZ.mpr ⟨⟨⟨_,ql _ e⟩,.inr ⟨_,f⟩⟩,fun b hb=>?_⟩⟩) (pk (c9 _)) (a5 hz (by decide)) k)
 ·obtain ⟨x,hx⟩:=at_ j hj
  rw [yj]
  exact (H j x hx).1
 ·refine aw fun kz=>?_
  obtain ⟨x,hx⟩:=at_ j hj
  obtain ⟨_,⟨n,z⟩,_⟩:=H j x hx
  refine kz ?_;try clear kz
  exact nv (mq (S.dZ _ _ z))
 ·refine aw fun kz=>?_
  obtain ⟨_,_,ys,e,r⟩:=H i x hx
  refine kz ?_;try clear kz
  exact ⟨ys,e,p▸r⟩
 ·refine aw fun kz=>?_
  obtain ⟨x,hx⟩:=at_ j hj
  obtain ⟨_,⟨n,z⟩,_⟩:=H j x hx
  refine kz ?_;try clear kz
  exact l4 (ql _ (S.dZ _ _ z))
 ·refine aw fun kz=>?_
  obtain ⟨j,hj,rfl⟩:=iO.mp hb
  obtain ⟨x,hx⟩:=at_ j (qk.mp hj)
  obtain ⟨_,⟨n,z⟩,_⟩:=H j x hx
  refine kz ?_;try clear kz
  exact ⟨⟨_,ql _ (S.dZ _ _ z)⟩,.inr ⟨_,z⟩⟩
def Wo(hA:A.handled=au){K:KL}{m:aC}{v:aH}{tp:av}(S:bZ W g σ s)(r:c7 W g m v)(k:Ti tp K m σ):Wp W A (mj v) (vR W A g tp K) s:=by
 obtain ⟨xs,h,k1⟩:=fk k
 obtain ⟨hz,k2⟩:=xH k1
 exact Wm (P:=fun tp m=>c7 W g m v→Wp W A (mj v) (vR W A g tp K) s) h (fun ht r=>QL hA S r ht hz k2) (fun r=>Wn hA S r hz k2) (fun r=>QK hA S r hz k2) r
end
def QM(W:Wd)(d:af)(C:bw)(it:yD):Prop:=∀{sc:Sc}{aP:fH}{e:aT}{A:dD}{g:cZ}{σ:an}{s:bz}{env:cB}{ρ:bJ},mIt W.T sc aP it e=ak→At W d A g σ s env sc aP ρ→∀(tp:av)(K:KL),vIt ⟨W.T,C⟩ tp it ρ σ K→(∀x,Ay e env x=dM x)∧Wp W A (fo e env) (fun v s₁=>Wp W A (mj v) (vR W A g tp K) s₁) s
section
variable{W:Wd}{A:dD}{g g':cZ}{σ:an}{s:bz}{F:cr}{d:af}{C:bw}{xs:ao am}
def Wq{e:aT}(h:MS e=aF)(env:cB):∀x,Ay e env x=dM x:=by
 intro x
 cases e<;>first|rfl|exact cG h
def Wr{e:a8}(he:eW W d C e):QM W d C (.bk e):=fun hm h tp K k=>by
 refine gu hm fun h1 h2=>⟨Wq (d5 h1) _,((he h2 h).dC _ k).vp fun v s₁ m cJ bT l₁ cf bv bX=>?_⟩
 exact (Wo h.a.gA bv cf bX).bu fun iv df P=>P.iX l₁
def Gd(hW:l9 W){nm:pC}(hn:nm∈(["range","enumerate","zip"] :ao pC)){f:aT}(hg:y6 f (mP nm)=ak){sc:Sc}{aP:fH}(hs:(sc.lookup (mP nm)==ac .globalImplicit)=ak)(hd:(mP nm==("__debug__":aI))=aF){ρ:bJ}{env:cB}
  (h:At W d A g σ s env sc aP ρ) {as:ao aT} {pos:bG} (hx:(tA pos (qL as env)).any (·.1)=aF) {Q:aH→bz→Prop}
  (q:Wp W A (wz (tA pos (qL as env))) (fun vs s₁=>W.K.In s₁.heap∧Wp W A (gH (.type nm) vs) Q s₁) s):Wp W A (fo (.Call f as [] pos) env) Q s:=by
 refine dt (G:=Wp W A (fo (.Call f as [] pos) env) Q s) hg fun p e z=>?_
 have e1:p.1=mP nm:=cz z
 (refine aq e ?_;refine aq e1 ?_)
 obtain ⟨mg,mb,h1,h2,h3,h4⟩:=hW.ahc nm hn
 show Wp W A (do Mb pos (← fo (.Name (mP nm) p.2) env) [] (tA pos (qL as env)) []) Q s
 refine bV (abk h.E.cx (h.E.aJ _ (cz hs)) (abl (by refine aq h.E.pU ?_;exact h1.keeps fun b o e=>h.S.m9 e) h2 (by refine aq h.E.qg ?_;exact h3.keeps fun b o e=>h.S.m9 e) h4 ?_) hd)
 exact tS (.inr (.inl ⟨nm,ag⟩)) hx q
def OZ(hW:l9 W){e:a8}(he:eW W d C e){nm:pC}(hn:nm∈(["range","enumerate","zip"] :ao pC))(hd:(mP nm==("__debug__":aI))=aF){sc:Sc}{aP:fH}{ρ:bJ}{env:cB}(h:At W d A g σ s env sc aP ρ){x:aT}
  (hm:wh x (fun g as ks q9=>y6 g (mP nm)&&sc.lookup (mP nm)==ac .globalImplicit&&ks.isEmpty&&fS as fun x as=>as.isEmpty&& !kU x&&mE W.T sc aP e x)=ak) {tp:av} {K:KL} {K1:KE} (k:vE ⟨W.T,C⟩ e ρ σ K1)
  (q:∀m v bT cJ s₁,bZ W bT cJ s₁→c7 W bT m v→K1 m cJ→Wp W A (gH (.type nm) [v]) (fun v s₁=>Wp W A (mj v) (vR W A bT tp K) s₁) s₁):(∀z,Ay x env z=dM z)∧Wp W A (fo x env) (fun v s₁=>Wp W A (mj v) (vR W A g tp K) s₁) s:=by
 apply Bc hm
 intro f as ks pos h2
 refine ul h2 fun h3 h4 h5 h6=>jr (P:=fun ks=>(∀z,Ay (.Call f as ks pos) env z=dM z)∧Wp W A (fo (.Call f as ks pos) env) _ s) h5 (du (P:=fun as=>(∀z,Ay (.Call f as [] pos) env z=dM z)∧Wp W A (fo (.Call f as [] pos) env) _ s) h6 fun a as h6=>iG h6 fun h7 h8 h9=>jr (P:=fun as=>(∀z,Ay (.Call f (a::as) [] pos) env z=dM z)∧Wp W A (fo (.Call f (a::as) [] pos) env) _ s) h7 ⟨fun x=>ag,?_⟩)
 refine Gd hW hn h3 h4 hd h (by refine aq (si (d5 h8)) ?_;rfl) (kA (d5 h8) (((he h9 h).dC _ k).vp fun v s₁ m cJ bT l₁ cf bv bX=>Mn ⟨bv.Ld hW,?_⟩))
 exact (q m v bT cJ s₁ bv cf bX).bu fun v df z=>z.bu fun iv qq P=>P.iX l₁
def Kl{tp:av}{m:aC}(h:uQ tp m=ac xs):tp=aF∧∃n,m=.f (.ae n)∧n.natAbs≤1000000∧xs=cU n:=by
 induction tp with
 |true=>exact eU h
 |false=>
  induction m with
  |a6 i=>exact eU h
  |fN i=>exact eU h
  |f x=>
   cases x<;>first|exact eU h|skip
   obtain ⟨h1,h2⟩:=d4 h
   exact ⟨ag,_,ag,h1,(cp h2).symm⟩
def Ws{n:aN}{i:af}{x:am}(h:(cU n)[i]? =ac x):x=.ae i:=by
 obtain ⟨j,hj,e⟩:=cK (j9 .. ▸h)
 obtain ⟨z,e2⟩:=fM.mp hj
 (refine iu e ?_;refine iu e2 ?_;rw [RK])
def Wt(hW:l9 W){e:a8}(he:eW W d C e):QM W d C (.gD e):=fun hm h tp K k=>by
 refine OZ hW he (nm:="range") (fF ..) ag h hm k fun m v bT cJ s₁ bv cf bX=>?_
 refine aw fun kz=>?_
 obtain ⟨xs,hx,eV⟩:=fk bX
 obtain ⟨rfl,n,rfl,hn,rfl⟩:=Kl hx
 obtain ⟨t,rfl⟩:=cf
 refine kz ?_;try clear kz
 have hsz:abd 0 n 1=(n.toNat:aN):=by rw [rangeSize_one];split<;>lia
 have lo:∀o:dF,s₁.heap.objs.size≤(s₁.heap.push o).objs.size:=fun o=>by rw [Mf];exact fQ _
 refine call_range_1 (wpAny_pyIter_range (IsRange.new ..) (small_one (by decide) (by decide) (yy (by decide) (afR hn)) (Int.lt_of_le_of_lt (abn hn) (by decide))) ?_)
 refine vR.eu (s:=s₁) (.bc _) bv (fun b o e=>ql _ (ql _ e)) (Wk.GX (Walks.range h.a.gA _ 0 1 n.toNat) (by unfold cU;(rewrite [b9];refine aq sM ?_;rfl)) (fun i v x ⟨t,p⟩ hx=>?_) fun i h st=>pk ⟨_,st⟩) ?_ (pk ⟨⟨_,rN _ ag⟩,.inl (lo _)⟩) (pk (lo _)) ?_ eV
 ·(refine aq (Ws hx) ?_;refine aq p ?_)
  exact ⟨t,by rw [Int.mul_one,Int.zero_add]⟩
 ·have e1:(0+((0:af):aN)*1)=0:=ag
  have e2:((n.toNat:aN)-((0:af):aN))=abd 0 n 1:=by refine aq hsz ?_;exact aaX _
  show IsRangeIter _ _ (0+((0:af):aN)*1) ((n.toNat:aN)-((0:af):aN)) 1
  (refine aq e1 ?_;refine aq e2 ?_)
  exact rN _ ag
 ·unfold cU
  (rewrite [b9];refine aq sM ?_)
  exact N6 hn
end
section
variable{W:Wd}{A:dD}{g g':cZ}{σ:an}{s:bz}{F:cr}{d:af}{C:bw}{xs ys:ao am}
def Ge{i:af}{x:am}(h:(eO xs)[i]? =ac x):∃y,xs[i]? =ac y∧x=.bE [.ae i,y] :=by
 obtain ⟨p,hp,e⟩:=cK (j9 .. ▸h)
 obtain ⟨y,hy,e2⟩:=cK (aah .. ▸hp)
 exact ⟨y,hy,by (refine iu e ?_;refine iu e2 ?_;rw [nu])⟩
def CF{a b:am}{u v:aH}(h1:iE W F a u)(h2:iE W F b v):cI W F [a,b] (#[u,v] :kC aH).toList:=⟨u,[v],ag,h1,v,[],ag,h2,ag⟩
def Wu{x:aI}{i:af}{y:am}(h:(nQ x)[i]? =ac y):∃c,x.cps[i]? =ac c∧y=.ah ⟨#[c]⟩:=by
 obtain ⟨c,hc,e⟩:=cK (j9 .. ▸h)
 exact ⟨c,by rw [← Sr];exact hc,e.symm⟩
def pX{h:dW}{I a:be}{i:af}(x:h.IsListIter I a i):∃o,h.get? I=ac o:=by obtain ⟨o,e,_⟩:=x;exact ⟨o,e⟩
def vT:(eO xs).length=xs.length:=by
 unfold eO
 (rewrite [b9];refine aq aak ?_;rfl)
def JE{x:aI}:(nQ x).length=x.cps.size:=by
 unfold nQ
 (rewrite [b9];refine aq Array.length_toList ?_;rfl)
def afy{a b:af}(h:a<b):(a:be)≠b:=nv h
def S7{a b:af}(h:b<a):(a:be)≠b:=(nv h).symm
def QN(hA:A.handled=au){K:KL}{v:aH}(S:bZ W g σ s)(r:iE W g.F (.al xs) v)(hz:xs.length≤100000)(k:K (eO xs) σ):Wp W A (gH (.type "enumerate") [v]) (fun v s₁=>Wp W A (mj v) (vR W A g ak K) s₁) s:=by
 refine aw fun kz=>?_
 obtain ⟨l,vs,n,rfl,f,q⟩:=r
 refine kz ?_;try clear kz
 have e:=S.dZ _ _ f
 have hl:@Hv af G9 l s.heap.objs.size:=mq e
 have up:∀k:af,@Eg af DR s.heap.objs.size (s.heap.objs.size+k):=fun k=>ff _ k
 have lt1:@Hv af G9 s.heap.objs.size (s.heap.objs.size+1):=je _
 refine call_enumerate_list (eF e) fun h' FV hit hsz hk=>aaM FV (vR.eu (.bc _) S hk
  (Wk.ofU (WalksT.enumerate hA (s.heap.objs.size+1) s.heap.objs.size l (S7 lt1) (afy (uD hl)) (afy hl) vs.toArray).toU (by (refine aq jy ?_;refine aq q.bh ?_;refine aq vT ?_;rfl)) (fun i vals x hz hx=>?_) fun i h st=>mH (st.1.elim fun q9 e=>⟨_,e⟩) (pX st.2.1))
  ⟨⟨_,FV⟩,hit,eF (hk _ _ e)⟩ (oZ.mpr ⟨⟨⟨_,FV⟩,.inl (up 1)⟩,mH ⟨pX hit,.inl (up 0)⟩ ⟨⟨_,hk _ _ e⟩,.inr ⟨_,f⟩⟩⟩) (mH (up 1) (up 0)) (by refine aq vT ?_;exact a5 hz (by decide)) k)
 refine aw fun kz=>?_
 obtain ⟨t,y,hy,p⟩:=hz
 obtain ⟨z,hz,e⟩:=Ge hx
 refine kz ?_;try clear kz
 exact ⟨_,e,p▸CF ⟨t,ag⟩ (BV q hy hz)⟩
def Wv(hA:A.handled=au){K:KL}{z:aI}{t:mO}(S:bZ W g σ s)(ha:z.cps.all (·<128)=ak)(hz:z.cps.size≤100000)(k:K (eO (nQ z)) σ):Wp W A (gH (.type "enumerate") [.str z t]) (fun v s₁=>Wp W A (mj v) (vR W A g ak K) s₁) s:=by
 have up:∀k:af,@Eg af DR s.heap.objs.size (s.heap.objs.size+k):=fun k=>ff _ k
 have lt1:@Hv af G9 s.heap.objs.size (s.heap.objs.size+1):=je _
 refine call_enumerate_str fun h' FV hit hsz hk=>aaM FV ?_
 rw [show strIterType z="str_ascii_iterator" from bD ha] at hit
 refine vR.eu (.bc _) S hk
  (Wk.ofU (WalksT.enumerateD (Draws.strAscii (A:=A.in1) hA s.heap.objs.size z t) (s.heap.objs.size+1) (S7 lt1) (fun h=>S7 lt1 (jg.mp h)) (jg.mpr ag)).toU (by (refine aq vT ?_;refine aq JE ?_;rfl)) (fun i vals x hz hx=>?_) fun i h st=>mH (st.1.elim fun q9 e=>⟨_,e⟩) (st.2.imp fun q9 e=>e.1))
  ⟨⟨_,FV⟩,hit⟩ (mH ⟨⟨_,FV⟩,.inl (up 1)⟩ ⟨hit.imp fun q9 e=>e.1,.inl (up 0)⟩) (mH (up 1) (up 0)) (by (refine aq vT ?_;refine aq JE ?_);exact a5 hz (by decide)) k
 refine aw fun kz=>?_
 obtain ⟨u,y,⟨c,w,hc,ey⟩,p⟩:=hz
 obtain ⟨q,hq,e⟩:=Ge hx
 obtain ⟨c',hc',e'⟩:=Wu hq
 refine kz ?_;try clear kz
 rw [hc] at hc'
 obtain rfl:=cp hc'
 rw [e'] at e
 exact ⟨_,e,p▸ey▸CF (F:=g.F) (a:=.ae i) (b:=.ah ⟨#[c]⟩) ⟨u,ag⟩ ⟨w,ag⟩⟩
set_option tactic.hygienic true in
def NT{tp:Bool}{m:aC}{P:Bool→aC→Prop}(h:Bw tp m=some xs)(h1:∀ys,ys.length≤100000→xs=eO ys→P true (.f (.al ys)))(h2:∀z:Str,z.cps.all (·<128)=true∧z.cps.size≤100000→xs=eO (nQ z)→P true (.f (.ah z))):P tp m:=by
 induction tp with
 |false=>exact eU h
 |true=>
  induction m with
  |a6 i=>exact eU h
  |fN i=>exact eU h
  |f x=>
   cases x<;>first|exact eU h|skip
   ·rename_i z
    obtain ⟨c,e⟩:=d4 (show (if z.cps.all (·<128)=true∧z.cps.size≤100000 then some (eO (nQ z)) else none)=_ from h)
    exact h2 _ c (Option.some.inj e).symm
   ·rename_i ys
    obtain ⟨c,e⟩:=d4 (show (if ys.length≤100000 then some (eO ys) else none)=_ from h)
    exact h1 _ c (Option.some.inj e).symm
def Zp(hW:l9 W){e:a8}(he:eW W d C e):QM W d C (.Dk e):=fun {sc aP e A g σ s env ρ} hm h tp K k=>by
 refine OZ hW he (nm:="enumerate") (jf _ (fF ..)) ag h hm k fun m v bT cJ s₁ bv cf bX=>?_
 refine aw fun kz=>?_
 obtain ⟨xs,hx,eV⟩:=fk bX
 refine kz ?_;try clear kz
 refine NT (P:=fun tp m=>c7 W bT m v→Wp W A (gH (.type "enumerate") [v]) (fun v s₁=>Wp W A (mj v) (vR W A bT tp K) s₁) s₁) hx (fun ys c e r=>?_) (fun z c e r=>?_) cf
 ·exact QN h.a.gA bv r c (e▸eV)
 ·refine aw fun kz=>?_
  obtain ⟨t,rfl⟩:=r
  refine kz ?_;try clear kz
  exact Wv h.a.gA bv c.1 c.2 (e▸eV)
def aeP{vs us:ao aH}(r:cI W F xs vs)(r':cI W F ys us){i:af}{v u:aH}{x:am}(hv:vs.toArray[i]? =ac v)(hu:us.toArray[i]? =ac u)(hx:(jB xs ys)[i]? =ac x):∃zs,x=.bE zs∧cI W F zs (#[v,u] :kC aH).toList:=by
 obtain ⟨p,hp,e⟩:=cK (j9 .. ▸hx)
 rw [Z5] at hp
 exact ⟨_,e.symm,CF (BV r hv hp.1) (BV r' hu hp.2)⟩
def acW(n:af){i j:af}(h:i≠j):(n+i:be)≠(n+j:af):=fun e=>h (Nat.add_left_cancel e)
def Xf{l n:af}(h:l<n)(i:af):(l:be)≠(n+i:af):=nv (iN h (ff ..))
def QO{n l l':af}(h:l<n)(h':l'<n):ZipApart (n+4) (n+2) (n+3) n (n+1) l l':=by
 constructor<;>first|exact acW n (j:=0) (by decide)|exact acW n (i:=0) (by decide)|exact acW n (by decide)|exact Xf h 0 |exact Xf h _|exact Xf h' 0 |exact Xf h' _
def Ww(hA:A.handled=au){K:KL}{v u:aH}(S:bZ W g σ s)(r:iE W g.F (.al xs) v)(r':iE W g.F (.al ys) u)(hz:xs.length≤100000)(k:K (jB xs ys) σ):Wp W A (gH (.type "zip") [v,u]) (fun v s₁=>Wp W A (mj v) (vR W A g ak K) s₁) s:=by
 refine aw fun kz=>?_
 obtain ⟨l,vs,n,rfl,f,q⟩:=r
 obtain ⟨l',Xt,n',rfl,f',q'⟩:=r'
 refine kz ?_;try clear kz
 have e:=S.dZ _ _ f
 have e':=S.dZ _ _ f'
 have up:∀k:af,@Eg af DR s.heap.objs.size (s.heap.objs.size+k):=fun k=>ff _ k
 refine call_zip_2 (eF e) (eF e') fun h' z1 z2 z3 z4 z5 hsz hk=>wpAny_pyIter_zip z1 (vR.eu (.bc _) S hk
  (Wk.ofU (WalksT.zip2 hA (s.heap.objs.size+4) (s.heap.objs.size+2) (s.heap.objs.size+3) s.heap.objs.size (s.heap.objs.size+1) l l' (QO (mq e) (mq e')) vs.toArray Xt.toArray).toU ?_ (fun i vals x jF hx=>by obtain ⟨y,y',hy,hy',p⟩:=jF;exact p▸aeP q q' hy hy' hx) fun i h st=>?_)
  ⟨z1,z2,⟨_,_,z3⟩,z4,z5,eF (hk _ _ e),eF (hk _ _ e')⟩ (oZ.mpr ⟨⟨⟨_,z1⟩,.inl (up 4)⟩,oZ.mpr ⟨⟨⟨_,z2⟩,.inl (up 2)⟩,oZ.mpr ⟨⟨⟨_,z3⟩,.inl (up 3)⟩,oZ.mpr ⟨⟨pX z4,.inl (up 0)⟩,oZ.mpr ⟨⟨pX z5,.inl (up 1)⟩,mH ⟨⟨_,hk _ _ e⟩,.inr ⟨_,f⟩⟩ ⟨⟨_,hk _ _ e'⟩,.inr ⟨_,f'⟩⟩⟩⟩⟩⟩⟩) (oZ.mpr ⟨up 4,oZ.mpr ⟨up 3,mH (up 0) (up 1)⟩⟩) ?_ k)
 ·unfold jB
  (refine aq jy ?_;refine aq jy ?_;refine aq q.bh ?_;refine aq q'.bh ?_;rewrite [b9];refine aq aas ?_;rfl)
 ·refine aw fun kz=>?_
  obtain ⟨st1,st2,⟨_,_,st3⟩,st4,st5,_⟩:=st
  refine kz ?_;try clear kz
  exact oZ.mpr ⟨⟨_,st1⟩,oZ.mpr ⟨⟨_,st3⟩,mH (pX st4) (pX st5)⟩⟩
 ·unfold jB
  (rewrite [b9];refine aq aas ?_)
  exact a5 (Nat.min_le_left ..) (a5 hz (by decide))
set_option tactic.hygienic true in
def QP{tp:Bool}{m n:aC}(h:Mq tp m n=some xs):∃ys zs,tp=true∧m=.f (.al ys)∧n=.f (.al zs)∧ys.length≤100000∧xs=jB ys zs:=by
 induction tp with
 |false=>exact eU h
 |true=>
  induction m with
  |a6 i=>exact eU h
  |fN i=>exact eU h
  |f x=>
   cases x<;>first|exact eU h|skip
   induction n with
   |a6 i=>exact eU h
   |fN i=>exact eU h
   |f y=>
    cases y<;>first|exact eU h|skip
    rename_i ys zs
    obtain ⟨c,e⟩:=d4 (show (if ys.length≤100000 then some (jB ys zs) else none)=_ from h)
    exact ⟨_,_,rfl,rfl,rfl,c,(Option.some.inj e).symm⟩
def aeQ(hW:l9 W){e e':a8}(he:eW W d C e)(FV:eW W d C e'):QM W d C (.Eh e e'):=fun {sc aP x A g σ s env ρ} hm h tp K k=>by
 apply Bc (f:=fun g as ks q9=>y6 g "zip"&&sc.lookup ("zip":aI)==ac .globalImplicit&&ks.isEmpty&&fS as fun x as=>fS as fun y as=>as.isEmpty&& !kU x&& !kU y&&mE W.T sc aP e x&&mE W.T sc aP e' y) hm
 intro f as ks pos h2
 refine ul h2 fun h3 h4 h5 h6=>?_
 apply jr h5
 apply du h6
 intro a as h7
 apply du h7
 intro b as h8
 refine Iv h8 fun h8 h9 hx hy hz=>?_
 apply jr h8
 refine ⟨fun x=>ag,Gd hW (nm:="zip") (jf _ (jf _ (fF ..))) h3 h4 ag h (by (refine aq (si (d5 h9)) ?_;refine aq (si (d5 hx)) ?_);rfl) (kA (d5 h9) (((he hy h).dC _ k).vp fun v s₁ m cJ bT l₁ cf bv bX=>kA (d5 hx) (((FV hz (h.aS l₁ bv)).dC _ bX).vp fun u df m₂ kM g5 l₂ nW dU eV=>Mn ⟨dU.Ld hW,?_⟩)))⟩
 refine aw fun kz=>?_
 obtain ⟨xs,hx,oG⟩:=fk eV
 obtain ⟨ys,zs,rfl,rfl,rfl,c,rfl⟩:=QP hx
 refine kz ?_;try clear kz
 exact (Ww h.a.gA dU (cf.bu l₂) nW c oG).bu fun v df z=>z.bu fun iv qq P=>P.iX (l₁.aX l₂)
end
def BP(W:Wd)(env:cB)(fr:be→Prop)(sc:Sc)(aP:fH)(g:cZ)(K:bJ→Prop)(σ:an)(s':bz):Prop:=∃g' dw,Le fr g g'∧eN W g' env sc aP dw∧bZ W g' σ s'∧K dw
def qE(env:cB)(fr:be→Prop)(aP:fH)(xs:ao af):Prop:=∀x∈xs,∀nm,(x,nm)∈aP→∀a,BT env nm a→fr a
section
variable{W:Wd}{A:dD}{g g':cZ}{σ:an}{s:bz}{env:cB}{sc:Sc}{aP:fH}{ρ:bJ}{fr:be→Prop}
def BP.iX{K:bJ→Prop}(l:Le fr g g')(h:BP W env fr sc aP g' K σ s):BP W env fr sc aP g K σ s:=by obtain ⟨g2,dw,a,b⟩:=h;exact ⟨g2,dw,l.aX a,b⟩
def yb:∀{ρ:bJ}{x:af}{v:aC}{K:bJ→Prop},AO ρ x v K→K (ρ.set x (ac v)):=by
 intro ρ
 induction ρ with
 |nil=>
  intro x
  rcases x with _|_
  ·intro z2 z3 z4
   first|exact bn z4|exact rt z4|exact Bool.noConfusion z4|exact False.elim z4|exact bn z3|exact nomatch z3|exact Bool.noConfusion z3|exact False.elim z3|exact bn z2|exact nomatch z2|exact Bool.noConfusion z2|exact False.elim z2
  ·intro z2 z3 z4
   first|exact bn z4|exact rt z4|exact Bool.noConfusion z4|exact False.elim z4|exact bn z3|exact nomatch z3|exact Bool.noConfusion z3|exact False.elim z3|exact bn z2|exact nomatch z2|exact Bool.noConfusion z2|exact False.elim z2
 |cons a r ih=>
  intro x
  rcases x with _|x
  ·intro _ _ k
   exact k
  ·intro v K k
   exact ih (x:=x) (K:=fun r=>K (a::r)) k
def xa(S:bZ W g σ s)(E:eN W g env sc aP ρ){x:af}{nm:aI}{v:aC}{u:aH}{pos:bG}{K:bJ→Prop}(hfr:∀a,BT env nm a→fr a)(h:(x,nm)∈aP)(r:c7 W g v u)(k:AO ρ x v K):Wp W A (n6 (.Name nm pos) env u) (fun q9 s'=>BP W env fr sc aP g K σ s') s:=
 wpAny_assign_Name (ve S E h r fun g' s' l E' S'=>⟨g',_,l.up hfr,E',S',yb k⟩)
def vf{K:bJ→Prop}:∀{xs:ao af}{es:ao aT}{ms:ao aC}{us:ao aH}{ρ:bJ}{g:cZ}{s:bz},bZ W g σ s→eN W g env sc aP ρ→qE env fr aP xs→gi xs aP es=ak→dI W g ms us→Ek xs ms ρ K→
  Wp W A (uJ ((yn es env).map (·.2)) us) (fun q9 s'=>BP W env fr sc aP g K σ s') s:=by
 intro xs
 induction xs with
 |nil=>
  intro es ms
  rcases ms with _|⟨_,_⟩
  ·intro us ρ g s S E hf h r k
   (refine aq (o4.mp h) ?_;refine aq (show us=[] from r) ?_)
   exact RX ⟨g,ρ,.bc _,E,S,k⟩
  ·intro _ _ _ _ _ _ _ _ _ k
   exact k.elim
 |cons x xs ih=>
  intro es ms
  rcases ms with _|⟨m,ms⟩
  ·intro _ _ _ _ _ _ _ _ _ k
   exact k.elim
  ·intro us ρ g s S E hf h r k
   refine aw fun kz=>?_
   obtain ⟨u,us,rfl,r1,r2⟩:=r
   refine kz ?_;try clear kz
   apply du h
   intro t es h
   apply nL h
   intro id pos h
   refine gu h fun h1 h2=>?_
   have hv:=vi.mp h1
   show Wp W A (uJ ((fun v=>n6 (.Name id pos) env v)::(yn es env).map (·.2)) (u::us)) _ s
   rw [uJ]
   refine bV (jI ((xa S E (hf x (fF ..) id hv) hv r1 k).bu fun q9 s₁ hz=>?_))
   obtain ⟨bT,ahu,l,wS,bv,bX⟩:=hz
   exact (ih bv wS (fun y hy=>hf y (jf _ hy)) h2 (r2.bu l) bX).bu fun q9 df B=>B.iX l
def Bg{K:bJ→Prop}:∀{xs:ao af}{vs:ao am}{ρ:bJ},uP xs vs ρ K→Ek xs (vs.map .f) ρ K
 |[],[],_,k=>k
 |[],_::_,_,k=>k.elim
 |_::_,[],_,k=>k.elim
 |x::xs,v::vs,ρ,k=>Gf k fun ρ q=>Bg q
where
 Gf {K K':bJ→Prop}:∀{ρ:bJ}{x:af}{v:aC},AO ρ x v K→(∀ρ,K ρ→K' ρ)→AO ρ x v K'
  |_::_,0,_,k,h=>h _ k
  |a::r,x+1,v,k,h=>Gf (K:=fun r=>K (a::r)) (K':=fun r=>K' (a::r)) (ρ:=r) (x:=x) k fun q9=>h _
def sm{K:bJ→Prop}:∀{xs:ao af}{ms:ao aC}{ρ:bJ},Ek xs ms ρ K→xs.length=ms.length:=by
 intro xs
 induction xs with
 |nil=>
  intro ms
  rcases ms with _|⟨_,_⟩
  ·intro _ _
   exact ag
  ·intro _ k
   exact k.elim
 |cons x xs ih=>
  intro ms
  rcases ms with _|⟨v,vs⟩
  ·intro _ k
   exact k.elim
  ·intro ρ k
   exact a7 tr (ih (yb k))
def GY:∀{xs:ao af}{es:ao aT},gi xs aP es=ak→xs.length=(yn es env).length∧(yn es env).findIdx? (·.1)=au:=by
 intro xs
 induction xs with
 |nil=>
  intro es h
  refine aq (o4.mp h) ?_;exact ⟨ag,ag⟩
 |cons x xs ih=>
  intro es h
  apply du h
  intro t es h
  apply nL h
  intro id pos h
  refine gu h fun q9 h2=>?_
  obtain ⟨a,b⟩:=ih h2
  have e:yn (.Name id pos::es) env=(aF,n6 (.Name id pos) env)::yn es env:=ag
  (refine aq e ?_;rewrite [List.findIdx?_cons];refine aq b ?_)
  exact ⟨a7 tr a,ag⟩
def wY(hA:A.handled=au)(S:bZ W g σ s)(E:eN W g env sc aP ρ){xs:ao af}{es:ao aT}{k:af}{pos:bG}{t:be}{vals:ao aH}{ys:ao am}{K:bJ→Prop}(ht:s.heap.IsTuple t vals.toArray)(r:cI W g.F ys vals)(hf:qE env fr aP xs)(h:gi xs aP es=ak)(q:uP xs ys ρ K):Wp W A (n6 (.Tuple es k pos) env (.ref t)) (fun q9 s'=>BP W env fr sc aP g K σ s') s:=by
 have q:=Bg q
 obtain ⟨l1,l2⟩:=GY (env:=env) h
 refine RZ hA ht (by (refine iu l1 ?_;refine aq (sm q) ?_;rewrite [b9];refine aq jy ?_;refine aq r.bh ?_;rfl)) l2 fun h' hx=>?_
 exact vf (S.jP (h':=h') s.toks fun b o e=>hx b o (nv (mq e)) e) E hf h r.toM q
def Wx{x:am}{xs:ao af}{K:bJ→Prop}(h:lE ρ xs ak x K):∃ys,x=.bE ys∧uP xs ys ρ K:=by
 cases x<;>first|exact ⟨_,ag,h⟩|exact h.elim
def Ia(hA:A.handled=au)(S:bZ W g σ s)(E:eN W g env sc aP ρ){xs:ao af}{t:aT}{v:aH}{x:am}{K:bJ→Prop}(hf:qE env fr aP xs):∀{tp:av},DH xs tp aP t=ak→Gc W g.F tp v x s.heap→lE ρ xs tp x K→Wp W A (n6 t env v) (fun q9 s'=>BP W env fr sc aP g K σ s') s
 |true,hm,q,k=>by
  refine aw fun kz=>?_
  obtain ⟨a,vals,ys,rfl,ht,rfl,r⟩:=q
  refine kz ?_;try clear kz
  apply oq (f:=fun es q9 q9=>gi xs aP es) hm
  intro es n pos h
  exact wY hA S E (vals:=vals.toList) ht r hf h k
 |false,hm,q,k=>by
  rcases xs with _|⟨y,_|⟨z,ys⟩⟩
  ·exact cG hm
  ·apply nL (f:=fun id q9=>aP.contains (y,id)&&gi [] aP []) hm
   intro id pos h
   have hv:=vi.mp (gS h).1
   exact xa (v:=.f x) S E (hf y (fF ..) id hv) hv q k
  ·exact tj (pG (sm (Bg (show uP (y::z::ys) [x] ρ K from k))))
def Wy{xs:ao af}{t:aT}:∀{tp:av},DH xs tp aP t=ak→MY tp t
 |true,hm=>by
  apply oq (f:=fun es q9 q9=>gi xs aP es) hm
  intro es n pos h
  exact ⟨_,_,_,ag⟩
 |false,hm=>by
  match xs,hm with
  |[],hm=>exact cG hm
  |y::ys,hm=>
   apply nL (f:=fun id q9=>aP.contains (y,id)&&gi ys aP []) hm
   intro id pos h
   exact ⟨_,_,ag⟩
end
structure ShS(e:cy) where
 cj:aM {p:aT×bG // e=.Expr p.1 p.2}:=au
 asg:aM {p:ao aT×aT×bG // e=.Assign p.1 p.2.1 p.2.2}:=au
 a9:aM {p:aM aT×bG // e=.Return p.1 p.2}:=au
 bg:aM {p:aT×ao cy×ao cy×bG // e=.If p.1 p.2.1 p.2.2.1 p.2.2.2}:=au
 whl:aM {p:aT×ao cy×ao cy×bG // e=.While p.1 p.2.1 p.2.2.1 p.2.2.2}:=au
 fY:aM {p:aT×aT×ao cy×ao cy×bG // e=.For p.1 p.2.1 p.2.2.1 p.2.2.2.1 p.2.2.2.2}:=au
 iz:aM {p:bG // e=.Continue p}:=au
 AB:aM {p:ao cy×ao R7×ao cy×ao cy×bG // e=.Try p.1 p.2.1 p.2.2.1 p.2.2.2.1 p.2.2.2.2}:=au
noncomputable def Uf(e:cy):ShS e:=match e with
 |.Expr a b=>{cj:=ac ⟨(a,b),ag⟩}
 |.Assign a b c=>{asg:=ac ⟨(a,b,c),ag⟩}
 |.Return a b=>{a9:=ac ⟨(a,b),ag⟩}
 |.If a b c d=>{bg:=ac ⟨(a,b,c,d),ag⟩}
 |.While a b c d=>{whl:=ac ⟨(a,b,c,d),ag⟩}
 |.For a b c d e=>{fY:=ac ⟨(a,b,c,d,e),ag⟩}
 |.Continue a=>{iz:=ac ⟨a,ag⟩}
 |.Try a b c d e=>{AB:=ac ⟨(a,b,c,d,e),ag⟩}
 |_=>{}
def O0(e:cy)(f:aT→bG→av):av:=(Uf e).cj.any fun p=>f p.1.1 p.1.2
def Wz{e:cy}{f:aT→bG→av}{P:cy→Prop}(h:O0 e f=ak)(k:∀a b,f a b=ak→P (.Expr a b)):P e:=dt h fun p q z=>q▸k p.1 p.2 z
def nY(e:cy)(f:ao aT→aT→bG→av):av:=(Uf e).asg.any fun p=>f p.1.1 p.1.2.1 p.1.2.2
def oe{e:cy}{f:ao aT→aT→bG→av}{P:cy→Prop}(h:nY e f=ak)(k:∀a b c,f a b c=ak→P (.Assign a b c)):P e:=dt h fun p q z=>q▸k p.1 p.2.1 p.2.2 z
def Gg(e:cy)(f:aM aT→bG→av):av:=(Uf e).a9.any fun p=>f p.1.1 p.1.2
def NU{e:cy}{f:aM aT→bG→av}{P:cy→Prop}(h:Gg e f=ak)(k:∀a b,f a b=ak→P (.Return a b)):P e:=dt h fun p q z=>q▸k p.1 p.2 z
def acd(e:cy)(f:aT→ao cy→ao cy→bG→av):av:=(Uf e).bg.any fun p=>f p.1.1 p.1.2.1 p.1.2.2.1 p.1.2.2.2
def aeR{e:cy}{f:aT→ao cy→ao cy→bG→av}{P:cy→Prop}(h:acd e f=ak)(k:∀a b c d,f a b c d=ak→P (.If a b c d)):P e:=dt h fun p q z=>q▸k p.1 p.2.1 p.2.2.1 p.2.2.2 z
def JF(e:cy)(f:aT→ao cy→ao cy→bG→av):av:=(Uf e).whl.any fun p=>f p.1.1 p.1.2.1 p.1.2.2.1 p.1.2.2.2
def QQ{e:cy}{f:aT→ao cy→ao cy→bG→av}{P:cy→Prop}(h:JF e f=ak)(k:∀a b c d,f a b c d=ak→P (.While a b c d)):P e:=dt h fun p q z=>q▸k p.1 p.2.1 p.2.2.1 p.2.2.2 z
def Ug(e:cy)(f:aT→aT→ao cy→ao cy→bG→av):av:=(Uf e).fY.any fun p=>f p.1.1 p.1.2.1 p.1.2.2.1 p.1.2.2.2.1 p.1.2.2.2.2
def Zq{e:cy}{f:aT→aT→ao cy→ao cy→bG→av}{P:cy→Prop}(h:Ug e f=ak)(k:∀a b c d e,f a b c d e=ak→P (.For a b c d e)):P e:=dt h fun p q z=>q▸k p.1 p.2.1 p.2.2.1 p.2.2.2.1 p.2.2.2.2 z
def Ak(e:cy)(f:bG→av):av:=(Uf e).iz.any fun p=>f p.1
def Ib{e:cy}{f:bG→av}{P:cy→Prop}(h:Ak e f=ak)(k:∀a,f a=ak→P (.Continue a)):P e:=dt h fun p q z=>q▸k p z
def Uh(e:cy)(f:ao cy→ao R7→ao cy→ao cy→bG→av):av:=(Uf e).AB.any fun p=>f p.1.1 p.1.2.1 p.1.2.2.1 p.1.2.2.2.1 p.1.2.2.2.2
def Zr{e:cy}{f:ao cy→ao R7→ao cy→ao cy→bG→av}{P:cy→Prop}(h:Uh e f=ak)(k:∀a b c d e,f a b c d e=ak→P (.Try a b c d e)):P e:=dt h fun p q z=>q▸k p.1 p.2.1 p.2.2.1 p.2.2.2.1 p.2.2.2.2 z
def og{α:Type}(l:ao α)(f:α→av):av:=fS l fun a r=>r.isEmpty&&f a
def ud{α:Type}{l:ao α}{f:α→av}{P:ao α→Prop}(h:og l f=ak)(k:∀a,f a=ak→P [a]):P l:=du h fun a r h=>gu h fun h1 h2=>jr (P:=fun r=>P (a::r)) h1 (k a h2)
noncomputable def GZ:a8→av
 |.dL .. =>ak
 |_=>aF
section
variable(T:vk)
mutual
def mS(sc:Sc)(aP:fH):Hx→cy→av
 |.cj e,x=>O0 x fun v q9=>!pB v&&mE T sc aP e v
 |.aW x e,z=>nY z fun ts v q9=>og ts fun t=>wg t fun id q9=>aP.contains (x,id)&&(!pB v||GZ e)&&mE T sc aP e v
 |.dS xs es,z=>nY z fun ts v q9=>og ts fun t=>kl t fun tt q9 q9=>kl v fun vs q9 q9=>gi xs aP tt&&dc xs.Nodup&&(!(vs.all (R6 8))||vs.all (R8 8))&&xG T sc aP es vs
 |.j6 xs e,z=>nY z fun ts v q9=>og ts fun t=>kl t fun tt q9 q9=>!pB v&& !(sh v).bE.isSome&&gi xs aP tt&&mE T sc aP e v
 |.kq o i e,z=>nY z fun ts v q9=>og ts fun t=>iy t fun o' i' q9=>!pB v&&mE T sc aP o o'&&mE T sc aP i i'&&mE T sc aP e v
 |.sn o i p j a b,z=>nY z fun ts v q9=>og ts fun t=>kl t fun tt q9 q9=>fS tt fun t1 tt=>og tt fun t2=>iy t1 fun o' i' q9=>iy t2 fun p' j' q9=>kl v fun vs q9 q9=>fS vs fun a' vs=>og vs fun b'=>!kU a'&& !kU b'&&(mE T sc aP o o'&&mE T sc aP i i'&&mE T sc aP p p'&&mE T sc aP j j'&&mE T sc aP a a'&&mE T sc aP b b')
 |.a9 e,z=>Gg z fun v q9=>v.any fun x=>mE T sc aP e x
 |.bg c a b,z=>acd z fun t x y q9=>mE T sc aP c t&&BW sc aP a x&&BW sc aP b y
 |.tY _ c b,z=>JF z fun t x o q9=>o.isEmpty&&mE T sc aP c t&&BW sc aP b x
 |.fY xs vZ it b,z=>Ug z fun t x ss o q9=>o.isEmpty&&DH xs vZ aP t&&mIt T sc aP it x&&BW sc aP b ss
 |.iz,z=>Ak z fun q9=>ak
 |.AB b,z=>Uh z fun ss hs o f q9=>!hs.isEmpty&&o.isEmpty&&f.isEmpty&&BW sc aP b ss
 |.xb,_=>ak
def BW(sc:Sc)(aP:fH):bK→ao cy→av
 |.ab,ss=>ss.isEmpty
 |.O s r,ss=>fS ss fun x ss=>mS sc aP s x&&BW sc aP r ss
end
def Ic(sc:Sc)(aP:fH):ao (aI×a8)→ao cy→av
 |[],ss=>ss.isEmpty
 |p::r,ss=>fS ss fun x ss=>(nY x fun ts v q9=>og ts fun t=>q0 t fun o a q9=>wg o fun nm q9=>aP.contains (0,nm)&& !(nm==("__debug__":aI))&& !pB v&&a==p.1&&mE T sc aP p.2 v)&&Ic sc aP r ss
end
def O1(W:Wd)(g:cZ):yG→Flow→Prop
 |.aS,f=>f=.next
 |.iz,f=>f=.cont
 |.a9 v,f=>∃u,f=.ret u∧c7 W g v u
inductive pY(W:Wd)(env:cB)(sc:Sc)(aP:fH)(g:cZ)(K:KS)(f:Flow)(s':bz):Prop
 |mk (fl:yG) (dw:bJ) (bS:an) (g':cZ) (le:Le (bM env) g g') (E:eN W g' env sc aP dw) (rep:O1 W g' fl f) (S:bZ W g' bS s') (k:K fl dw bS)
def Lj(W:Wd)(d:af)(A:dD)(env:cB)(sc:Sc)(aP:fH)(ss:ao cy)(body:bJ→an→KS→Prop):Prop:=∀{g:cZ}{σ:an}{s:bz}{ρ:bJ}(K:KS),At W d A g σ s env sc aP ρ→body ρ σ K→Wp W A (execs ss env) (pY W env sc aP g K) s
def oV(W:Wd)(d:af)(C:bw)(st:Hx):Prop:=∀{sc:Sc}{aP:fH}{x:cy}{A:dD}{g:cZ}{σ:an}{s:bz}{env:cB}{ρ:bJ},mS W.T sc aP st x=ak→At W d A g σ s env sc aP ρ→∀(K:KS),vS ⟨W.T,C⟩ st ρ σ K→Wp W A (gB x env) (pY W env sc aP g K) s
def yc(W:Wd)(d:af)(C:bw)(b:bK):Prop:=∀{sc:Sc}{aP:fH}{ss:ao cy}{A:dD}{env:cB},BW W.T sc aP b ss=ak→Lj W d A env sc aP ss (fI ⟨W.T,C⟩ b)
section
variable{W:Wd}{A:dD}{d:af}{C:bw}{g g':cZ}{σ:an}{s:bz}{env:cB}{sc:Sc}{aP:fH}{ρ:bJ}
def pY.iX{K:KS}{f:Flow}(l:Le (bM env) g g')(h:pY W env sc aP g' K f s):pY W env sc aP g K f s:=by obtain ⟨a,b,c,g2,l2,r1,r2,r3,r4⟩:=h;exact ⟨a,b,c,g2,l.aX l2,r1,r2,r3,r4⟩
def pY.aS{K:KS}{bS:an}{dw:bJ}(l:Le (bM env) g g')(E:eN W g' env sc aP dw)(S:bZ W g' bS s)(k:K .aS dw bS):pY W env sc aP g K .next s:=⟨.aS,_,_,_,l,E,ag,S,k⟩
def Wp.xp{t:gO Flow}{K:KS}{Q:Flow→bz→Prop}(h:Wp W A t (pY W env sc aP g K) s)(k:∀f s' fl dw bS g',Le (bM env) g g'→eN W g' env sc aP dw→O1 W g' fl f→bZ W g' bS s'→K fl dw bS→Q f s'):Wp W A t Q s:=h.bu fun f s' jF=>by obtain ⟨fl,dw,bS,g',l,E,r,S,q⟩:=jF;exact k f s' fl dw bS g' l E r S q
def At.Gh(h:At W d A g σ s env sc aP ρ){g':cZ}{bS:an}{s':bz}{dw:bJ}(E:eN W g' env sc aP dw)(S:bZ W g' bS s'):At W d A g' bS s' env sc aP dw:=⟨h.a,S,E⟩
def CG{v:aT}(h:pB v=aF)(t:aM aT)(l:af):Hn v t l env=dM aF:=by
 cases v<;>first|rfl|exact cG h
def ahv:oV W d C .xb:=fun hm h K k=>k.elim
def aeS:oV W d C .iz:=fun hm h K k=>by
 apply Ib (f:=fun q9=>ak) hm
 intro pos _
 exact wpAny_Continue ⟨.iz,_,_,_,.bc _,h.E,ag,h.S,k⟩
def aeT{e:a8}(he:eW W d C e):oV W d C (.cj e):=fun {sc aP x A g σ s env ρ} hm h K k=>by
 apply Wz (f:=fun v q9=>!pB v&&mE W.T sc aP e v) hm
 intro v pos h2
 refine gu h2 fun h3 h4=>?_
 have hi:Sd env=aF:=by unfold Sd;refine aq h.E.cx ?_;rfl
 show Wp W A (do
  uN pos
  if Sd env then printExpr (fo v env)
  else if ← Hn v au pos.line env then do evalThenUse v env fun q9=>point;dM .next
  else do dropValue v pos (← fo v env)) _ s
 refine bV (mN ?_)
 (refine aq hi ?_;rw [CG (d5 h3)])
 refine bV (fV (bV (((he h4 h).dC _ k).vp fun u s₁ m cJ bT l₁ cf bv bX=>?_)))
 exact wpAny_dropValue (.aS l₁.zO (h.aS l₁ bv).E bv bX)
def ahw{e:a8}(he:eW W d C e):oV W d C (.a9 e):=fun {sc aP x A g σ s env ρ} hm h K k=>by
 apply NU (f:=fun v q9=>v.any fun x=>mE W.T sc aP e x) hm
 intro v pos h2
 obtain ⟨y,rfl,h3⟩:=kZ h2
 exact wpAny_Return_some (((he h3 h).dC _ k).vp fun u s₁ m cJ bT l₁ cf bv bX=>⟨.a9 m,_,_,_,l₁.zO,(h.aS l₁ bv).E,⟨u,ag,cf⟩,bv,bX⟩)
def ahx{c:a8}{a b:bK}(hc:eW W d C c)(ha:yc W d C a)(hb:yc W d C b):oV W d C (.bg c a b):=fun {sc aP x A g σ s env ρ} hm h K k=>by
 apply aeR (f:=fun t x y q9=>mE W.T sc aP c t&&BW W.T sc aP a x&&BW W.T sc aP b y) hm
 intro t x y pos h2
 refine iG h2 fun h3 h4 h5=>wpAny_If (((hc h3 h).qe (fun t σ=>tI t (fI _ a _ σ K) (fI _ b _ σ K)) (fun q9 q9 q=>q) k).zP fun c s₁ cJ bT l₁ bv bX=>?_)
 induction c with
 |true=>exact (ha h4 K (h.aS l₁ bv) bX).bu fun f df P=>P.iX l₁.zO
 |false=>exact (hb h5 K (h.aS l₁ bv) bX).bu fun f df P=>P.iX l₁.zO
def aeU:yc W d C .ab:=fun {sc aP ss A env} hm {g σ s ρ} K h k=>by
 apply jr hm
 exact Hl (.aS (.bc _) h.E h.S k)
def Zs{st:Hx}{r:bK}(hs:oV W d C st)(hr:yc W d C r):yc W d C (.O st r):=fun {sc aP ss A env} hm {g σ s ρ} K h k=>by
 apply du (f:=fun x ss=>mS W.T sc aP st x&&BW W.T sc aP r ss) hm
 intro x ss h2
 refine gu h2 fun h3 h4=>aaO ((hs h3 h _ k).xp fun f s₁ fl ahu cJ bT l₁ wS fr bv bX=>?_)
 induction fl with
 |aS=>
  refine aq (show f=.next from fr) ?_
  exact (hr h4 K (h.Gh wS bv) bX).bu fun f df P=>P.iX l₁
 |iz=>
  refine aq (show f=.cont from fr) ?_
  exact ⟨.iz,_,_,_,l₁,wS,ag,bv,bX⟩
 |a9 m=>
  refine aw fun kz=>?_
  obtain ⟨u,rfl,r⟩:=fr
  refine kz ?_;try clear kz
  exact ⟨.a9 m,_,_,_,l₁,wS,⟨u,ag,r⟩,bv,bX⟩
def Zt{b:bK}(hb:yc W d C b):oV W d C (.AB b):=fun {sc aP x A g σ s env ρ} hm h K k=>by
 apply Zr (f:=fun ss hs o f q9=>!hs.isEmpty&&o.isEmpty&&f.isEmpty&&BW W.T sc aP b ss) hm
 intro ss hs o f pos h2
 refine ul h2 fun h3 h4 h5 h6=>?_
 apply jr h4
 apply jr h5
 match hs,h3 with
 |[],h3=>exact cG h3
 |h₀::hs,_=>
 refine wpAny_Try_except ((hb h6 K h k).pT fun f s' P=>?_)
 induction f with
 |next=>exact Hl P
 |cont=>exact P
 |brk=>exact P
 |ret v=>exact P
def Km(hA:BQ A d){c:a8}(hc:eW W d C c){t:aT}(h1:mE W.T sc aP c t=ak){ss:ao cy}{body:bJ→an→KS→Prop}(hb:Lj W d A env sc aP ss body){K:KS}{po:cZ}{R:yt→bz→Prop}
  (hR:∀f s',pY W env sc aP po K f s'→R (.ok f) s') (N:af) {σ:an} {ρ:bJ} {s:bz} {g:cZ} (l:Le (bM env) po g) (h:At W d A g σ s env sc aP ρ)
  (k:t6 (El (vE ⟨W.T,C⟩ c)) body K N ρ σ):pF (ke W.cY W.w) A (.whileLoop t ss [] env) R s:=by
 refine codeAny_whileLoop (fun n s=>∃g σ ρ,Le (bM env) po g∧At W d A g σ s env sc aP ρ∧t6 (El (vE ⟨W.T,C⟩ c)) body K n ρ σ) ?_ N ⟨g,σ,ρ,l,h,k⟩
 rintro n s ⟨g,σ,ρ,l,h,k⟩
 induction n with
 |zero=>exact k.elim
 |succ n=>
 refine (((hc h1 h).qe (K2:=oQ _) _ (fun q9 q9 q=>q) k).zP (Q:=fun c s'=>TP W g _ c s') fun c s₁ cJ bT l₁ bv bX=>⟨cJ,bT,l₁,bv,bX⟩).pT fun c s₁ jF=>?_
 refine aw fun kz=>?_
 obtain ⟨cJ,bT,l₁,bv,bX⟩:=jF
 refine kz ?_;try clear kz
 have h1:=h.aS l₁ bv
 induction c with
 |false=>exact Hl (hR _ _ (.aS (l.aX l₁.zO) h1.E bv bX))
 |true=>
  refine (hb _ h1 bX).pT fun f df jF=>?_
  refine aw fun kz=>?_
  obtain ⟨fl,ace,kM,g5,l₂,DJ,fr,dU,eV⟩:=jF
  refine kz ?_;try clear kz
  have l':=(l.aX l₁.zO).aX l₂
  induction fl with
  |aS=>refine aq (show f=.next from fr) ?_;exact ⟨n,je _,g5,kM,ace,l',h1.Gh DJ dU,eV⟩
  |iz=>refine aq (show f=.cont from fr) ?_;exact ⟨n,je _,g5,kM,ace,l',h1.Gh DJ dU,eV⟩
  |a9 m=>
   refine aw fun kz=>?_
   obtain ⟨u,rfl,r⟩:=fr
   refine kz ?_;try clear kz
   exact hR _ _ ⟨.a9 m,_,_,_,l',DJ,⟨u,ag,r⟩,dU,eV⟩
def WA{n:af}{c:a8}{b:bK}(hc:eW W d C c)(hb:yc W d C b):oV W d C (.tY n c b):=fun {sc aP x A g σ s env ρ} hm h K k=>by
 apply QQ (f:=fun t x o q9=>o.isEmpty&&mE W.T sc aP c t&&BW W.T sc aP b x) hm
 intro t x o pos h2
 refine iG h2 fun h3 h4 h5=>?_
 apply jr h3
 exact wpAny_While (Km h.a hc h4 (hb h5) (fun f s' P=>P) n (.bc _) h k)
end
section
variable{W:Wd}{A:dD}{d:af}{C:bw}{g g':cZ}{σ:an}{s:bz}{env:cB}{sc:Sc}{aP:fH}{ρ:bJ}
def zV{β:Type}{l:ao β}{i:af}{x:β}{r:ao β}(h:l.drop i=x::r):l[i]? =ac x∧l.drop (i+1)=r:=by
 have e:(l.drop i)[0]? =ac x:=by refine aq h ?_;rfl
 rw [RJ] at e
 exact ⟨e,by (refine iu aau ?_;refine aq h ?_);rfl⟩
def tf(xs:ao af):qE env (bM env) aP xs:=fun q9 q9 q9 q9 q9 h=>h.jc
def Dh{I:be}{own:be→Prop}{P:af→cZ→Prop}{tp:av}{xs:ao am}{fr:be→Prop}(J:It W A I tp xs own P)(hd:∀a,own a→¬bM env a)(hfo:∀a,fr a→bM env a){i:af}(h:At W d A g σ s env sc aP ρ)(p:P i g){x:am}{ns:ao af}{t:aT}{K:bJ→Prop}(hx:xs[i]? =ac x)(hf:qE env fr aP ns)(hm:DH ns tp aP t=ak)(k:lE ρ ns tp x K):
  Wp W A (tB (.ref I)) (fun r s₁=>∃v,r=ac v∧Wp W A (Az t (.ref I) v) (fun q9 df=>Wp W A (n6 t env v) (fun q9 qq=>∃te dw,Le (fun a=>own a∨fr a) g te∧At W d A te σ qq env sc aP dw∧P (i+1) te∧K dw) df) s₁) s:=by
 refine (J.sj p h.S hx (Wy hm)).bu fun r s₁ hz=>?_
 obtain ⟨v,hv,q⟩:=hz
 refine ⟨v,hv,q.bu fun q9 df hz=>?_⟩
 obtain ⟨g5,l₂,dU,p₂,gZ⟩:=hz
 refine (Ia h.a.gA dU (h.E.bu l₂ hd) hf hm gZ k).bu fun q9 qq jF=>?_
 obtain ⟨te,dw,l₃,Gi,pW,oG⟩:=jF
 exact ⟨te,dw,(l₂.up fun q9=>.inl).aX (l₃.up fun q9=>.inr),h.Gh Gi pW,J.bu p₂ l₃ fun a o f=>hd a o (hfo a f),oG⟩
def pp{own fr:be→Prop}{po:cZ}(new:∀a,own a→po.T a=au)(l:Le (fun a=>own a∨fr a) po g):Le fr po ⟨g.F,g.T.iY own,g.α⟩:=⟨l.F,l.α,fun a n=>by
 by_cases q:own a
 ·exact (sF q:g.T.iY own a=au).trans (new a q).symm
 ·exact (rK q:g.T.iY own a=_).trans (l.T a fun z=>z.elim q n)⟩
def Le.iY(own:be→Prop):Le own g ⟨g.F,g.T.iY own,g.α⟩:=⟨nI.bc _,lK _,fun a n=>rK n⟩
def eN.iY{own:be→Prop}(E:eN W g env sc aP ρ)(hd:∀a,own a→¬bM env a):eN W ⟨g.F,g.T.iY own,g.α⟩ env sc aP ρ:=E.bu (Le.iY own) hd
def QR{I:be}{own:be→Prop}{P:af→cZ→Prop}{tp:av}{xs:ao am}(J:It W A I tp xs own P){po:cZ}(new:∀a,own a→po.T a=au)(hd:∀a,own a→¬bM env a){ns:ao af}{t:aT}(hm:DH ns tp aP t=ak){ss:ao cy}{body:bJ→an→KS→Prop}(hb:Lj W d A env sc aP ss body){K:KS}
  {R:yt→bz→Prop} (hR:∀f s',pY W env sc aP po K f s'→R (.ok f) s') {g:cZ} {σ:an} {s:bz} {ρ:bJ} (h:At W d A g σ s env sc aP ρ) (p:P 0 g) (l:Le (fun a=>own a∨bM env a) po g) (k:lP body ns tp K xs ρ σ):pF (ke W.cY W.w) A (.forLoop t (.ref I) ss [] env) R s:=by
 refine codeAny_forLoop_any (fun n s=>∃i r g σ ρ,xs.drop i=r∧i+r.length=xs.length∧n=r.length+1∧Le (fun a=>own a∨bM env a) po g∧At W d A g σ s env sc aP ρ∧P i g∧lP body ns tp K r ρ σ) ?_ (xs.length+1) ⟨0,xs,g,σ,ρ,ag,nu _,ag,l,h,p,k⟩
 rintro n s ⟨i,r,g,σ,ρ,hr,hi,rfl,l,h,p,k⟩
 induction r with
 |nil=>
  obtain rfl:i=xs.length:=hi
  refine (J.qz p h.S).pT fun r s₁ ⟨hr,bv⟩=>?_
  subst hr
  exact Hl (hR _ _ (.aS (pp new l) (h.E.iY hd) bv k))
 |cons x r=>
  obtain ⟨hx,hr⟩:=zV hr
  refine (Dh J hd (fun q9 z=>z) h p hx (tf ns) hm k).pT fun r' s₁ jF=>?_
  refine aw fun kz=>?_
  obtain ⟨v,hv,H⟩:=jF
  refine kz ?_;try clear kz
  subst hv
  refine H.pT fun q9 df acX=>acX.pT fun q9 qq jF=>?_
  refine aw fun kz=>?_
  obtain ⟨te,MZ,l₃,h₃,p₃,oG⟩:=jF
  refine kz ?_;try clear kz
  refine (hb _ h₃ oG).pT fun f Iy jF=>?_
  refine aw fun kz=>?_
  obtain ⟨fl,acf,wT,vU,nF,M0,fr,q8,yd⟩:=jF
  refine kz ?_;try clear kz
  have l':=(l.aX l₃).aX (nF.up fun q9=>.inr)
  have afz:=J.bu p₃ nF hd
  have again:lP body ns tp K r acf wT→∃m,m<(x::r).length+1∧∃i r g σ ρ,xs.drop i=r∧i+r.length=xs.length∧m=r.length+1∧Le (fun a=>own a∨bM env a) po g∧At W d A g σ Iy env sc aP ρ∧P i g∧lP body ns tp K r ρ σ:=fun q=>⟨r.length+1,je _,i+1,r,vU,wT,acf,hr,(DL ..).trans hi,ag,l',h₃.Gh M0 q8,afz,q⟩
  induction fl with
  |aS=>refine aq (show f=.next from fr) ?_;exact again yd
  |iz=>refine aq (show f=.cont from fr) ?_;exact again yd
  |a9 m=>
   refine aw fun kz=>?_
   obtain ⟨u,rfl,rr⟩:=fr
   refine kz ?_;try clear kz
   exact hR _ _ ⟨.a9 m,_,_,⟨vU.F,vU.T.iY own,vU.α⟩,pp new l',M0.iY hd,⟨u,ag,rr.bu (Le.iY own)⟩,q8.iY own Iy.toks (fun a o=>J.zU afz o) fun q9 q9 q9 e=>e,yd⟩
def aeV{xs:ao af}{tp:av}{it:yD}{b:bK}(hi:QM W d C it)(hb:yc W d C b):oV W d C (.fY xs tp it b):=fun {sc aP x A g σ s env ρ} hm h K k=>by
 apply Zq (f:=fun t x ss o q9=>o.isEmpty&&DH xs tp aP t&&mIt W.T sc aP it x&&BW W.T sc aP b ss) hm
 intro t x ss o pos h2
 refine ul h2 fun h3 h4 h5 h6=>?_
 apply jr h3
 obtain ⟨hs,V⟩:=hi h5 h tp _ k
 refine wpAny_For (V.bu fun v s₁ H=>H.bu fun iv df hz=>?_) hs
 obtain ⟨ys,bS,g',I,own,P,oT,k',l,new,S',e,J,p⟩:=hz
 refine aq e ?_
 have hd:∀a,own a→¬bM env a:=fun a o f=>h.E.jc f (new a o)
 exact QR J new hd h4 (hb h6) (fun f s' P=>P) (h.Gh (h.E.bu l hd) S') p (l.up fun q9=>.inl) k'
end
section
variable{W:Wd}{A:dD}{d:af}{C:bw}{g g':cZ}{σ:an}{s:bz}{env:cB}{sc:Sc}{aP:fH}{ρ:bJ}
def zW(hW:l9 W){o i:a8}(ho:eW W d C o)(hi:eW W d C i){o' i':aT}{pos:bG}(h1:mE W.T sc aP o o'=ak)(h2:mE W.T sc aP i i'=ak)(h:At W d A g σ s env sc aP ρ){u:aH}{v:aC}(r:c7 W g v u){K:an→Prop}(k:W7 (vE ⟨W.T,C⟩ o ρ) (vE ⟨W.T,C⟩ i ρ) K v σ):Wp W A (n6 (.Subscript o' i' pos) env u) (TP W g fun (_:jE) bS=>K bS) s:=by
 rw [arm_assign_Subscript]
 refine bV (jI (((ho h1 h).dC _ k).vp fun ov s₁ m₁ cJ bT l₁ cf bv bX=>?_))
 refine bV (jI (((hi h2 (h.aS l₁ bv)).dC _ bX).vp fun iv df m₂ kM g5 l₂ nW dU eV=>bV (mN ?_)))
 exact bV (jI ((H5 hW dU (cf.bu l₂) nW (r.bu (l₁.aX l₂)) eV).bu fun q9 qq P=>L3 (P.iX (l₁.aX l₂))))
def O2{ts:ao aT}{v:aT}{pos:bG}{K:KS}{K1:KE}(hc:R9 ts v pos.line env=dM aF)(hw:AA ts v env=dM au)(E:Wp W A (fo v env) (VP W g K1) s)(q:∀u s' m bS g',tO g g'→c7 W g' m u→bZ W g' bS s'→K1 m bS→Wp W A (assignAll u ((yn ts env).map (·.2))) (fun q9 s''=>pY W env sc aP g K .next s'') s'):Wp W A (gB (.Assign ts v pos) env) (pY W env sc aP g K) s:=
 LY (E.vp q) hc hw
def BP.fJ{K:KS}{bS:an}{t:gO jE}(l:tO g g')(h:Wp W A t (fun q9 s'=>BP W env (bM env) sc aP g' (fun ρ=>K .aS ρ bS) bS s') s):Wp W A t (fun q9 s'=>pY W env sc aP g K .next s') s:=h.bu fun q9 q9 jF=>by obtain ⟨g2,dw,l2,E,S,k⟩:=jF;exact .aS (l.zO.aX l2) E S k
def Gj{it l:be}{vs:ao aH}(hne:l≠it):∀(n i:af)(s:bz)(Q:ao aH→bz→Prop),s.heap.IsListIter it l i→s.heap.IsList l vs.toArray→i+n≤vs.length→
  (∀h',h'.IsListIter it l (i+n)→yx it s.heap h'→Q ((vs.drop i).take n) {s with heap:=h'})→Wp W A (draw (.ref it) n) Q s
 | 0,i,s,Q,hit,_,_,q=>fV (q s.heap hit (Heap.SameBut.refl ..))
 |n+1,i,s,Q,hit,hl,hle,q=>by
  have CT:i<vs.length:=iN (G6 (qI n)) hle
  refine bV (m:=tB (.ref it)) (wpAny_pyNext_list_item hit hl (x:=vs[i]) (yj .. ▸ed CT) fun h₁ Gk y8=>?_)
  have e:i+1+n=i+(n+1):=DL i n
  refine bV (jI (Gj hne n (i+1) _ _ Gk (hl.extBut y8.extBut hne) (e▸hle) fun h₂ aeW ST=>fV ?_))
  have:=q h₂ (e▸aeW) (y8.trans ST)
  rw [Z2 CT] at this
  exact this
def Id(hh:A.handled=au){t:be}{vs:ao aH}{n:af}{Q:ao aH→bz→Prop}(ht:s.heap.get? t=ac (cw "list" vs n))
  (hQ:∀h',Heap.ExtBut s.heap.objs.size s.heap h'→Q vs {s with heap:=h'}):Wp W A (Se (.ref t) vs.length au) Q s:=by
 have hL:=eF ht
 have CT:t≠s.heap.objs.size:=nv (mq ht)
 unfold Se
 refine bV (m:=L1 (.ref t)) (Aj (W:=W) (t:=aF) ht ?_)
 refine bV (m:=tz [.ref t] (mj (.ref t))) (jI (R5 hL ?_))
 refine bV (m:=tz [.ref s.heap.objs.size] (draw (.ref s.heap.objs.size) vs.length)) (jI (Gj CT vs.length 0 _ _ ⟨_,rN _ ag,ag,ag⟩ (hL.push _) (lm (nu _)) fun h₁ Gk y8=>?_))
 (refine aq aaw ?_;refine aq eG ?_;refine aq (cL (G8 _)) ?_)
 rw [nu] at Gk
 refine bV (jI (wpAny_pyNext_list_end hh Gk ((hL.push _).extBut y8.extBut CT) (yj .. ▸LJ (c9 _)) fun h₂ ahy=>?_))
 exact fV (hQ h₂ fun b o hb e=>ahy b o hb (y8.extBut b o hb (ql _ e)))
def Ie{m:aC}{vs:ao am}(h:rA m=ac vs):∃t,m=.f (Ir (t,vs)):=by
 refine aw fun kz=>?_
 obtain ⟨x,hx,h⟩:=bo h
 obtain ⟨p,hp,rfl⟩:=cK h
 refine kz ?_;try clear kz
 exact ⟨p.1,(jm hx).trans (a7 aC.f (xC hp))⟩
def G0{v:aT}(h:pB v=aF)(t:aT)(l:af):R9 [t] v l env=dM aF:=CG h (ac t) l
def WB{es:ao aT}{n:af}{p:bG}{v:aT}(h:(sh v).bE.isSome=aF):AA [.Tuple es n p] v env=dM au:=by
 cases v<;>first|rfl|exact cG h
def WC{xs:ao af}{e:a8}(he:eW W d C e):oV W d C (.j6 xs e):=fun {sc aP x A g σ s env ρ} hm h K k=>by
 apply oe (f:=fun ts v q9=>og ts fun t=>kl t fun tt q9 q9=>!pB v&& !(sh v).bE.isSome&&gi xs aP tt&&mE W.T sc aP e v) hm
 intro ts v pos h2
 refine ud (P:=fun ts=>Wp W A (gB (.Assign ts v pos) env) _ s) h2 fun t h2=>oq (P:=fun t=>Wp W A (gB (.Assign [t] v pos) env) _ s) h2 fun es n p h2=>ul h2 fun h3 h4 h5 h6=>?_
 refine O2 (G0 (d5 h3) _ _) (WB (d5 h4)) ((he h6 h).dC _ k) fun u s₁ m cJ bT l₁ cf bv bX=>?_
 refine aw fun kz=>?_
 obtain ⟨vs,hv,eV⟩:=fk bX
 obtain ⟨t,rfl⟩:=Ie hv
 have wS:=(h.aS l₁ bv).E
 obtain ⟨a,us,n',rfl,f,r⟩:=pj (x:=Ir (t,vs)) (p:=(t,vs)) bv cf ag (by induction t<;>rfl)
 refine kz ?_;try clear kz
 induction t with
 |true=>exact BP.fJ l₁ (wY (k:=n) h.a.gA bv wS (vals:=us) (l4 f) r (tf xs) h5 eV)
 |false=>
  obtain ⟨l2,l3⟩:=GY (env:=env) h5
  have q:=Bg eV
  refine BP.fJ (bS:=cJ) l₁ ?_
  show Wp W A (n6 (.Tuple es n p) env (.ref a)) _ s₁
  rw [arm_assign_Tuple]
  refine bV (mN ?_)
  unfold unpack
  rw [l3,show (yn es env).length=us.length by (refine iu l2 ?_;refine aq (sm q) ?_;rewrite [b9];refine aq r.bh ?_;rfl)]
  exact bV (jI (Id h.a.gA f fun h' hx=>vf (bv.jP (h':=h') s₁.toks fun b o e=>hx b o (nv (mq e)) e) wS (tf xs) h5 r.toM q))
def WD(hW:l9 W){o i e:a8}(ho:eW W d C o)(hi:eW W d C i)(he:eW W d C e):oV W d C (.kq o i e):=fun {sc aP x A g σ s env ρ} hm h K k=>by
 apply oe (f:=fun ts v q9=>og ts fun t=>iy t fun o' i' q9=>!pB v&&mE W.T sc aP o o'&&mE W.T sc aP i i'&&mE W.T sc aP e v) hm
 intro ts v pos h2
 refine ud (P:=fun ts=>Wp W A (gB (.Assign ts v pos) env) _ s) h2 fun t h2=>nf (P:=fun t=>Wp W A (gB (.Assign [t] v pos) env) _ s) h2 fun o' i' p h2=>ul h2 fun h3 h4 h5 h6=>?_
 refine O2 (G0 (d5 h3) _ _) ag ((he h6 h).dC _ k) fun u s₁ m cJ bT l₁ cf bv bX=>?_
 refine (zW hW ho hi h4 h5 (h.aS l₁ bv) cf bX).zP fun q9 df kM g5 l₂ dU eV=>?_
 exact .aS (l₁.aX l₂).zO (h.aS (l₁.aX l₂) dU).E dU eV
end
noncomputable def ui(ρ:bJ)(p:af×aC):bJ:=ρ.set p.1 (ac p.2)
def ye(l:ao (af×aC))(ρ:bJ):bJ:=l.foldl ui ρ
def DK(e:aT):aI:=(Ud e).getD ⟨#[]⟩
section
variable{W:Wd}{A:dD}{d:af}{C:bw}{g g':cZ}{σ:an}{s:bz}{env:cB}{sc:Sc}{aP:fH}{ρ:bJ}
def QS{K:bJ→Prop}:∀{xs:ao af}{ms:ao aC}{ρ:bJ},Ek xs ms ρ K→K (ye (xs.zip ms) ρ):=by
 intro xs
 induction xs with
 |nil=>
  intro ms
  rcases ms with _|⟨_,_⟩
  ·intro _ k
   exact k
  ·intro _ k
   exact k.elim
 |cons x xs ih=>
  intro ms
  rcases ms with _|⟨v,vs⟩
  ·intro _ k
   exact k.elim
  ·intro ρ k
   exact ih (ms:=vs) (yb k)
def WE{x:af}{v:aC}:∀{l:ao (af×aC)}{ρ:bJ},x∉l.map (·.1)→ye l (ρ.set x (ac v))=(ye l ρ).set x (ac v):=by
 intro l
 induction l with
 |nil=>
  intro _ _
  exact ag
 |cons p l ih=>
  intro ρ h
  obtain ⟨h1,h2⟩:=DS.mp (mt eH.mpr h)
  show ye l (ui (ρ.set x (ac v)) p)=(ye l (ui ρ p)).set x (ac v)
  refine iu (ih h2) ?_
  exact a7 (ye l) (List.set_comm _ _ h1)
def WF:∀{l:ao (af×aC)}{ρ:bJ},(l.map (·.1)).Nodup→ye l.reverse ρ=ye l ρ:=by
 intro l
 induction l with
 |nil=>
  intro _ _
  exact ag
 |cons p l ih=>
  intro ρ h
  obtain ⟨h1,h2⟩:=Ax.mp h
  unfold ye
  (refine aq tu ?_;refine aq yk ?_)
  show ui (ye l.reverse ρ) p=ye l (ui ρ p)
  refine aq (ih h2) ?_
  exact (WE h1).symm
def wi(W:Wd)(aP:fH)(g:cZ)(t:(af×aC)×aI×aH):Prop:=((t.1.1,t.2.1)∈aP)∧(c7 W g t.1.2 t.2.2)
section
variable{W:Wd}{aP:fH}{g:cZ}{t:(af×aC)×aI×aH}(s0:wi W aP g t)
include s0
def wi.v:(t.1.1,t.2.1)∈aP:=s0.1
def wi.r:c7 W g t.1.2 t.2.2:=s0.2
end
def WG:∀{l:ao ((af×aC)×aI×aH)}{ρ:bJ}{g:cZ}{s:bz},bZ W g σ s→eN W g env sc aP ρ→(∀t∈l,wi W aP g t)→
  Wp W A (uJ ((l.map (·.2.1)).map fun n=>Mc env n) (l.map (·.2.2))) (fun q9 s'=>BP W env (bM env) sc aP g (fun dw=>dw=ye (l.map (·.1)) ρ) σ s') s:=by
 intro l
 induction l with
 |nil=>
  intro ρ g s S E h
  exact RX ⟨g,ρ,.bc _,E,S,ag⟩
 |cons t l ih=>
  intro ρ g s S E h
  have h0:=h t (fF ..)
  show Wp W A (uJ ((fun v=>Mc env t.2.1 v)::(l.map (·.2.1)).map fun n=>Mc env n) (t.2.2::l.map (·.2.2))) _ s
  rw [uJ]
  refine bV (jI (wpAny_bindName (ve S E h0.v h0.r fun bT s₁ l₁ wS bv=>?_)))
  exact (ih bv wS fun t ht=>⟨(h t (jf _ ht)).v,(h t (jf _ ht)).r.bu l₁⟩).bu fun q9 df B=>B.iX (l₁.up fun q9 z=>z.jc)
def Gl:ao af→ao aT→ao aC→ao aH→ao ((af×aC)×aI×aH)
 |x::xs,e::es,m::ms,u::us=>((x,m),DK e,u)::Gl xs es ms us
 |_,_,_,_=>[]
def aeX:∀{xs:ao af}{es:ao aT}{ms:ao aC}{us:ao aH},gi xs aP es=ak→dI W g ms us→xs.length=ms.length→
  (∀t∈Gl xs es ms us,wi W aP g t)∧(Gl xs es ms us).map (·.1)=xs.zip ms∧(Gl xs es ms us).map (·.2.1)=es.map DK∧(Gl xs es ms us).map (·.2.2)=us:=by
 intro xs
 induction xs with
 |nil=>
  intro es ms
  rcases ms with _|⟨_,_⟩
  ·intro us h r _
   (refine aq (o4.mp h) ?_;refine aq (show us=[] from r) ?_);exact ⟨(fun t z=>bW z hU),ag,ag,ag⟩
  ·intro _ _ _ l
   exact tj l
 |cons x xs ih=>
  intro es ms
  rcases ms with _|⟨m,ms⟩
  ·intro _ _ _ l
   exact tj l
  ·intro us h r l
   refine aw fun kz=>?_
   obtain ⟨u,us,rfl,r1,r2⟩:=r
   refine kz ?_;try clear kz
   refine du (P:=fun es=>(∀t∈Gl (x::xs) es (m::ms) (u::us),wi W aP g t)∧(Gl (x::xs) es (m::ms) (u::us)).map (·.1)=(x::xs).zip (m::ms)∧(Gl (x::xs) es (m::ms) (u::us)).map (·.2.1)=es.map DK∧(Gl (x::xs) es (m::ms) (u::us)).map (·.2.2)=u::us) h fun t es h=>?_
   refine nL (P:=fun t=>(∀z∈Gl (x::xs) (t::es) (m::ms) (u::us),wi W aP g z)∧(Gl (x::xs) (t::es) (m::ms) (u::us)).map (·.1)=(x::xs).zip (m::ms)∧(Gl (x::xs) (t::es) (m::ms) (u::us)).map (·.2.1)=(t::es).map DK∧(Gl (x::xs) (t::es) (m::ms) (u::us)).map (·.2.2)=u::us) h fun id pos h=>gu h fun h1 h2=>?_
   refine aw fun kz=>?_
   obtain ⟨i1,i2,i3,i4⟩:=ih h2 r2 (pG l)
   refine kz ?_;try clear kz
   exact ⟨oZ.mpr ⟨⟨vi.mp h1,r1⟩,i1⟩,a7 (_:: ·) i2,a7 (_:: ·) i3,a7 (_:: ·) i4⟩
def EV{β γ:Type}{f:β→aM γ}{g:β→γ}:∀{l:ao β},(∀x∈l,∀y,f x=ac y→y=g x)→(l.filterMap f).length=l.length→l.filterMap f=l.map g:=by
 intro l
 induction l with
 |nil=>
  intro _ _
  exact ag
 |cons x l ih=>
  intro h e
  cases q:f x with
  |some y=>
   rw [Rz q] at e⊢
   (refine aq (ih (fun y hy=>h y (jf _ hy)) (pG e)) ?_;refine aq (h x (fF ..) y q) ?_);rfl
  |none=>
   rw [List.filterMap_cons_none q] at e
   exact bW (Aq f l) (e▸Ro _)
end
section
variable{W:Wd}{A:dD}{d:af}{C:bw}{g g':cZ}{σ:an}{s:bz}{env:cB}{sc:Sc}{aP:fH}{ρ:bJ}
def WH:∀{xs:ao af}{es:ao aT},gi xs aP es=ak→∀e∈es,∃id pos,e=.Name id pos:=by
 intro xs
 induction xs with
 |nil=>
  intro es h
  refine aq (o4.mp h) ?_;exact fun e z=>bW z hU
 |cons x xs ih=>
  intro es h
  exact du (P:=fun es=>∀e∈es,∃id pos,e=.Name id pos) h fun t es h=>nL (P:=fun t=>∀e∈t::es,∃id pos,e=.Name id pos) h fun id pos h=>oZ.mpr ⟨⟨id,pos,ag⟩,ih (gS h).2⟩
def EW{xs:ao af}{ts vs:ao aT}{k k':af}{p p':bG}(h:gi xs aP ts=ak)(hc:(!(vs.all (R6 8))||vs.all (R8 8))=ak):
  AA [.Tuple ts k p] (.Tuple vs k' p') env=dM au∨AA [.Tuple ts k p] (.Tuple vs k' p') env=dM (ac (ts.map DK)):=by
 unfold AA
 dsimp only
 split
 ·exact .inl ag
 split
 ·exact .inl ag
 split
 ·exact .inl ag
 split
 ·exact .inl ag
 rename_i h3 h4
 rw [wm.mpr h4,Am] at hc
 refine aq (d5 hc) ?_
 refine .inr ?_
 have h5:=(DS.mp (mt qS.mpr h3)).1
 rw [Rx,Decidable.not_not] at h5
 have:=EV (g:=DK) (fun x hx y hy=>?_) h5
 ·show (dM (ac _):gO (aM (ao aI)))=_
  (refine aq this ?_;rfl)
 ·refine aw fun kz=>?_
  obtain ⟨id,pos,rfl⟩:=WH h x hx
  refine kz ?_;try clear kz
  exact (cp (d4 hy).2).symm
def O3{xs:c4}(he:zS W d C xs){vs:ao aT}{n:af}{p:bG}(hm:xG W.T sc aP xs vs=ak)(h:At W d A g σ s env sc aP ρ){K:ao aC→an→Prop}{N:af}(hN:N≤100000)(k:Ob ⟨W.T,C⟩ xs ρ σ fun ms σ=>oi (wI ms.length N) fun q9=>K ms σ){Q:aH→bz→Prop}
  (q:∀a us ms cJ bT s₁,tO g bT→dI W bT ms us→bZ W bT cJ s₁→s₁.heap.IsTuple a us.toArray→K ms cJ→Q (.ref a) s₁):Wp W A (fo (.Tuple vs n p) env) Q s:=
 RY ((he hm h _ _ k).ms fun us s₁ ms cJ bT l₁ cf bv bX=>by
  obtain ⟨hn,eV⟩:=xH bX
  exact ⟨uY (cf.bh.symm▸a5 hn hN),q _ us ms cJ bT _ l₁ cf (bv.dh _) (l4 (rN _ ag)) eV⟩)
def Lk{α β:Type}{f:α→β}{l:ao α}{m:ao β}(h:l.map f=m):l.reverse.map f=m.reverse:=List.map_reverse.trans (a7 List.reverse h)
def QT{xs:ao af}{es:c4}(he:zS W d C es):oV W d C (.dS xs es):=fun {sc aP x A g σ s env ρ} hm h K k=>by
 apply oe (f:=fun ts v q9=>og ts fun t=>kl t fun tt q9 q9=>kl v fun vs q9 q9=>gi xs aP tt&&dc xs.Nodup&&(!(vs.all (R6 8))||vs.all (R8 8))&&xG W.T sc aP es vs) hm
 intro ts v pos h2
 refine ud (P:=fun ts=>Wp W A (gB (.Assign ts v pos) env) _ s) h2 fun t h2=>oq (P:=fun t=>Wp W A (gB (.Assign [t] v pos) env) _ s) h2 fun tt n p h2=>oq (P:=fun v=>Wp W A (gB (.Assign _ v pos) env) _ s) h2 fun vs n' p' h2=>ul h2 fun h3 h4 h5 h6=>?_
 rcases EW (env:=env) (k:=n) (k':=n') (p:=p) (p':=p') h3 h5 with hw|hw
 ·refine LY (O3 he h6 h (N:=1000) (by decide) k fun a us ms cJ bT s₁ l₁ cf bv ht bX=>?_) ag hw
  obtain ⟨l2,l3⟩:=GY (env:=env) h3
  refine BP.fJ (bS:=cJ) l₁ (RZ (x1:=n) h.a.gA ht (by (refine iu l2 ?_;refine aq (sm bX) ?_;refine aq jy ?_;refine aq cf.bh ?_;rfl)) l3 fun h' hx=>?_)
  exact vf (bv.jP (h':=h') s₁.toks fun b o e=>hx b o (nv (mq e)) e) (h.aS l₁ bv).E (tf xs) h3 cf bX
 ·refine aq (show gB (.Assign [.Tuple tt n p] (.Tuple vs n' p') pos) env=_ from exec_Assign_arm ..) ?_
  refine bV (mN (bV (m:=R9 _ _ _ _) (fV (bV (m:=fo _ _) (O3 he h6 h (N:=1000) (by decide) k fun a us ms cJ bT s₁ l₁ cf bv ht bX=>?_)))))
  refine aq hw ?_
  refine bV (fV ?_)
  show Wp W A (do
   rule "assign.swapped-stores"
   let items ← Se (.ref a) (tt.map DK).length au
   uJ ((tt.map DK).reverse.map fun n=>Mc env n) items.reverse
   dM Flow.next:gO Flow) _ s₁
  have hl:=sm bX
  refine aw fun kz=>?_
  obtain ⟨i1,i2,i3,i4⟩:=aeX (W:=W) (g:=bT) h3 cf hl
  refine kz ?_;try clear kz
  have hlen:(tt.map DK).length=us.toArray.size:=by (refine iu i3 ?_;refine aq jy ?_;rw [b9]);exact (b9 ..).symm.trans (a7 uI i4)
  refine aq hlen ?_
  refine bV (Sf (bV (wpAny_unpackItems_tuple h.a.gA ht fun h' hx=>?_)))
  have B:=WG (A:=A) (bv.jP (h':=h') s₁.toks fun b o e=>hx b o (nv (mq e)) e) (h.aS l₁ bv).E (l:=(Gl xs tt ms us).reverse) fun t ht=>i1 t (List.mem_reverse.mp ht)
  rw [Lk i2,Lk i3,Lk i4,WF (by refine aq (aaq (lm hl)) ?_;exact eX h4)] at B
  refine bV (Wp.bu B fun q9 df hz=>?_)
  obtain ⟨g5,dw,l₂,DJ,dU,e⟩:=hz
  refine fV (.aS (l₁.zO.aX l₂) DJ dU ?_)
  refine aq e ?_
  exact QS bX
def WI{e1 e2 a b:aT}{i1 i2:aT}{n n':af}{p p' p1 p2:bG}:AA [.Tuple [.Subscript e1 i1 p1,.Subscript e2 i2 p2] n p] (.Tuple [a,b] n' p') env=dM au:=by
 unfold AA
 dsimp only
 split
 ·rfl
 split
 ·rfl
 rfl
def QU(hW:l9 W){o i acY acZ a b:a8}(ho:eW W d C o)(hi:eW W d C i)(ahz:eW W d C acY)(ahA:eW W d C acZ)(ha:eW W d C a)(hb:eW W d C b):oV W d C (.sn o i acY acZ a b):=fun {sc aP x A g σ s env ρ} hm h K k=>by
 apply oe (f:=fun ts v q9=>og ts fun t=>kl t fun tt q9 q9=>fS tt fun t1 tt=>og tt fun t2=>iy t1 fun o' i' q9=>iy t2 fun p' j' q9=>kl v fun vs q9 q9=>fS vs fun a' vs=>og vs fun b'=>!kU a'&& !kU b'&&(mE W.T sc aP o o'&&mE W.T sc aP i i'&&mE W.T sc aP acY p'&&mE W.T sc aP acZ j'&&mE W.T sc aP a a'&&mE W.T sc aP b b')) hm
 intro ts v pos h2
 refine ud (P:=fun ts=>Wp W A (gB (.Assign ts v pos) env) _ s) h2 fun t h2=>oq (P:=fun t=>Wp W A (gB (.Assign [t] v pos) env) _ s) h2 fun tt n p h2=>du (P:=fun tt=>Wp W A (gB (.Assign [.Tuple tt n p] v pos) env) _ s) h2 fun t1 tt h2=>ud (P:=fun tt=>Wp W A (gB (.Assign [.Tuple (t1::tt) n p] v pos) env) _ s) h2 fun t2 h2=>nf (P:=fun t1=>Wp W A (gB (.Assign [.Tuple [t1,t2] n p] v pos) env) _ s) h2 fun o' i' p1 h2=>nf (P:=fun t2=>Wp W A (gB (.Assign [.Tuple [_,t2] n p] v pos) env) _ s) h2 fun ahB ahC p2 h2=>
  oq (P:=fun v=>Wp W A (gB (.Assign _ v pos) env) _ s) h2 fun vs n' p' h2=>du (P:=fun vs=>Wp W A (gB (.Assign _ (.Tuple vs n' p') pos) env) _ s) h2 fun a' vs h2=>ud (P:=fun vs=>Wp W A (gB (.Assign _ (.Tuple (a'::vs) n' p') pos) env) _ s) h2 fun b' h2=>iG h2 fun sa sb h2=>aft h2 fun h1 h2 h3 h4 h5 h6=>?_
 refine LY (RY (kA (d5 sa) (((ha h5 h).dC _ k).vp fun u s₁ m₁ cJ bT l₁ cf bv bX=>kA (d5 sb) (((hb h6 (h.aS l₁ bv)).dC _ bX).vp fun w df m₂ kM g5 l₂ nW dU eV=>Mn ⟨uY (show 2≤100000 by decide),?_⟩)))) ag WI
 refine RZ (x1:=n) (items:=[u,w].toArray) h.a.gA ⟨_,rN _ ag,ag,0,ag⟩ ag ag fun h' hx=>?_
 have pW:bZ W g5 kM {df with heap:=h',toks:=df.toks}:=(dU.dh _).jP _ fun b o e=>hx b o (nv (mq e)) e
 refine aw fun kz=>?_
 obtain ⟨x,rfl,oG⟩:=xB eV
 obtain ⟨y,rfl,yd⟩:=xB oG
 refine kz ?_;try clear kz
 show Wp W A (uJ [fun v=>n6 (.Subscript o' i' p1) env v,fun v=>n6 (.Subscript ahB ahC p2) env v] [u,w]) _ _
 rw [uJ]
 have l₃:=l₁.aX l₂
 refine bV (jI ((zW hW ho hi h1 h2 (h.aS l₃ pW) (cf.bu l₂) yd).zP fun q9 Iy wT vU nF q8 ac0=>?_))
 rw [uJ]
 have QV:=l₃.aX nF
 refine bV (jI ((zW hW ahz ahA h3 h4 (h.aS QV q8) (nW.bu nF) ac0).zP fun q9 M1 ahD ai8 afA Xg ai9=>?_))
 exact RX (.aS (QV.aX afA).zO (h.aS (QV.aX afA) Xg).E Xg ai9)
end
noncomputable def qF(ifs:ao aT)(env:cB):gO av:=forIn ifs ak fun c r=>if r=ak then do let ok ← Hq c env (fo c env);dM (Ee ok) else dM (Ee r)
noncomputable def nN(e elt:aT)(gens:ao lL)(k:af)(acc:aH)(env:cB):gO jE:=gens[k+1]?.elim (do let _ ← gH (.builtin "list.append") [acc,← fo elt env]) fun g'=>do
 let x ← fo g'.iter env
 uN g'.iter.pos
 let x ← Ay g'.iter env x
 let it ← tz [x] (mj x)
 let _ ← runOwn (.compStart e (k+1) it acc env) env
 dM ()
def Gm(g:lL)(it:aH)(env:cB)(M2 again:gO Fin):gO Fin:=do
 uN g.iter.pos
 match ← tB it with
 |none=>dM (.done .next)
 |some v=>
  Az g.target it v
  n6 g.target env v
  let ok ← qF g.ifs env
  if ok then M2 else again
section
variable{W:Wd}{A:dD}{R:yt→bz→Prop}{s:bz}{elt:aT}{gens:ao lL}{scope:kE}{pos:bG}{k:af}{it acc:aH}{env:cB}{g:lL}
def QW(hg:gens[k]? =ac g)(hall:∀(j:af)(g':lL),gens[j]? =ac g'→g'.is_async=0):compTurn (.ListComp elt gens scope pos) k it acc env=Gm g it env (do
   nN (.ListComp elt gens scope pos) elt gens k acc env
   again (.compLoop (.ListComp elt gens scope pos) k it acc env)) (again (.compLoop (.ListComp elt gens scope pos) k it acc env)):=by
 have ha:=hall _ _ hg
 refine aw fun kz=>?_
 obtain ⟨t,iter,ifs,a⟩:=g
 refine kz ?_;try clear kz
 subst ha
 unfold compTurn Gm nN
 dsimp only
 refine aq hg ?_
 cases hn:gens[k+1]? with
 |none=>rfl
 |some g'=>
  have ha:=hall _ _ hn
  refine aw fun kz=>?_
  obtain ⟨t',ajs,ajv,a'⟩:=g'
  refine kz ?_;try clear kz
  subst ha
  simp only [Option.elim_some,LawfulMonad.bind_assoc,LawfulMonad.pure_bind]
  rfl
def NV{I:bz→Prop}{M2:gO jE}{c:PySem.Code}
  (h:Wp W A (tB it) (fun r s₁=>r.elim (R (.ok .next) s₁) fun v=>Wp W A (Az g.target it v) (fun q9 s₁=>Wp W A (n6 g.target env v) (fun q9 df=>
   Wp W A (qF g.ifs env) (fun ok qq=>cE ok (Wp W A M2 (fun q9 M1=>I M1) qq) (I qq)) df) s₁) s₁) s):
  Wp W A (Gm g it env (do M2;again c) (again c)) (fun f s'=>(f=.again c∧I s')∨(f=.done .next∧R (.ok .next) s')) s:=by
 unfold Gm
 refine bV (mN (bV (h.bu fun r s₁ h₁=>?_)))
 induction r with
 |none=>exact fV (.inr ⟨ag,h₁⟩)
 |some v=>
  refine bV (Wp.bu h₁ fun q9 s₁ h₁=>bV (Wp.bu h₁ fun q9 df h₂=>bV (Wp.bu h₂ fun ok qq h₃=>?_)))
  induction ok with
  |false=>exact fV (.inl ⟨ag,h₃⟩)
  |true=>exact bV (Wp.bu h₃ fun q9 M1 aja=>fV (.inl ⟨ag,aja⟩))
def QX(hg:gens[k]? =ac g)(hall:∀(j:af)(g':lL),gens[j]? =ac g'→g'.is_async=0)(I:af→bz→Prop)
  (turn:∀n s,I n s→Wp W A (tB it) (fun r s₁=>r.elim (R (.ok .next) s₁) fun v=>Wp W A (Az g.target it v) (fun q9 s₁=>Wp W A (n6 g.target env v) (fun q9 df=>
   Wp W A (qF g.ifs env) (fun ok qq=>cE ok (Wp W A (nN (.ListComp elt gens scope pos) elt gens k acc env) (fun q9 M1=>∃m,m<n∧I m M1) qq) (∃m,m<n∧I m qq)) df) s₁) s₁) s)
  (n:af) (h:I n s):pF (ke W.cY W.w) A (.compLoop (.ListComp elt gens scope pos) k it acc env) R s:=by
 refine codeAny_loop ag I (fun n s hI=>?_) n h
 show rm _ A ((compTurn (.ListComp elt gens scope pos) k it acc env).onRaise (fun x=>do noteFrame x env;theTreesLotGoes x)) _ _ s
 refine aq (QW hg hall) ?_
 refine wpAny_noted ((NV (I:=fun s=>∃m,m<n∧I m s) (turn n s hI)).pT fun f s' x=>?_)
 rcases x with ⟨rfl,m,a,b⟩|⟨rfl,x⟩
 ·exact ⟨ag,m,a,b⟩
 ·exact x
def Di(hg:gens[k]? =ac g)(ha:g.is_async=0)
  (h0:pF (ke W.cY W.w) A (.compLoop (.ListComp elt gens scope pos) k it acc env) R s)
  (h:Wp W A (mj it) (fun Ll s'=>pF (ke W.cY W.w) A (.compLoop (.ListComp elt gens scope pos) k Ll acc env) R s') s):
  pF (ke W.cY W.w) A (.compStart (.ListComp elt gens scope pos) k it acc env) R s:=by
 refine codeAny_of_tree ?_
 show rm _ _ ((compStart (.ListComp elt gens scope pos) k it acc env).onRaise (fun x=>do noteFrame x env;uN theWindowsPlace)) _ _ s
 refine wpAny_notedAt ?_
 refine aw fun kz=>?_
 obtain ⟨t,Ll,ifs,a⟩:=g
 refine kz ?_;try clear kz
 subst ha
 unfold compStart
 refine aq (show (clausesOf (.ListComp elt gens scope pos))[k]? =ac ⟨t,Ll,ifs,0⟩ from hg) ?_
 show rm _ _ (ask>>=_) _ _ s
 refine bV (wpAny_askSetting (wpAny_ite ?_))
 split
 ·first
   |exact bV (fV (fV (And.intro ag h0)))
   |exact wpAny_pure (And.intro rfl h0)
 ·refine bV (Sf ?_)
  show rm _ _ (uN Ll.pos>>=_) _ _ s
  exact bV (mN (bV (h.pT fun Ll s' h'=>fV (And.intro ag h'))))
end
def Gn(W:Wd)(d:af)(C:bw)(xs:c4):Prop:=∀{sc:Sc}{aP:fH}{es:ao aT}{A:dD}{g:cZ}{σ:an}{s:bz}{env:cB}{ρ:bJ},xG W.T sc aP xs es=ak→At W d A g σ s env sc aP ρ→∀K:av→an→Prop,px ⟨W.T,C⟩ xs ρ σ K→Wp W A (qF es env) (TP W g K) s
inductive CP(W:Wd)(env:cB)(sc:Sc)(aP:fH)(D:be)(g:cZ)(ρ:bJ)(lim:af→Prop)(K:KL)(s':bz):Prop
 |mk (acc:ao am) (bS:an) (g':cZ) (us:ao aH) (n:af) (le:Le (fun a=>a=env.locals∨a=D) g g') (E:eN W g' env sc aP ρ) (S:bZ W g' bS s') (hT:g'.T D=ac (cw "list" us n)) (r:cI W g'.F acc us) (hl:lim acc.length) (k:K acc bS)
def M3(W:Wd)(A:dD)(d:af)(env:cB)(sc:Sc)(aP:fH)(D:be)(own:ao af)(el:av)(f:bJ→an→ao am→KL→Prop)(t:gO jE):Prop:=∀{g:cZ}{σ:an}{s:bz}{ρ:bJ}{acc:ao am}{us:ao aH}{n:af}(K:KL),
 At W d A g σ s env sc aP ρ→g.T D=ac (cw "list" us n)→cI W g.F acc us→(∀x∈own,ρ[x]?.join=au)→(el=ak→acc.length≤2000000)→f ρ σ acc K→Wp W A t (fun q9=>CP W env sc aP D g ρ (fun n=>el=ak→n≤acc.length+1) K) s
section
variable{W:Wd}{A:dD}{d:af}{C:bw}{g g':cZ}{σ:an}{s:bz}{env:cB}{sc:Sc}{aP:fH}{ρ:bJ}{D:be}
def QY{es:ao aT}{Q:av→bz→Prop}(q:Q aF s):Wp W A (forIn es aF fun c r=>if r=ak then do let ok ← Hq c env (fo c env);dM (Ee ok) else dM (Ee r)) Q s:=by
 induction es with
 |nil=>refine aq LR ?_;exact fV q
 |cons e es ih=>rw [LQ];exact bV (fV ih)
def ahE:Gn W d C .ab:=fun {sc aP es A g σ s env ρ} hm h K k=>by
 refine jr (P:=fun es=>Wp W A (qF es env) _ s) hm ?_
 unfold qF
 refine aq LR ?_
 exact fV ⟨_,_,.bc _,h.S,k⟩
def Ui{e:a8}{r:c4}(he:eW W d C e)(hr:Gn W d C r):Gn W d C (.O e r):=fun {sc aP es A g σ s env ρ} hm h K k=>by
 refine du (P:=fun es=>Wp W A (qF es env) _ s) hm fun x es hm=>iG hm fun q9 h1 h2=>?_
 unfold qF
 rw [LQ]
 refine bV (bV (((he h1 h).qe (fun t σ=>tI t (px ⟨W.T,C⟩ r ρ σ K) (K aF σ)) (fun q9 q9 q=>q) k).zP fun c s₁ cJ bT l₁ bv bX=>fV ?_))
 induction c with
 |false=>exact QY ⟨cJ,bT,l₁,bv,bX⟩
 |true=>exact (hr h2 (h.aS l₁ bv) K bX).yX l₁
def NW(S:bZ W g σ s){vs:ao aH}{n:af}(hT:g.T D=ac (cw "list" vs n))(hz:vs.length≤2000000)(u:aH):
  Wp W A (gH (.builtin "list.append") [.ref D,u]) (fun q9 s'=>∃n',bZ W ⟨g.F,g.T.dB D (cw "list" (vs++[u]) n'),g.α⟩ σ s') s:=by
 have f:=S.iQ _ _ hT
 have hsz:vs.toArray.size≤oN:=by refine aq jy ?_;exact a5 hz (by decide)
 have up:=abh (h:=s.heap) (l:=D) f (fun x=>x.push u)
 rw [aam] at up
 exact D5 So ⟨_,f,ag⟩ aa0 (aaZ _ _) (aaz D vs.toArray n u hsz) ⟨f,_,S.Xd (tk:=s.toks) hT (abg ..) up⟩
def eN.off(E:eN W g env sc aP ρ)(hD:¬bM env D)(o:dF):eN W ⟨g.F,g.T.dB D o,g.α⟩ env sc aP ρ:=
 E.bu (fr:=fun a=>a=D) ⟨nI.bc _,lK _,fun a z=>cr.fc _ _ z⟩ fun a z f=>hD (z▸f)
def aeY{elt:a8}(he:eW W d C elt){e:aT}(hm:mE W.T sc aP elt e=ak)(hD:¬bM env D){own:ao af}:M3 W A d env sc aP D own ak (Pc (vE ⟨W.T,C⟩ elt)) (do let _ ← gH (.builtin "list.append") [.ref D,← fo e env]):=fun {g σ s ρ acc us n} K h hT r _ hz k=>by
 refine bV (((he hm h).dC _ k).vp fun u s₁ m cJ bT l₁ cf bv bX=>?_)
 refine aw fun kz=>?_
 obtain ⟨x,rfl,eV⟩:=xB bX
 refine kz ?_;try clear kz
 refine bV ((NW bv ((l₁.T D id).trans hT) (r.bh.symm▸hz ag) u).bu fun _ df ⟨n',dU⟩=>fV ?_)
 exact ⟨acc++[x],cJ,⟨bT.F,bT.T.dB D (cw "list" (us++[u]) n'),bT.α⟩,us++[u],n',l₁.zO.aX ⟨nI.bc _,lK _,fun a q=>cr.fc _ _ fun z=>q (.inr z)⟩,(h.aS l₁ bv).E.off hD _,dU,cr.d9 _ _ _,(r.bu l₁.F).T8 (.qb cf),fun q9=>lm dg,eV⟩
def O4{K K':bJ→Prop}:∀{ρ:bJ}{x:af}{v:aC},AO ρ x v K→(K (ρ.set x (ac v))→K' (ρ.set x (ac v)))→AO ρ x v K'
 |_::_,0,_,k,h=>h k
 |a::r,x+1,v,k,h=>O4 (K:=fun r=>K (a::r)) (K':=fun r=>K' (a::r)) (ρ:=r) (x:=x) k h
def JG{K K':bJ→Prop}:∀{xs:ao af}{vs:ao am}{ρ:bJ},uP xs vs ρ K→(∀dw,(∀y,y∉xs→dw[y]? =ρ[y]?)→K dw→K' dw)→uP xs vs ρ K':=by
 intro xs
 induction xs with
 |nil=>
  intro vs
  rcases vs with _|⟨_,_⟩
  ·intro ρ k h
   exact h ρ (fun q9 q9=>ag) k
  ·intro _ k _
   exact k.elim
 |cons x xs ih=>
  intro vs
  rcases vs with _|⟨v,vs⟩
  ·intro _ k _
   exact k.elim
  ·intro ρ k h
   exact O4 k fun q=>ih q fun dw e=>h dw fun y hy=>(e y fun z=>hy (jf _ z)).trans (sK (show x≠y from fun z=>hy (z▸fF ..)))
def Zu{K K':bJ→Prop}{xs:ao af}{x:am}(h:∀dw,(∀y,y∉xs→dw[y]? =ρ[y]?)→K dw→K' dw):∀{tp:av},lE ρ xs tp x K→lE ρ xs tp x K'
 |true,k=>by
  obtain ⟨ys,rfl,k⟩:=Wx k
  exact JG k h
 |false,k=>JG (vs:=[x]) k h
def eN.fA{dw:bJ}(E:eN W g env sc aP dw)(h:∀(x:af)(v:aC),ρ[x]?.join=ac v→dw[x]?.join=ac v):eN W g env sc aP ρ:=
 {E with pV:=fun q hq=>(E.pV q hq).imp fun u a=>⟨a.1,fun v e=>a.2 v (h _ _ e)⟩}
inductive LI(W:Wd)(A:dD)(d:af)(C:bw)(env:cB)(sc:Sc)(aP:fH)(ρ:bJ)(D:be)(own:be→Prop)(P:af→cZ→Prop)(po:cZ)(xs:ao am)(el:av)(k:ao am→an→ao am→Prop)(m:af)(s:bz):Prop
 |mk (i:af) (r:ao am) (g:cZ) (σ:an) (acc:ao am) (us:ao aH) (n:af) (hr:xs.drop i=r) (hi:i+r.length=xs.length) (hm:m=r.length+1) (l:Le (fun a=>own a∨a=env.locals∨a=D) po g) (h:At W d A g σ s env sc aP ρ) (p:P i g) (hT:g.T D=ac (cw "list" us n)) (hus:cI W g.F acc us) (ha:el=ak→acc.length≤1000000+i) (k:k r σ acc)
def O5{I:be}{own:be→Prop}{P:af→cZ→Prop}{tp:av}{xs:ao am}(J:It W A I tp xs own P)(oT:xs.length≤1000000){po:cZ}(new:∀a,own a→po.T a=au)(hd:∀a,own a→¬bM env a)(hDo:¬own D)(hD:¬bM env D)
  {ns:ao af} {elt:aT} {gens:ao lL} {scope:kE} {pos:bG} {j:af} {c:lL} (hg:gens[j]? =ac c) (hall:∀(j:af)(g':lL),gens[j]? =ac g'→g'.is_async=0) (hf:qE env (fun a=>a=env.locals) aP ns) (hm:DH ns tp aP c.target=ak)
  {ifs:c4} (hi:Gn W d C ifs) (hmi:xG W.T sc aP ifs c.ifs=ak) {f:bJ→an→ao am→KL→Prop} {os:ao af} {el:av} (ku:M3 W A d env sc aP D os el f (nN (.ListComp elt gens scope pos) elt gens j (.ref D) env)) (hns:∀x∈ns,ρ[x]?.join=au) (hos:∀x∈os,x∉ns∧ρ[x]?.join=au) {K:KL}
  {R:yt→bz→Prop} (hR:∀s',CP W env sc aP D po ρ (fun q9=>kD) K s'→R (.ok .next) s') {g:cZ} {σ:an} {s:bz} {acc:ao am} {us:ao aH} {n:af} (h:At W d A g σ s env sc aP ρ) (p:P 0 g) (l:Le (fun a=>own a∨a=env.locals∨a=D) po g)
  (hT:g.T D=ac (cw "list" us n)) (r:cI W g.F acc us) (ha:acc.length≤1000000) (k:rB (E4 (px ⟨W.T,C⟩ ifs) f) ρ ns tp xs σ acc K):pF (ke W.cY W.w) A (.compLoop (.ListComp elt gens scope pos) j (.ref I) (.ref D) env) R s:=by
 refine QX hg hall (LI W A d C env sc aP ρ D own P po xs el fun r σ acc=>rB (E4 (px ⟨W.T,C⟩ ifs) f) ρ ns tp r σ acc K) ?_ (xs.length+1) ⟨0,xs,g,σ,acc,us,n,ag,nu _,ag,l,h,p,hT,r,fun q9=>ha,k⟩
 rintro m s ⟨i,r,g,σ,acc,us,n,hr,hi',rfl,l,h,p,hT,hus,ha,k⟩
 induction r with
 |nil=>
  obtain rfl:i=xs.length:=hi'
  refine (J.qz p h.S).bu fun r s₁ ⟨hr,bv⟩=>?_
  subst hr
  exact hR _ ⟨acc,σ,_,us,n,pp new l,h.E.iY hd,bv,(rK hDo).trans hT,hus,di,k⟩
 |cons x r=>
  obtain ⟨hx,hr⟩:=zV hr
  have lt:=(fM.mp hx).1
  refine (Dh J hd (fun a z=>.inl z) h p hx hf hm (Zu (K':=fun dw=>(∀y,y∉ns→dw[y]? =ρ[y]?)∧E4 (px ⟨W.T,C⟩ ifs) f dw σ acc (abC (rB (E4 (px ⟨W.T,C⟩ ifs) f) ρ ns tp r) K)) (fun dw e q=>⟨e,q⟩) k)).bu fun r' s₁ jF=>?_
  refine aw fun kz=>?_
  obtain ⟨v,hv,H⟩:=jF
  refine kz ?_;try clear kz
  subst hv
  refine H.bu fun q9 df acX=>acX.bu fun q9 qq jF=>?_
  refine aw fun kz=>?_
  obtain ⟨te,MZ,l₃,h₃,p₃,afB,oG⟩:=jF
  refine kz ?_;try clear kz
  have l':=l.aX (l₃.up fun a z=>z.imp id .inl)
  have acg:te.T D=ac (cw "list" us n):=(l₃.T D fun z=>z.elim hDo fun z=>hD (.inl z)).trans hT
  have sub:∀(x:af)(v:aC),ρ[x]?.join=ac v→MZ[x]?.join=ac v:=fun x v e=>(a7 ZG (afB x fun z=>by rw [hns x z] at e;exact bn e)).trans e
  have again:∀{vU:cZ}{wT:an}{Iy:bz}{Lm:ao am}{ach:ao aH}{ajb:af},Le (fun a=>a=env.locals∨a=D) te vU→eN W vU env sc aP MZ→bZ W vU wT Iy→vU.T D=ac (cw "list" ach ajb)→cI W vU.F Lm ach→(el=ak→Lm.length≤acc.length+1)→rB (E4 (px ⟨W.T,C⟩ ifs) f) ρ ns tp r wT Lm K→
    ∃m,m<(x::r).length+1∧LI W A d C env sc aP ρ D own P po xs el (fun r σ acc=>rB (E4 (px ⟨W.T,C⟩ ifs) f) ρ ns tp r σ acc K) m Iy:=fun nF M0 q8 S8 ac1 ahF yd=>
   ⟨r.length+1,je _,i+1,r,_,_,_,_,_,hr,(DL ..).trans hi',ag,l'.aX (nF.up fun q9=>.inr),h.Gh (M0.fA sub) q8,J.bu p₃ nF fun a o z=>z.elim (fun z=>hd a o (.inl z)) fun z=>hDo (z▸o),S8,ac1,fun e=>a5 (ahF e) (jG (ha e)),yd⟩
  refine (hi hmi h₃ _ oG).zP fun ok Iy wT vU nF q8 yd=>?_
  induction ok with
  |false=>exact again nF.zO (h₃.aS nF q8).E q8 ((nF.T D id).trans acg) (hus.bu (l₃.F.aX nF.F)) (fun q9=>fQ _) yd
  |true=>
   refine (ku _ (h₃.aS nF q8) ((nF.T D id).trans acg) (hus.bu (l₃.F.aX nF.F)) (fun x hx=>(a7 ZG (afB x (hos x hx).1)).trans (hos x hx).2) (fun e=>a5 (ha e) (kN (a5 (jH lt) oT) _)) yd).bu fun q9 M1 jF=>?_
   refine aw fun kz=>?_
   obtain ⟨ajq,ahD,ai8,ajt,ajw,QV,ajc,Xg,ahG,ajd,ahH,ac0⟩:=jF
   refine kz ?_;try clear kz
   exact again (nF.zO.aX QV) ajc Xg ahG ajd ahH ac0
end
def QZ(env:cB)(names:Sc)(cl:ao (aI×be)):Prop:=(∀n c,cl.lookup n=ac c→env.cells.lookup n=ac c)∧(∀n,(n,tE)∈names→∃c,cl.lookup n=ac c)
section
variable{env:cB}{names:Sc}{cl:ao (aI×be)}(s0:QZ env names cl)
include s0
def QZ.fA:∀n c,cl.lookup n=ac c→env.cells.lookup n=ac c:=s0.1
def QZ.all:∀n,(n,tE)∈names→∃c,cl.lookup n=ac c:=s0.2
end
def pq(c:kE)(sc:Sc):Prop:=(c.kind=.function)∧(∀x∈c.names,x.2≠ .cell)∧(∀x∈c.names,x.2=.local→c.names.lookup x.1=ac .local)∧(∀x∈c.names,x.2=.free→sc.lookup x.1=ac .cell∧c.names.lookup x.1=ac .free∧(x.1==("__classdict__":aI))=aF)
section
variable{c:kE}{sc:Sc}(s0:pq c sc)
include s0
def pq.cx:c.kind=.function:=s0.1
def pq.Uj:∀x∈c.names,x.2≠ .cell:=s0.2.1
def pq.az:∀x∈c.names,x.2=.local→c.names.lookup x.1=ac .local:=s0.2.2.1
def pq.kT:∀x∈c.names,x.2=.free→sc.lookup x.1=ac .cell∧c.names.lookup x.1=ac .free∧(x.1==("__classdict__":aI))=aF:=s0.2.2.2
end
def vV{β:Type}{n m:aI}{c:β}{l:ao (aI×β)}{P:aM β→Prop}(h1:n=m→P (ac c))(h2:n≠m→P (l.lookup n)):P (((m,c)::l).lookup n):=by
 refine aq Hi ?_
 cases e:n==m with
 |true=>exact h1 (cz e)
 |false=>exact h2 (Ap.mp e)
def aci{k v:yo}{a:av}(h:(k !=v||a)=ak)(e:k=v):a=ak:=(qS.mp h).resolve_left (by (refine aq e ?_;rw [bne_self_eq_false]);exact mI)
def WJ{c:kE}{sc:Sc}(h:OT c sc=ak):pq c sc:=gu h fun h1 h2=>
 have n:∀x∈c.names,Ue c sc x=ak:=ow.mp h2
 ⟨cz h1,fun x hx=>iG (n x hx) fun a q9 q9=>Rx.mp a,fun x hx e=>iG (n x hx) fun q9 a q9=>cz (aci a e),fun x hx e=>iG (n x hx) fun q9 q9 a=>iG (aci a e) fun a b c=>⟨cz a,cz b,d5 c⟩⟩
def WK(env:cB){f:aI×yo→ao (aI×be)→gO (ForInStep (ao (aI×be)))}(hf:∀p acc,f p acc=if p.2== .free then (do let c ← cellOf env p.1;dM (.yield ((p.1,c)::acc))) else dM (.yield acc)):
  ∀{names:Sc}{acc:ao (aI×be)},(∀x∈names,x.2=.free→∃c,env.cells.lookup x.1=ac c)→(∀n c,acc.lookup n=ac c→env.cells.lookup n=ac c)→
   ∃cl,forIn names acc f=dM cl∧(∀n c,cl.lookup n=ac c→env.cells.lookup n=ac c)∧∀n,((n,tE)∈names∨∃c,acc.lookup n=ac c)→∃c,cl.lookup n=ac c:=by
 intro names
 induction names with
 |nil=>
  intro acc _ ha
  exact ⟨acc,LR,ha,fun n h=>h.elim (fun z=>bW z hU) id⟩
 |cons zp r ih=>
  obtain ⟨x,k⟩:=zp
  intro acc h ha
  have hr:∀y∈r,y.2=.free→∃c,env.cells.lookup y.1=ac c:=fun y hy=>h y (jf _ hy)
  rw [LQ,hf]
  by_cases hk:k=.free
  ·obtain ⟨c,hc⟩:=h (x,k) (fF ..) hk
   rw [bD (mi.mpr hk),show cellOf env x=dM c by unfold cellOf;(refine aq hc ?_;rfl)]
   refine aw fun kz=>?_
   obtain ⟨cl,i1,i2,i3⟩:=ih (acc:=(x,c)::acc) hr fun n c'=>vV (P:=fun o=>o=ac c'→_) (fun e z=>by (refine aq e ?_;refine aq hc ?_);exact z) fun q9=>ha n c'
   refine kz ?_;try clear kz
   refine ⟨cl,i1,i2,fun n z=>i3 n ?_⟩
   refine vV (P:=fun o=>_∨∃c,o=ac c) (fun q9=>.inr ⟨_,ag⟩) fun q=>z.imp (fun z=>(eH.mp z).elim (fun e=>bW (a7 Prod.fst e) q) id) id
  ·refine aq (cL fun z=>hk (mi.mp z)) ?_
   refine aw fun kz=>?_
   obtain ⟨cl,i1,i2,i3⟩:=ih hr ha
   refine kz ?_;try clear kz
   exact ⟨cl,i1,i2,fun n z=>i3 n (z.imp (fun z=>(eH.mp z).elim (fun e=>bW (a7 Prod.snd e).symm hk) id) id)⟩
def NX{c:kE}{env:cB}(h:∀x∈c.names,x.2=.free→∃a,env.cells.lookup x.1=ac a):∃cl,closureFor c env=dM cl∧QZ env c.names cl:=by
 obtain ⟨cl,i1,i2,i3⟩:=WK env (f:=fun x cs=>match x with
  |(name,kind)=>if (kind==tE)=ak then (do let c ← cellOf env name;dM (Ee ((name,c)::cs))) else dM (Ee cs)) (fun p acc=>ag) (acc:=[]) h fun n c z=>nomatch (show au=ac c from z)
 refine ⟨cl,?_,i2,fun n z=>i3 n (.inl z)⟩
 show (forIn c.names [] _>>=fun cs=>dM cs)=_
 refine aq i1 ?_;rfl
def y9{env:cB}{names:Sc}{x:aI}:∀{k:yo},names.lookup x=ac k→(names.map fun (n,k)=>if (k==tE&&env.scope.kind== .function&&env.kindOf n==ac .cell) then (n,Ec) else (n,k)).lookup x=ac (cE (k==tE&&env.scope.kind== .function&&env.kindOf x==ac .cell) .cell k):=by
 induction names with
 |nil=>exact fun h=>eU h
 |cons p r ih=>
  obtain ⟨n,k'⟩:=p
  intro k h
  have e:(if (k'==tE&&env.scope.kind== .function&&env.kindOf n==ac .cell)=ak then (n,Ec) else (n,k'))=(n,cE (k'==tE&&env.scope.kind== .function&&env.kindOf n==ac .cell) .cell k'):=by split<;>(rename_i q;simp only [q];rfl)
  refine aq Hj ?_
  show List.lookup x ((if (k'==tE&&env.scope.kind== .function&&env.kindOf n==ac .cell)=ak then (n,Ec) else (n,k'))::_)=_
  refine aq e ?_
  rw [Hi] at h⊢
  cases q:x==n with
  |true=>
   rw [q] at h
   refine aw fun kz=>?_
   obtain rfl:=cz q
   obtain rfl:=cp h
   refine kz ?_;try clear kz
   rfl
  |false=>
   rw [q] at h
   exact ih h
section
variable{W:Wd}{A:dD}{d:af}{C:bw}{g g':cZ}{σ:an}{s:bz}{env:cB}{sc:Sc}{aP:fH}{ρ:bJ}{D:be}
def vW{c:kE}{cl:ao (aI×be)}{x:aI}{k:yo}(h:c.names.lookup x=ac k)(hk:k≠ .free):(uM c cl D env).kindOf x=ac k:=by
 refine (y9 h).trans ?_
 refine aq (Ap.mpr hk) ?_;rfl
def Q0{c:kE}{cl:ao (aI×be)}{x:aI}(h:c.names.lookup x=ac .free):(uM c cl D env).kindOf x=ac .cell∨(uM c cl D env).kindOf x=ac .free:=by
 have e:=y9 (env:=env) h
 cases q:(tE==tE&&env.scope.kind== .function&&env.kindOf x==ac .cell)
 ·exact .inr (e.trans (a7 (fun b=>ac (cE b Ec .free)) q))
 ·exact .inl (e.trans (a7 (fun b=>ac (cE b Ec .free)) q))
def WM(E:eN W g env sc aP ρ){c:kE}{j5:fH}{cl:ao (aI×be)}{slots:ao af}(h1:pq c sc)(h2:j5.all (AJ c.names slots aP)=ak)(h3:F5 j5=ak)(hun:∀x∈slots,ρ[x]?.join=au)(hC:g.T D=au){o:dF}(ho:kL o fun q9=>au)(hcl:QZ env c.names cl):
  eN W ⟨g.F,g.T.dB D o,g.α⟩ (uM c cl D env) c.names j5 ρ:=by
 have neD:∀{n a},env.cells.lookup n=ac a→a≠D:=fun {n a} h z=>by
  obtain ⟨o,e⟩:=E.Jz n a h
  rw [z,hC] at e;exact bn e
 refine {
  cx:=h1.cx
  pU:=E.pU
  qg:=E.qg
  aJ:=fun id h=>vW h (fun z=>nomatch z)
  js:=fun id h=>bW ag (h1.Uj _ (ky _ h))
  az:=fun id h=>vW h (fun z=>nomatch z)
  inj:=fun n n' a h h'=>E.inj n n' a (hcl.fA _ _ h) (hcl.fA _ _ h')
  iL:=fun n a h=>neD (hcl.fA _ _ h)
  OU:=⟨o,cr.d9 _ _ _,_,ho⟩
  Jz:=fun n a h=>by obtain ⟨o',e⟩:=E.Jz n a (hcl.fA _ _ h);exact ⟨o',(cr.fc _ _ (neD (hcl.fA _ _ h))).trans e⟩
  nd1:=eX (gS h3).1
  nd2:=eX (gS h3).2
  pV:=fun p hp=>?_}
 have hv:=ow.mp h2 p hp
 unfold AJ at hv
 cases q:slots.contains p.1 with
 |true=>
  rw [q] at hv
  refine ⟨au,.az (vW (cz hv) (fun z=>nomatch z)) o _ (cr.d9 _ _ _) ho ag,fun v e=>?_⟩
  rw [hun p.1 (vi.mp q)] at e;exact bn e
 |false=>
  rw [q] at hv
  have hf:=cz (gS hv).2
  refine aw fun kz=>?_
  obtain ⟨f1,f2,f3⟩:=h1.kT _ (ky _ hf) ag
  obtain ⟨u,hh,hr⟩:=E.pV p (vi.mp (gS hv).1)
  refine kz ?_;try clear kz
  refine ⟨u,?_,hr⟩
  induction hh with
  |az hk o' m e ns h=>rw [(E.js _ f1).1] at hk;cases hk
  |js hk hn a o' hc e hd=>
   obtain ⟨b,hb⟩:=hcl.all _ (ky _ hf)
   have:=hcl.fA _ _ hb
   rw [hc] at this;obtain rfl:=cp this
   exact .js (Q0 hf) f3 a o' hb ((cr.fc _ _ (neD hc)).trans e) hd
def WN{c:kE}{cl:ao (aI×be)}{j5:fH}{slots xs:ao af}(h2:j5.all (AJ c.names slots aP)=ak)(hx:∀x∈xs,x∈slots):qE (uM c cl D env) (fun a=>a=D) j5 xs:=fun x hm nm hv a ha=>by
 have hv:=ow.mp h2 _ hv
 unfold AJ at hv
 rw [vi.mpr (hx x hm)] at hv
 have hk:=vW (cl:=cl) (D:=D) (env:=env) (cz hv) (fun z=>nomatch z)
 rcases ha with ⟨_,e⟩|⟨e|e,_⟩
 ·exact e
 ·rw [hk] at e;cases e
 ·rw [hk] at e;cases e
end
def Bh(W:Wd)(d:af)(C:bw):mT→Prop
 |.ab=>kD
 |.O _ _ it ifs r=>QM W d C it∧Gn W d C ifs∧Bh W d C r
def wU(T:vk)(sc:Sc)(aP:fH)(el:a8)(gens:mT)(elt:aT)(gs:ao lL)(c:kE)(j5:fH):Prop:=((iZ gens).Nodup)∧(pq c sc)∧(j5.all (AJ c.names (iZ gens) aP)=ak)∧(F5 j5=ak)∧(Ev T sc aP c.names j5 gens gs=ak)∧(mE T c.names j5 el elt=ak)
section
variable{T:vk}{sc:Sc}{aP:fH}{el:a8}{gens:mT}{elt:aT}{gs:ao lL}{c:kE}{j5:fH}(s0:wU T sc aP el gens elt gs c j5)
include s0
def wU.nd:(iZ gens).Nodup:=s0.1
def wU.so:pq c sc:=s0.2.1
def wU.vo:j5.all (AJ c.names (iZ gens) aP)=ak:=s0.2.2.1
def wU.nn:F5 j5=ak:=s0.2.2.2.1
def wU.ac2:Ev T sc aP c.names j5 gens gs=ak:=s0.2.2.2.2.1
def wU.me:mE T c.names j5 el elt=ak:=s0.2.2.2.2.2
end
section
variable{W:Wd}{A:dD}{d:af}{C:bw}{g g':cZ}{σ:an}{s:bz}{env:cB}{sc:Sc}{aP:fH}{ρ:bJ}{D:be}
def CP.fJ{K:KL}{n:af}(h:CP W env sc aP D g ρ (fun q9=>kD) K s):CP W env sc aP D g ρ (fun m=>aF=ak→m≤n) K s:=by
 obtain ⟨acc,bS,g',us,n,le,E,S,hT,r,_,k⟩:=h
 exact ⟨acc,bS,g',us,n,le,E,S,hT,r,(fun z=>cG z),k⟩
def Zv(hD:¬bM env D){ns own:ao af}{tp:av}{it:yD}{ifs:c4}{elt:aT}{gens:ao lL}{scope:kE}{pos:bG}{k:af}{c:lL}(hg:gens[k+1]? =ac c)(hall:∀(j:af)(g':lL),gens[j]? =ac g'→g'.is_async=0)(hit:QM W d C it)(aje:mIt W.T sc aP it c.iter=ak)
  (hf:qE env (fun a=>a=env.locals) aP ns) (hm:DH ns tp aP c.target=ak) (hi:Gn W d C ifs) (hmi:xG W.T sc aP ifs c.ifs=ak) {f:bJ→an→ao am→KL→Prop} (hnd:(ns++own).Nodup) {el:av} (ku:M3 W A d env sc aP D own el f (nN (.ListComp elt gens scope pos) elt gens (k+1) (.ref D) env)):
  M3 W A d env sc aP D (ns++own) aF (fun ρ σ acc K=>vIt ⟨W.T,C⟩ tp it ρ σ (Tj (E4 (px ⟨W.T,C⟩ ifs) f) ρ ns tp acc K)) (nN (.ListComp elt gens scope pos) elt gens k (.ref D) env):=fun {g σ s ρ acc us n} K h hT r hun _ k=>by
 unfold nN
 refine aq hg ?_
 obtain ⟨hs,V⟩:=hit aje h tp _ k
 refine bV (m:=fo c.iter env) (V.bu fun v s₁ H=>bV (mN (bV (L5 (hs v) (bV (jI (H.bu fun iv df hz=>?_)))))))
 obtain ⟨ys,bS,g',I,afC,P,oT,k',l,new,S',e,J,p⟩:=hz
 refine aq e ?_
 obtain ⟨ha,k'⟩:=xH k'
 have hd:∀a,afC a→¬bM env a:=fun a o f=>h.E.jc f (new a o)
 have hDo:¬afC D:=fun o=>by
  have:=new D o
  rw [hT] at this;exact bn this.symm
 have AV:∀{R:yt→bz→Prop},(∀s',CP W env sc aP D g ρ (fun q9=>kD) K s'→R (.ok .next) s')→pF (ke W.cY W.w) A (.compLoop (.ListComp elt gens scope pos) _ (.ref I) (.ref D) env) R df:=fun hR=>
  O5 J oT new hd hDo hD hg hall hf hm hi hmi ku (fun x hx=>hun x (rM _ hx)) (fun x hx=>⟨fun q=>(DV.mp hnd).2.2 x q x hx ag,hun x (qU _ hx)⟩) hR (h.Gh (h.E.bu l hd) S') p (l.up fun q9=>.inl) ((l.T D hDo).trans hT) (r.bu l.F) ha k'
 refine bV (wpAny_runOwn (Di hg (hall _ _ hg) (AV fun s' P=>fV P.fJ) ((J.jR (Q:=fun Ll s'=>Ll=.ref I∧s'=df) p S' ⟨ag,ag⟩).bu fun Ll s' e=>?_)))
 refine aw fun kz=>?_
 obtain ⟨rfl,rfl⟩:=e
 refine kz ?_;try clear kz
 exact AV fun s' P=>fV P.fJ
def O6(hD:¬bM env D){el:a8}{elt:aT}(Uk:eW W d C el)(hme:mE W.T sc aP el elt=ak){gens:ao lL}{scope:kE}{pos:bG}(hall:∀(j:af)(g':lL),gens[j]? =ac g'→g'.is_async=0){slots:ao af}(P7:∀xs:ao af,(∀x∈xs,x∈slots)→qE env (fun a=>a=env.locals) aP xs):
  ∀(r:mT)(k:af),Bh W d C r→Ev W.T sc aP sc aP r (gens.drop (k+1))=ak→(iZ r).Nodup→(∀x∈iZ r,x∈slots)→
   M3 W A d env sc aP D (iZ r) (aew r) (fun ρ σ acc K=>HH ⟨W.T,C⟩ r (Pc (vE ⟨W.T,C⟩ el)) ρ σ acc K) (nN (.ListComp elt gens scope pos) elt gens k (.ref D) env)
 |.ab,k,_,hm,_,_=>by
  have e:gens[k+1]? =au:=LJ (List.drop_eq_nil_iff.mp (o4.mp hm))
  unfold nN
  refine aq e ?_
  exact aeY Uk hme hD
 |.O ns tp it ifs r,k,hG,hm,hn,hs=>du (P:=fun l=>gens.drop (k+1)=l→M3 W A d env sc aP D (ns++iZ r) aF (fun ρ σ acc K=>HH ⟨W.T,C⟩ (.O ns tp it ifs r) (Pc (vE ⟨W.T,C⟩ el)) ρ σ acc K) (nN (.ListComp elt gens scope pos) elt gens k (.ref D) env)) hm (fun c gs h2 hd=>Iv h2 fun h3 h4 h5 h6 h7=>
  have hg:=zV hd
  Zv hD hg.1 hall hG.1 h4 (P7 ns fun x hx=>hs x (rM _ hx)) h5 hG.2.1 h6 hn (O6 hD Uk hme hall P7 r (k+1) hG.2.2 (hg.2▸h7) (DV.mp hn).2.1 fun x hx=>hs x (qU _ hx))) ag
def zX{sc':Sc}{j5:fH}:∀{gens:mT}{gs:ao lL}{sc:Sc}{aP:fH},Ev W.T sc aP sc' j5 gens gs=ak→∀(j:af)(g':lL),gs[j]? =ac g'→g'.is_async=0
 |.ab,gs,_,_,hm,j,g',h=>by rw [o4.mp hm] at h;exact eU h
 |.O ns tp it ifs r,gs,sc,aP,hm,j,g',h=>by
  refine du (P:=fun gs=>gs[j]? =ac g'→g'.is_async=0) hm (fun c gs h2 h=>Iv h2 fun h3 q9 q9 q9 h7=>?_) h
  induction j with
  |zero=>exact cp h▸eX h3
  |succ j=>exact zX h7 j g' h
def bZ.A2(S:bZ W g σ s){a:be}{o:dF}{h':dW}(tk:af)(hk:∀b p,s.heap.get? b=ac p→h'.get? b=ac p)(e:h'.get? a=ac o)(lo:@Eg af DR s.heap.objs.size a):bZ W ⟨g.F,g.T.dB a o,g.α⟩ σ {s with heap:=h',toks:=tk}:=by
 refine S.Qn (fun q9=>dj) tk (fun q9 z=>z.elim) (fun b p q9 e=>hk b p e) fun b p q=>?_
 by_cases hb:b=a
 ·subst hb
  rw [cr.d9] at q
  exact ⟨cp q▸e,S.DG lo,S.gm lo⟩
 ·rw [cr.fc _ _ hb] at q
  exact ⟨hk b p (S.iQ b p q),S.um q⟩
end
section
variable{W:Wd}{A:dD}{d:af}{C:bw}{g g':cZ}{σ:an}{s:bz}{env:cB}{sc:Sc}{aP:fH}{ρ:bJ}{D:be}
def oh(W:Wd)(g:cZ)(K:KL)(D B:be)(s':bz)(acc:ao am)(us:ao aH)(n:af)(oB:dF)(mB:aI→aM aH)(bS:an)(g':cZ):Prop:=(Le (fun a=>a=B∨a=D) g g')∧(bZ W g' bS s')∧(g.T D=au)∧(g.T B=au)∧(D≠B)∧(g'.T D=ac (cw "list" us n))∧(g'.T B=ac oB)∧(kL oB mB)∧(cI W g'.F acc us)∧(K acc bS)
section
variable{W:Wd}{g:cZ}{K:KL}{D B:be}{s':bz}{acc:ao am}{us:ao aH}{n:af}{oB:dF}{mB:aI→aM aH}{bS:an}{g':cZ}(s0:oh W g K D B s' acc us n oB mB bS g')
include s0
def oh.gP:Le (fun a=>a=B∨a=D) g g':=s0.1
def oh.S:bZ W g' bS s':=s0.2.1
def oh.D0:g.T D=au:=s0.2.2.1
def oh.B0:g.T B=au:=s0.2.2.2.1
def oh.ne:D≠B:=s0.2.2.2.2.1
def oh.D1:g'.T D=ac (cw "list" us n):=s0.2.2.2.2.2.1
def oh.B1:g'.T B=ac oB:=s0.2.2.2.2.2.2.1
def oh.Xh:kL oB mB:=s0.2.2.2.2.2.2.2.1
def oh.r:cI W g'.F acc us:=s0.2.2.2.2.2.2.2.2.1
def oh.k:K acc bS:=s0.2.2.2.2.2.2.2.2.2
end
def NY{c:lL}{gs:ao lL}:Sj (c::gs) env=fo c.iter env:=by cases c;rfl
def JH{el:a8}{gens:mT}{elt:aT}{gs:ao lL}{c:kE}{pos:bG}{j5:fH}(Uk:eW W d C el)(hG:Bh W d C gens)(M:wU W.T sc aP el gens elt gs c j5)(hne:(!gs.isEmpty)=ak)(h:At W d A g σ s env sc aP ρ)(hun:aby ρ (iZ gens)=ak){K:KL}(k:HH ⟨W.T,C⟩ gens (Pc (vE ⟨W.T,C⟩ el)) ρ σ [] K)
  {use:aM (aH→gO jE)} {Q:aH→bz→Prop} (p:bG) (hQ:∀(D B:be)(s':bz)(acc:ao am)(us:ao aH)(n:af)(oB:dF)(mB:aI→aM aH)(bS:an)(g':cZ),oh W g K D B s' acc us n oB mB bS g'→compPost (ke W.cY W.w) A (fun q9 q9=>dj) use Q (.ref D) B (.ok .next) s'):
  Wp W A (comprehension (.ListComp elt gs c pos) c env p (newList []) aF (Sj gs env) use) Q s:=by
 cases gs with
 |nil=>exact cG hne
 |cons c0 gs=>
 cases gens with
 |ab=>cases M.ac2
 |O ns tp it ifs r=>
 have hall:=zX M.ac2
 refine Iv M.ac2 fun h3 h4 h5 h6 h7=>?_
 refine aw fun kz=>?_
 obtain ⟨hs,V⟩:=hG.1 h4 h tp _ k
 have Ik:∀x∈ns++iZ r,ρ[x]?.join=au:=fun x hx=>G1.mp (ow.mp hun x hx)
 obtain ⟨cl,hc,ok⟩:=NX (env:=env) fun x hx e=>(h.E.js _ (M.so.kT x hx e).1).2
 refine kz ?_;try clear kz
 refine wpAny_comprehension_free (cl:=cl) (g:=c0) (gs:=gs) ag hs hc M.so.cx M.so.az ?_
 refine aq NY ?_
 refine V.bu fun v s₁ H=>H.bu fun iv df jF=>?_
 refine aw fun kz=>?_
 obtain ⟨ys,bS,bT,I,own,P,oT,k',l,new,bv,e,J,p0⟩:=jF
 refine kz ?_;try clear kz
 refine aq e ?_
 obtain ⟨_,k'⟩:=xH k'
 have hd:∀a,own a→¬bM env a:=fun a o f=>h.E.jc f (new a o)
 have wS:=h.E.bu l hd
 refine aaL (wpAny_newFunctionEnv M.so.Uj (fun q9 z=>bW z hU) (fun h₁ hns hsb=>?_) M.so.cx)
 have dU:=bv.Ix (o:={cls:=.type "list",data:=.seq ([] :ao aH).toArray}) ag
 have lo:=c9 df.heap.objs.size
 have ltB:@Hv af G9 df.heap.objs.size (df.heap.push {cls:=.type "list",data:=.seq ([] :ao aH).toArray}).objs.size:=by rw [Mf];exact je _
 refine aw fun kz=>?_
 obtain ⟨oB,hB,hoB⟩:=kL.eu hns
 refine kz ?_;try clear kz
 have oD:own df.heap.objs.size→dj:=fun z=>by
  obtain ⟨o,e⟩:=J.zU p0 z
  rw [bv.sZ lo] at e;exact bn e
 have oB':own (df.heap.push {cls:=.type "list",data:=.seq ([] :ao aH).toArray}).objs.size→dj:=fun z=>by
  obtain ⟨o,e⟩:=J.zU p0 z
  rw [bv.sZ (jH ltB)] at e;exact bn e
 have D1:bT.T df.heap.objs.size=au:=bv.sZ lo
 have B1:bT.T (df.heap.push {cls:=.type "list",data:=.seq ([] :ao aH).toArray}).objs.size=au:=bv.sZ (jH ltB)
 have hfD:¬bM env df.heap.objs.size:=fun f=>wS.jc f D1
 have DJ:=wS.off hfD {cls:=.type "list",data:=.seq ([] :ao aH).toArray}
 have ne:(df.heap.objs.size:be)≠(df.heap.push {cls:=.type "list",data:=.seq ([] :ao aH).toArray}).objs.size:=nv ltB
 have B2:=dU.sZ (c9 _)
 have pW:=dU.A2 (df.toks+([] :ao (aI×aH)).length) (fun b p q=>hsb.extBut b p (nv (mq q)) (ql _ q)) hB (c9 _)
 have Gi:=WM DJ M.so M.vo M.nn Ik B2 hoB ok
 generalize (df.heap.push {cls:=.type "list",data:=.seq ([] :ao aH).toArray}).objs.size=B at*
 generalize df.heap.objs.size=D at*
 have D0:g.T D=au:=(l.T D oD).symm.trans D1
 have B0:g.T B=au:=(l.T B oB').symm.trans B1
 have afD:∀a,bM (uM c cl B env) a→a=B∨bM env a:=fun a z=>z.imp id fun ⟨n,z⟩=>.inr ⟨n,ok.fA _ _ z⟩
 have l₃:Le (fun a=>a=B∨a=D) bT ⟨bT.F,(bT.T.dB D (cw "list" [] 0)).dB B oB,bT.α⟩:=⟨nI.bc _,lK _,fun a n=>(cr.fc _ _ fun z=>n (.inl z)).trans (cr.fc _ _ fun z=>n (.inr z))⟩
 have hd':∀a,own a→¬(a=B∨a=D):=fun a o z=>z.elim (fun z=>oB' (z▸o)) fun z=>oD (z▸o)
 have hD5:¬bM (uM c cl B env) D:=fun z=>(afD D z).elim ne hfD
 have P7:∀xs:ao af,(∀x∈xs,x∈ns++iZ r)→qE (uM c cl B env) (fun a=>a=B) j5 xs:=fun xs hx=>WN M.vo hx
 have AV:pF (ke W.cY W.w) A (.compLoop (.ListComp elt (c0::gs) c pos) 0 (.ref I) (.ref D) (uM c cl B env)) (compPost (ke W.cY W.w) A (fun q9 q9=>dj) use Q (.ref D) B) {df with heap:=h₁,toks:=df.toks+([] :ao (aI×aH)).length}:=
  O5 J oT new (fun a o z=>(afD a z).elim (fun z=>oB' (z▸o)) (hd a o)) oD hD5 ag hall (P7 ns fun x hx=>rM _ hx) h5 hG.2.1 h6 (O6 (A:=A) (pos:=pos) (scope:=c) hD5 Uk M.me hall P7 r 0 hG.2.2 h7 (DV.mp M.nd).2.1 fun x hx=>qU _ hx) (fun x hx=>Ik x (rM _ hx)) (fun x hx=>⟨fun q=>(DV.mp M.nd).2.2 x q x hx ag,Ik x (qU _ hx)⟩)
   (fun s' ⟨acc,wT,vU,us,n,nF,M0,q8,S8,ac1,_,yd⟩=>let ⟨o,eo,m,ho⟩:=M0.OU;hQ D B s' acc us n o m wT vU ⟨nF,q8,D0,B0,ne,S8,eo,ho,ac1,yd⟩)
   ⟨h.a,pW,Gi⟩ (J.bu p0 l₃ hd') ((l.up fun q9=>.inl).aX (l₃.up fun q9=>.inr)) ((cr.fc _ _ ne).trans (cr.d9 _ _ _)) (acc:=[]) (us:=[]) ag (fC _) k'
 show pF (ke W.cY W.w) A (.compStart (.ListComp elt (c0::gs) c pos) 0 (.ref I) (.ref D) (uM c cl B env)) _ _
 refine Di ag (hall 0 _ ag) AV ((J.jR (Q:=fun Ll s'=>Ll=.ref I∧s'={df with heap:=h₁,toks:=df.toks+([] :ao (aI×aH)).length}) (J.bu p0 l₃ hd') pW ⟨ag,ag⟩).bu fun Ll s' e=>?_)
 refine aw fun kz=>?_
 obtain ⟨rfl,rfl⟩:=e
 refine kz ?_;try clear kz
 exact AV
end
section
variable{W:Wd}{A:dD}{d:af}{C:bw}{g g':cZ}{σ:an}{s:bz}{env:cB}{sc:Sc}{aP:fH}{ρ:bJ}{D B:be}
variable{K:KE}{fz:av}{s':bz}{acc:ao am}{us:ao aH}{n:af}{oB:dF}{mB:aI→aM aH}{bS:an}
def JI{fz:av}{el:a8}{gens:mT}{e:aT}{P:aT→Prop}(hm:mE W.T sc aP (.dL fz el gens) e=ak)(k:∀elt gs c pos j5,wU W.T sc aP el gens elt gs c j5→(!gs.isEmpty)=ak→firstAsync gs=aF→P (.ListComp elt gs c pos)):P e:=
 Ki hm fun elt gs c pos h2=>afu h2 fun h3 h4 h5 h6 h7 h8 h9=>by
  refine k elt gs c pos _ ⟨eX h4,WJ h5,h6,h7,h8,h9⟩ h3 ?_
  have sy:=zX h8
  induction gs with
  |nil=>rfl
  |cons c0 gs=>
   have:=sy 0 _ ag
   refine aw fun kz=>?_
   obtain ⟨t,x,ts,a⟩:=c0
   refine kz ?_;try clear kz
   subst this
   rfl
def oh.dC(X:oh W g (SE K fz) D B s' acc us n oB mB bS g'){h':dW}(hs:yx B s'.heap h'):VP W g K (.ref D) {s' with heap:=h'}:=by
 have bv:=X.S.iY (fun a=>a=B) (h':=h') s'.toks (fun a z=>⟨oB,z▸X.B1⟩) fun b o n e=>(hs.2 b n).trans e
 have l₁:=pp (own:=fun a=>a=B) (fr:=fun a=>a=D) (fun a z=>z▸X.B0) X.gP
 have D1:(g'.T.iY fun a=>a=B) D=ac (cw "list" us n):=(rK (own:=fun a=>a=B) X.ne).trans X.D1
 have own:=bv.um D1
 have dU:=bv.iY (fun a=>a=D) (h':=h') s'.toks (fun a z=>⟨_,z▸D1⟩) fun b o n e=>e
 have l₂:=pp (own:=fun a=>a=D) (fr:=fun q9=>dj) (fun a z=>z▸X.D0) (l₁.up fun q9=>.inl)
 exact (xE dU s'.toks (fun q9 q9 e=>e) own.1 (sF ag) own.2 (bv.iQ _ _ D1) X.r X.k).iX l₂
def oh.aeZ(X:oh W g (SE K fz) D B s' acc us n oB mB bS g'):VP W ⟨g'.F,g'.T.iY fun a=>a=D,g'.α⟩ K (.ref D) s'∧Le (fun a=>a=B) g ⟨g'.F,g'.T.iY fun a=>a=D,g'.α⟩:=by
 have own:=X.S.um X.D1
 have dU:=X.S.iY (fun a=>a=D) (h':=s'.heap) s'.toks (fun a z=>⟨_,z▸X.D1⟩) fun b o n e=>e
 exact ⟨xE dU s'.toks (fun q9 q9 e=>e) own.1 (sF ag) own.2 (X.S.iQ _ _ X.D1) X.r X.k,pp (own:=fun a=>a=D) (fun a z=>z▸X.D0) (X.gP.up fun a z=>z.symm)⟩
def ae0(fz:av){el:a8}{gens:mT}(Uk:eW W d C el)(hG:Bh W d C gens):eW W d C (.dL fz el gens):=fun {sc aP e A g σ s env ρ} hm h=>
 JI (P:=fun e=>vQ W A g s e env _) hm fun elt gs c pos j5 M ne as=>.eu (fun K k=>by
  obtain ⟨hu,k⟩:=uX k
  (rewrite [eval_ListComp];refine aq as ?_)
  exact JH Uk hG M ne h hu k _ fun D B s' acc us n oB mB bS g' X=>⟨mB,X.Xh.eb (X.S.iQ _ _ X.B1),fun h' hs=>X.dC hs⟩) ag
def ahI{e:a8}{P:a8→Prop}(h:GZ e=ak)(k:∀fz el gens,P (.dL fz el gens)):P e:=by
 cases e<;>first|exact k _ _ _|exact cG h
def Kn{x:af}{el:a8}{gens:mT}(Uk:eW W d C el)(hG:Bh W d C gens){v:aT}(hm:mE W.T sc aP (.dL fz el gens) v=ak)(h:At W d A g σ s env sc aP ρ){id:aI}{p pos:bG}(hx:(x,id)∈aP){K:KS}(k:vE ⟨W.T,C⟩ (.dL fz el gens) ρ σ (acD K ρ x)):
  (Hn v (ac (.Name id p)) pos.line env=dM aF→Wp W A (gB (.Assign [.Name id p] v pos) env) (pY W env sc aP g K) s)→Wp W A (gB (.Assign [.Name id p] v pos) env) (pY W env sc aP g K) s:=
 JI (P:=fun v=>(Hn v (ac (.Name id p)) pos.line env=dM aF→Wp W A (gB (.Assign [.Name id p] v pos) env) (pY W env sc aP g K) s)→Wp W A (gB (.Assign [.Name id p] v pos) env) (pY W env sc aP g K) s) hm fun elt gs c ac3 j5 M ne as plain=>by
  cases hsw:(env.blockKind== .function&&env.kindOf id==ac .local&&p.line==(Expr.ListComp elt gs c ac3).pos.line&& !(c.names.any fun (n,k)=>n==id&&(k== .local||k== .cell))) with
  |false=>exact plain (a7 dM hsw)
  |true=>
  refine aq (exec_Assign_Name_used _ _ _ _ (a7 dM hsw)) ?_
  refine bV (mN (bV ?_))
  show Wp W A (do let _ ← comprehension (.ListComp elt gs c ac3) c env (firstIterPos gs ac3) (newList []) (firstAsync gs) (Sj gs env) (ac (n6 (.Name id p) env))) _ s
  refine aq as ?_
  obtain ⟨hu,k⟩:=uX k
  refine bV (Wp.bu (JH (Q:=fun q9 s'=>pY W env sc aP g K .next s') Uk hG M ne h hu k _ fun D B s' acc us n oB mB bS g' X=>?_) fun q9 s' P=>fV (fV P))
  refine aw fun kz=>?_
  obtain ⟨⟨m,kM,g5,l₂,nW,dU,eV⟩,l₁⟩:=X.aeZ
  refine kz ?_;try clear kz
  have nB:∀a,a=B→¬bM env a:=fun a z f=>h.E.jc f (z▸X.B0)
  show Wp W A (n6 (.Name id p) env (.ref D)) _ s'
  refine (xa dU (h.E.bu (l₁.aX l₂.zO) nB) (fr:=bM env) (fun a z=>z.jc) hx nW eV).bu fun q9 qq jF=>?_
  refine aw fun kz=>?_
  obtain ⟨te,MZ,l₃,Gi,pW,oG⟩:=jF
  refine kz ?_;try clear kz
  have B3:te.T B=ac oB:=(l₃.T B (nB B ag)).trans ((l₂.T B fun z=>z).trans ((rK (own:=fun a=>a=D) X.ne.symm).trans X.B1))
  refine ⟨mB,X.Xh.eb (pW.iQ _ _ B3),fun h' hs=>?_⟩
  exact .aS (pp (own:=fun a=>a=B) (fun a z=>z▸X.B0) (((l₁.aX l₂.zO).up fun q9=>.inl).aX (l₃.up fun q9=>.inr))) (Gi.iY nB) (pW.iY _ qq.toks (fun a z=>⟨oB,z▸B3⟩) fun b o n e=>(hs.2 b n).trans e) oG
def WO{x:af}{e:a8}(he:eW W d C e)(hc:∀fz el gens,e=.dL fz el gens→eW W d C el∧Bh W d C gens):oV W d C (.aW x e):=fun {sc aP z A g σ s env ρ} hm h K k=>by
 apply oe (f:=fun ts v q9=>og ts fun t=>wg t fun id q9=>aP.contains (x,id)&&(!pB v||GZ e)&&mE W.T sc aP e v) hm
 intro ts v pos h2
 refine ud (P:=fun ts=>Wp W A (gB (.Assign ts v pos) env) _ s) h2 fun t h2=>nL (P:=fun t=>Wp W A (gB (.Assign [t] v pos) env) _ s) h2 fun id p h2=>iG h2 fun h3 h4 h5=>?_
 have hx:=vi.mp h3
 have plain:Hn v (ac (.Name id p)) pos.line env=dM aF→Wp W A (gB (.Assign [.Name id p] v pos) env) (pY W env sc aP g K) s:=fun hs=>
  wpAny_Assign_Name (((he h5 h).dC _ k).vp fun u s₁ m cJ bT l₁ cf bv bX=>ve bv (h.aS l₁ bv).E hx cf fun g5 df l₂ DJ dU=>.aS (l₁.zO.aX (l₂.up fun q9 z=>z.jc)) DJ dU (yb bX)) hs
 rcases qS.mp h4 with h4|h4
 ·exact plain (CG (d5 h4) _ _)
 ·exact ahI (P:=fun e=>(∀fz el gens,e=.dL fz el gens→eW W d C el∧Bh W d C gens)→mE W.T sc aP e v=ak→vE ⟨W.T,C⟩ e ρ σ (acD K ρ x)→Wp W A (gB (.Assign [.Name id p] v pos) env) (pY W env sc aP g K) s) h4 (fun fz el gens hc h5 k=>Kn (hc _ _ _ ag).1 (hc _ _ _ ag).2 h5 h hx k plain) hc h5 k
end
def yf(W:Wd)(d:af)(C:bw)(xs:c4):Prop:=(zS W d C xs)∧(AK W d C xs)∧(Iw W d C xs)∧(DI W d C xs)∧(∀k,eW W d C k→DI W d C (.O k xs))∧(Gn W d C xs)
section
variable{W:Wd}{d:af}{C:bw}{xs:c4}(s0:yf W d C xs)
include s0
def yf.Iz:zS W d C xs:=s0.1
def yf.dX:AK W d C xs:=s0.2.1
def yf.iP:Iw W d C xs:=s0.2.2.1
def yf.kv:DI W d C xs:=s0.2.2.2.1
def yf.kv1:∀k,eW W d C k→DI W d C (.O k xs):=s0.2.2.2.2.1
def yf.PX:Gn W d C xs:=s0.2.2.2.2.2
end
section
variable{W:Wd}{d:af}{C:bw}
def Zw:AK W d C .ab:=fun hm h=>⟨fun pos K k=>k.elim,fun K h2 k=>k.elim⟩
def ae1:Iw W d C .ab:=fun hm h=>⟨fun pos K k=>k.elim,fun K h2 k=>k.elim⟩
def ae2:F9 W d C .ab:=fun hm h r=>⟨fun K k=>k.elim,fun K h2 k=>k.elim⟩
variable(X:Ez W d C)
include X
theorem Zx{e:a8}(he:eW W d C e):∀{r:c4},yf W d C r→yf W d C (.O e r)
 |.ab,hr=>⟨OV he hr.Iz,Ze he,aeB he,hr.kv1 e he,fun k hk=>OY hk he hr.kv,Ui he hr.PX⟩
 |.O _ _,hr=>⟨OV he hr.Iz,We he hr.dX,Zf he hr.iP,hr.kv1 e he,fun k hk=>OY hk he hr.kv,Ui he hr.PX⟩
theorem ae3{op:Kq}{e:a8}(he:eW W d C e):∀{r:wC},F9 W d C r→F9 W d C (.O op e r)
 |.ab,_=>aeD X.bm he
 |.O _ _ _,hr=>Zg X.bm he hr
def acj(W:Wd)(d:af)(C:bw):a8→Prop
 |.bE xs=>yf W d C xs
 |.dL _ el gens=>eW W d C el∧Bh W d C gens
 |_=>kD
theorem Ln:∀e:a8,eW W d C e∧acj W d C e:=@a8.rec (fun e=>eW W d C e∧acj W d C e) (yf W d C) (F9 W d C) (Bh W d C) (QM W d C)
 ⟨aeH,di⟩ (fun b=>⟨aeI b,di⟩) (fun i=>⟨ahq i,di⟩) (fun s=>⟨ahr s,di⟩) (fun x=>⟨ahd x,di⟩) (fun g=>⟨aey X.bm g,di⟩)
 (fun fz op q9 q9 a b=>⟨ahe fz op a.1 b.1,di⟩) (fun q9 a=>⟨ahf a.1,di⟩) (fun q9 a=>⟨ahg a.1,di⟩) (fun q9 x=>⟨ahk x.dX,di⟩) (fun q9 x=>⟨ai4 x.iP,di⟩)
 (fun q9 q9 a c=>⟨ahm a.1 c,di⟩) (fun q9 q9 q9 c a b=>⟨ahh c.1 a.1 b.1,di⟩) (fun fz q9 q9 f x=>⟨aeK X fz f.1 x.Iz,di⟩) (fun q9 nm q9 o x=>⟨aeL X nm o.1 x.Iz,di⟩)
 (fun q9 nm o=>⟨aez X.bm nm o.1,di⟩) (fun q9 q9 o i=>⟨ahn X.bm o.1 i.1,di⟩) (fun fz q9 q9 q9 o l h=>⟨Zh fz o.1 l.1 h.1,di⟩) (fun q9 x=>⟨aho x.Iz,x⟩) (fun fz q9 x=>⟨aeF fz x.Iz,di⟩)
 (fun q9 q9 x r=>⟨aeG x.1 r.1,di⟩) (fun q9 x=>⟨aeO X.bm x.kv,di⟩) (fun fz q9 q9 e g=>⟨ae0 fz e.1 g,e.1,g⟩) (fun q9 e=>⟨ahi e.1,di⟩) ⟨ahp,di⟩
 ⟨aeA,Zw,ae1,aeM,fun q9 q9=>aeN,ahE⟩ (fun q9 q9 e r=>Zx X e.1 r) ae2 (fun q9 q9 q9 e r=>ae3 X e.1 r) di (fun q9 q9 q9 q9 q9 it ifs r=>⟨it,ifs.PX,r⟩)
 (fun q9 e=>Wr e.1) (fun q9 e=>Wt X.bm e.1) (fun q9 e=>Zp X.bm e.1) fun q9 q9 a b=>aeQ X.bm a.1 b.1
theorem BX(e:a8):eW W d C e:=(Ln X e).1
def ajf(xs:c4):yf W d C xs:=(Ln X (.bE xs)).2
def gok(g:mT):Bh W d C g:=(Ln X (.dL ak .aA g)).2.2
def iok(it:yD):QM W d C it:=(gok X (.O [] ak it .ab .ab)).1
def ajg:∀b:bK,yc W d C b:=@bK.rec (oV W d C) (yc W d C)
 (fun e=>aeT (BX X e)) (fun x e=>WO (BX X e) fun fz el gens h=>⟨BX X el,gok X gens⟩) (fun xs es=>QT (ajf X es).Iz) (fun xs e=>WC (BX X e)) (fun o i e=>WD X.bm (BX X o) (BX X i) (BX X e))
 (fun o i p j a b=>QU X.bm (BX X o) (BX X i) (BX X p) (BX X j) (BX X a) (BX X b)) (fun e=>ahw (BX X e)) (fun c q9 q9 a b=>ahx (BX X c) a b) (fun n c q9 b=>WA (BX X c) b) (fun xs tp it q9 b=>aeV (iok X it) b)
 aeS (fun q9 b=>Zt b) ahv aeU fun q9 q9 s r=>Zs s r
end
def JJ:∀{ks:ao aI}{vs:ao aH}{n:aI},ks.length≤vs.length→n∈ks→((ks.zip vs).lookup n).isNone=aF:=by
 intro ks
 induction ks with
 |nil=>
  intro vs
  rcases vs with _|⟨_,_⟩
  ·intro z2 z3 z4
   first|exact bn z4|exact cG z4|exact rt z4|exact tj z4|(cases z4;done)|exact bn z3|exact Bool.noConfusion z3|exact False.elim z3|exact Nat.noConfusion z3|(cases z3;done)|exact bn z2|exact Bool.noConfusion z2|exact False.elim z2|exact Nat.noConfusion z2|(cases z2;done)
  ·intro z2 z3 z4
   first|exact bn z4|exact cG z4|exact rt z4|exact tj z4|(cases z4;done)|exact bn z3|exact Bool.noConfusion z3|exact False.elim z3|exact Nat.noConfusion z3|(cases z3;done)|exact bn z2|exact Bool.noConfusion z2|exact False.elim z2|exact Nat.noConfusion z2|(cases z2;done)
 |cons k ks ih=>
  intro vs
  rcases vs with _|⟨v,vs⟩
  ·intro z2 z3 z4
   first|exact bn z4|exact cG z4|exact rt z4|exact tj z4|(cases z4;done)|exact bn z3|exact cG z3|exact rt z3|exact tj z3|(cases z3;done)|exact bn z2|exact Bool.noConfusion z2|exact False.elim z2|exact Nat.noConfusion z2|(cases z2;done)
  ·intro n h hn
   exact vV (P:=fun o=>o.isNone=aF) (fun q9=>ag) fun q=>ih (wo h) ((eH.mp hn).resolve_left q)
def Q1{β:Type}{n m:aI}{c:β}{l:ao (aI×β)}(h:n≠m):((m,c)::l).lookup n=l.lookup n:=by (refine aq Hi ?_;refine aq (Ap.mpr h) ?_;rfl)
def Ko{k:aI}{v:aH}{l:ao (aI×aH)}:∀{ks:ao aI},k∉ks→ks.filterMap (fun n=>(((k,v)::l).lookup n).map (n,·))=ks.filterMap fun n=>(l.lookup n).map (n,·):=by
 intro ks
 induction ks with
 |nil=>
  intro _
  exact ag
 |cons n ks ih=>
  intro h
  obtain ⟨h1,h2⟩:=DS.mp (mt eH.mpr h)
  (refine aq He ?_;refine aq He ?_;refine aq (ih h2) ?_;refine aq (Q1 (Hu h1)) ?_;rfl)
def NZ:∀{ks:ao aI}{vs:ao aH},ks.Nodup→ks.length≤vs.length→ks.filterMap (fun n=>((ks.zip vs).lookup n).map (n,·))=ks.zip vs:=by
 intro ks
 induction ks with
 |nil=>
  intro vs
  rcases vs with _|⟨_,_⟩
  ·intro _ _
   exact ag
  ·intro _ _
   exact ag
 |cons k ks ih=>
  intro vs
  rcases vs with _|⟨v,vs⟩
  ·intro z2 z3
   first|exact bn z3|exact bW z3 (yh _)|exact Bool.noConfusion z3|exact False.elim z3|exact bn z2|exact nomatch z2|exact Bool.noConfusion z2|exact False.elim z2
  ·intro hd h
   obtain ⟨h1,h2⟩:=Ax.mp hd
   (refine aq List.zip_cons_cons ?_;refine aq He ?_;refine aq List.lookup_cons_self ?_;refine aq (Ko h1) ?_;refine aq (ih h2 (wo h)) ?_)
   rfl
def N0{α β:Type}{f:α→β→gO (ForInStep β)}(c:β):∀{l:ao α},(∀x∈l,f x c=dM (.yield c))→forIn l c f=dM c:=by
 intro l
 induction l with
 |nil=>
  intro _
  exact LR
 |cons x l ih=>
  intro h
  (rewrite [LQ];refine aq (h x (fF ..)) ?_)
  exact ih fun y hy=>h y (jf _ hy)
structure jv(p:Sk)(names:ao aI):Prop where
 AF:p.posonlyargs=[]
 pV:p.vararg=au
 kwo:p.kwonlyargs=[]
 ajx:p.kwarg=au
 nms:p.args.map (·.arg)=names
 nd:names.Nodup
def Ul{α β:Type}(x:α)(f:α→Sem β):(pure x>>=f)=f x:=rfl
def Q2{fd:qM}{names:ao aI}(P:jv fd.params names){vals:ao aH}(hl:vals.length=names.length):
  Md fd ⟨vals,[]⟩=(do let _ ← L7 fd.defaults;dM (names.zip vals)):=by
 refine aw fun kz=>?_
 obtain ⟨a,b,⟨q1,q2,q3,q4,q5,q6,q7⟩,c,d,e,f,g,h,i,j,k,l,m,n⟩:=fd
 obtain ⟨p1,p2,p3,p4,p5,nd⟩:=P
 refine kz ?_;try clear kz
 dsimp only at p1 p2 p3 p4 p5
 subst p1 p2 p3 p4 p5
 unfold Md
 dsimp only [List.forIn_nil,Ul]
 refine bind_congr fun ds=>?_
 have lt:¬vals.length >(q2.map (·.arg)).length:=lw.mpr (lm hl)
 refine (cL fun z=>lt (eX (jY.mp z).1)).trans ?_
 have hm:∀k,((q2.map (·.arg)).take k).filter (fun n=>(((q2.map (·.arg)).zip vals).lookup n).isNone)=[] :=fun k=>
  Z9.mpr fun n hn=>by refine aq (JJ (lm hl.symm) (RD hn)) ?_;exact mI
 refine (cL fun z=>mI ((a7 (fun l=>!List.isEmpty l) (hm _)).symm.trans z)).trans ?_
 refine (a7 (· >>=_) (N0 _ fun x hx=>?_)).trans ?_
 ·exact cL fun z=>mI ((JJ (lm hl.symm) (aag (aat (show (x.1,x.2)∈_ from hx)).1)).symm.trans z)
 ·refine a7 (dM:_→gO (ao (aI×aH))) (Eq.trans ?_ (NZ nd (lm hl.symm)))
  show aav _ (_++[])=_
  rw [ny]
  rfl
def Q3{fd:qM}(P:jv fd.params ["code","outer"]){v d:aH}:∃k,Md fd ⟨[v],[]⟩=L7 fd.defaults>>=k∧k (ac #[d])=dM [(("code":aI),v),(("outer":aI),d)] :=by
 refine aw fun kz=>?_
 obtain ⟨a,b,⟨q1,q2,q3,q4,q5,q6,q7⟩,c,d,e,f,g,h,i,j,k,l,m,n⟩:=fd
 obtain ⟨p1,p2,p3,p4,p5,nd⟩:=P
 refine kz ?_;try clear kz
 dsimp only at p1 p2 p3 p4 p5
 subst p1 p2 p3 p4
 unfold Md
 dsimp only [List.forIn_nil,Ul]
 refine ⟨_,ag,?_⟩
 refine aq p5 ?_
 rfl
def iM(sc:Sc)(names:ao aI)(np:af)(aP:fH):Prop:=((aP.map (·.1)).Nodup)∧((aP.map (·.2)).Nodup)∧(∀p∈aP,names[p.1]? =ac p.2)∧(∀p∈aP,sc.lookup p.2=ac .local∨(sc.lookup p.2=ac .cell∧(p.2==("__classdict__":aI))=aF))∧(∀n∈names.take np,sc.lookup n=ac .local∨sc.lookup n=ac .cell)∧((names.take np).Nodup)∧(np≤names.length)
section
variable{sc:Sc}{names:ao aI}{np:af}{aP:fH}(s0:iM sc names np aP)
include s0
def iM.nd1:(aP.map (·.1)).Nodup:=s0.1
def iM.nd2:(aP.map (·.2)).Nodup:=s0.2.1
def iM.eb:∀p∈aP,names[p.1]? =ac p.2:=s0.2.2.1
def iM.ahJ:∀p∈aP,sc.lookup p.2=ac .local∨(sc.lookup p.2=ac .cell∧(p.2==("__classdict__":aI))=aF):=s0.2.2.2.1
def iM.par:∀n∈names.take np,sc.lookup n=ac .local∨sc.lookup n=ac .cell:=s0.2.2.2.2.1
def iM.ndp:(names.take np).Nodup:=s0.2.2.2.2.2.1
def iM.bh:np≤names.length:=s0.2.2.2.2.2.2
end
abbrev M4:=aI→aM aH
section
variable{F:ao (aI×aH)→M4→M4}{nm:aI}(h0:∀m,F [] m nm=m nm)(h1:∀v r m,∃m',F ((nm,v)::r) m=F r m'∧m' nm=ac v)(h2:∀n v r m,n≠nm→∃m',F ((n,v)::r) m=F r m'∧m' nm=m nm)
include h0 h2
def N1:∀{binds:ao (aI×aH)}{m:M4},nm∉binds.map (·.1)→F binds m nm=m nm:=by
 intro binds
 induction binds with
 |nil=>
  intro m _
  exact h0 m
 |cons zp r ih=>
  obtain ⟨n,v⟩:=zp
  intro m h
  obtain ⟨a,b⟩:=DS.mp (mt eH.mpr h)
  obtain ⟨m',e1,e2⟩:=h2 n v r m (Hu a)
  (refine aq e1 ?_;refine aq (ih b) ?_;refine aq e2 ?_;rfl)
include h1
def JK{v:aH}:∀{binds:ao (aI×aH)}{m:M4},(binds.map (·.1)).Nodup→(nm,v)∈binds→F binds m nm=ac v:=by
 intro binds
 induction binds with
 |nil=>
  intro z1 z2 z3
  first|exact bn z3|exact bW z3 hU|exact Bool.noConfusion z3|exact False.elim z3|exact bn z2|exact nomatch z2|exact Bool.noConfusion z2|exact False.elim z2|exact bn z1|exact nomatch z1|exact Bool.noConfusion z1|exact False.elim z1
 |cons zp r ih=>
  obtain ⟨n,w⟩:=zp
  intro m hd h
  obtain ⟨a,b⟩:=Ax.mp hd
  rcases eH.mp h with e|h
  ·refine aw fun kz=>?_
   obtain ⟨rfl,rfl⟩:=abm e
   obtain ⟨m',e1,e2⟩:=h1 v r m
   refine kz ?_;try clear kz
   (refine aq e1 ?_;refine aq (N1 h0 h2 a) ?_;refine aq e2 ?_;rfl)
  ·refine aw fun kz=>?_
   obtain ⟨m',e1,_⟩:=h2 n w r m fun z=>a (z▸Hf (f:=(·.1)) h)
   refine kz ?_;try clear kz
   (refine aq e1 ?_;refine aq (ih b h) ?_;rfl)
end
def Q4{k:aI→aM yo}{nm:aI}{v:aH}(hk:k nm=ac .local){binds:ao (aI×aH)}{m:M4}:(binds.map (·.1)).Nodup→(nm,v)∈binds→bindL k binds m nm=ac v:=
 JK (F:=bindL k) (fun q9=>ag) (fun v r m=>⟨_,ag,by refine aq (bD hk) ?_;exact bD ag⟩) fun n v r m hn=>⟨_,ag,by
  split
  ·exact cL hn.symm
  ·rfl⟩
def Q5{k:aI→aM yo}{nm:aI}{v:aH}(hk:¬k nm=ac .local){binds:ao (aI×aH)}{m:M4}:(binds.map (·.1)).Nodup→(nm,v)∈binds→bindC k binds m nm=ac v:=
 JK (F:=bindC k) (fun q9=>ag) (fun v r m=>⟨_,ag,by refine aq (cL hk) ?_;exact bD ag⟩) fun n v r m hn=>⟨_,ag,by
  split
  ·rfl
  ·exact cL hn.symm⟩
def Go{nm:aI}:∀{names:Sc}{n:af}{acc:ao (aI×be)},((nm,Ec)∈names∨∃c,acc.lookup nm=ac c)→∃c,(Sl n names acc).lookup nm=ac c:=by
 intro names
 induction names with
 |nil=>
  intro n acc h
  exact h.elim (fun z=>bW z hU) id
 |cons zp r ih=>
  obtain ⟨x,k⟩:=zp
  intro n acc h
  unfold Sl
  split
  ·refine ih (vV (P:=fun o=>_∨∃c,o=ac c) (fun q9=>.inr ⟨_,ag⟩) fun q=>h.imp (fun z=>(eH.mp z).elim (fun e=>bW (a7 Prod.fst e) q) id) id)
  ·rename_i hk
   exact ih (h.imp (fun z=>(eH.mp z).elim (fun e=>bW (mi.mpr (a7 Prod.snd e).symm) hk) id) id)
section
variable{W:Wd}{A:dD}{d:af}{C:bw}{g g':cZ}{σ:an}{s s₁:bz}{env:cB}{aP:fH}
def bZ.ae4(S:bZ W g σ s)(own:be→Prop){h':dW}(tk:af)(hk:∀b o,s.heap.get? b=ac o→h'.get? b=ac o)(new:∀a,own a→@Eg af DR s.heap.objs.size a):bZ W ⟨g.F,g.T.ju own h',g.α⟩ σ {s with heap:=h',toks:=tk}:=by
 refine S.Qn (fun q9=>dj) tk (fun q9 z=>z.elim) (fun b o q9=>hk b o) fun a o e=>?_
 by_cases q:own a
 ·rw [qD q] at e
  exact ⟨e,S.DG (new a q),S.gm (new a q)⟩
 ·rw [rL q] at e
  exact ⟨hk a o (S.iQ a o e),S.um e⟩
def lh(W:Wd)(g:cZ)(σ:an)(env:cB)(sc:Sc)(aP:fH)(vals:ao aH)(ρ:bJ)(bT:cZ)(s₁:bz):Prop:=(bZ W bT σ s₁)∧(eN W bT env sc aP ρ)∧(Le (bM env) g bT)∧(∀a,bM env a→g.T a=au)∧(∀p∈aP,∀w,vals[p.1]? =ac w→rJ env bT.T p.2 (ac w))
section
variable{W:Wd}{g:cZ}{σ:an}{env:cB}{sc:Sc}{aP:fH}{vals:ao aH}{ρ:bJ}{bT:cZ}{s₁:bz}(s0:lh W g σ env sc aP vals ρ bT s₁)
include s0
def lh.S:bZ W bT σ s₁:=s0.1
def lh.E:eN W bT env sc aP ρ:=s0.2.1
def lh.gP:Le (bM env) g bT:=s0.2.2.1
def lh.pQ:∀a,bM env a→g.T a=au:=s0.2.2.2.1
def lh.pV:∀p∈aP,∀w,vals[p.1]? =ac w→rJ env bT.T p.2 (ac w):=s0.2.2.2.2
end
def Q6(S:bZ W g σ s){sc:Sc}{names:ao aI}{np:af}{vals:ao aH}{args:ao (aM aC)}(hsc:env.scope.names=sc)(hf:iM sc names np aP)(hk:env.scope.kind=.function)(hg:env.globals=tx)(hb:env.builtins=uL){n:af}
  (hcl:env.cells=Sl n sc []) (x:InCallC s env.locals (bindL env.kindOf ((names.take np).zip vals) fun q9=>au) env.cells (bindC env.kindOf ((names.take np).zip vals) fun q9=>au) s₁) (r1:vals.length=args.length) (r2:∀(i:af)(v:aH)(m:aC),vals[i]? =ac v→args[i]? =ac (ac m)→c7 W g m v) (hl:vals.length=np) {k:af}:
  ∃bT,lh W g σ env sc aP vals (args++mJ k au) bT s₁:=by
 subst hsc
 refine aw fun kz=>?_
 obtain ⟨h',tk,rfl,ahK⟩:=x.done
 have hL:=x.toInCall.fresh
 have y7:∀{n c},env.cells.lookup n=ac c→@Hv af G9 env.locals c:=fun h=>x.above _ _ (Sa h)
 have Um:∀a,bM env a→@Eg af DR s.heap.objs.size a:=fun a h=>h.elim (fun e=>e▸hL) fun ⟨n,h⟩=>a5 hL (jH (y7 h))
 have bv:=S.ae4 (bM env) tk ahK Um
 have T1:∀{a},bM env a→g.T.ju (bM env) h' a=h'.get? a:=fun h=>qD h
 obtain ⟨oL,gL,hoL⟩:=kL.eu x.toInCall.ns
 refine kz ?_;try clear kz
 have eL:=(T1 (.inl ag)).trans gL
 have lt:(names.take np).length≤vals.length:=hl.symm▸Hh _ _
 have hdn:(((names.take np).zip vals).map (·.1)).Nodup:=by refine aq (aaq lt) ?_;exact hf.ndp
 have afE:∀p∈aP,∀w,vals[p.1]? =ac w→(p.2,w)∈(names.take np).zip vals:=fun p hp w hw=>
  gM (i:=p.1) (Z5.mpr ⟨(LF (hl▸(fM.mp hw).1)).trans (hf.eb p hp),hw⟩)
 have hc:∀{id},env.scope.names.lookup id=ac .cell→∃c,env.cells.lookup id=ac c:=fun h=>by refine aq hcl ?_;exact Go (.inl (ky _ h))
 have holds:∀p∈aP,∃u,rJ env (g.T.ju (bM env) h') p.2 u∧∀w,vals[p.1]? =ac w→u=ac w:=fun p hp=>by
  rcases hf.ahJ p hp with KV|⟨KV,hcd⟩
  ·exact ⟨_,.az KV oL _ eL hoL ag,fun w hw=>Q4 KV hdn (afE p hp w hw)⟩
  ·refine aw fun kz=>?_
   obtain ⟨c,hc⟩:=hc KV
   obtain ⟨o,e,hd⟩:=x.cell p.2 c hc
   refine kz ?_;try clear kz
   exact ⟨_,.js (.inl KV) hcd c o hc ((T1 (.inr ⟨_,hc⟩)).trans e) hd,fun w hw=>Q5 (fun z=>by rw [show env.kindOf p.2=ac .cell from KV] at z;cases z) hdn (afE p hp w hw)⟩
 refine ⟨⟨g.F,g.T.ju (bM env) h',g.α⟩,bv,?_,⟨nI.bc _,lK _,fun a n=>rL n⟩,fun a h=>S.sZ (Um a h),fun p hp w hw=>by obtain ⟨u,h1,h2⟩:=holds p hp;exact h2 w hw▸h1⟩
 refine {
  cx:=hk
  pU:=hg
  qg:=hb
  aJ:=fun id h=>h
  js:=fun id h=>⟨h,hc h⟩
  az:=fun id h=>h
  inj:=fun n n' c h h'=>name_of_addr x.apart (Sa h) (Sa h')
  iL:=fun n c h=>(nv (y7 h)).symm
  OU:=⟨oL,eL,_,hoL⟩
  Jz:=fun n c h=>by obtain ⟨o,e,_⟩:=x.cell n c h;exact ⟨o,(T1 (.inr ⟨n,h⟩)).trans e⟩
  nd1:=hf.nd1
  nd2:=hf.nd2
  pV:=fun p hp=>?_}
 refine aw fun kz=>?_
 obtain ⟨u,h1,h2⟩:=holds p hp
 refine kz ?_;try clear kz
 refine ⟨u,h1,fun v e=>?_⟩
 by_cases q:p.1<args.length
 ·rw [sJ q] at e
  have e':=ed (r1.symm▸q)
  exact ⟨_,h2 _ e',r2 _ _ _ e' (JL e)⟩
 ·rw [nO (vh q)] at e
  have:=List.eq_of_mem_replicate (gM (JL e))
  exact bn this.symm
where
 JL {o:aM (aM aC)} {v:aC} (h:o.join=ac v):o=ac (ac v):=match o,h with
  |some (ac x),h=>a7 (fun y=>ac (ac y)) (cp h)
end
end
section
open PySem PySem.W PySem.Spec PyProof.Rows PySem.Calls SeqAt
set_option backward.match.sparseCases true
noncomputable def ahL:Flow→aH
 |.ret v=>v
 |_=>.none
def BY(W:Wd)(fd:qM)(ds:ao am):Prop:=(fd.defaults=.none∧ds=[])∨∃(a:be)(o:dF)(items:kC aH)(n:af),fd.defaults=.ref a∧W.ea.get? a=ac o∧o.data=.seq items n∧(ds≠ [] →cI W W.ea.get? ds items.toList)
def qr(W:Wd)(k:af)(I:cH)(o:dF)(fd:qM)(body:ao cy):Prop:=(W.ea.get? (W.lJ k)=ac o)∧(o.data=.func fd)∧(fd.scope.isCoroutine=aF)∧(fd.scope.isGenerator=aF)∧(fd.scope.kind=.function)∧(fd.body=.stmts body)∧(fd.closure=[])∧(fd.globals=tx)∧(fd.builtins=uL)∧(W.ea.CodeRec fd.code fd.qualname)∧(BY W fd I.bR)∧(I.bR≠ [] →I.aQ=2∧I.bR.length=1∧I.aY.take 2=[("code":aI),("outer":aI)])
section
variable{W:Wd}{k:af}{I:cH}{o:dF}{fd:qM}{body:ao cy}(s0:qr W k I o fd body)
include s0
def qr.ic:W.ea.get? (W.lJ k)=ac o:=s0.1
def qr.Un:o.data=.func fd:=s0.2.1
def qr.co:fd.scope.isCoroutine=aF:=s0.2.2.1
def qr.gen:fd.scope.isGenerator=aF:=s0.2.2.2.1
def qr.cx:fd.scope.kind=.function:=s0.2.2.2.2.1
def qr.bf:fd.body=.stmts body:=s0.2.2.2.2.2.1
def qr.clo:fd.closure=[] :=s0.2.2.2.2.2.2.1
def qr.tH:fd.globals=tx:=s0.2.2.2.2.2.2.2.1
def qr.ae5:fd.builtins=uL:=s0.2.2.2.2.2.2.2.2.1
def qr.kS:W.ea.CodeRec fd.code fd.qualname:=s0.2.2.2.2.2.2.2.2.2.1
def qr.bR:BY W fd I.bR:=s0.2.2.2.2.2.2.2.2.2.2.1
def qr.ahM:I.bR≠ [] →I.aQ=2∧I.bR.length=1∧I.aY.take 2=[("code":aI),("outer":aI)] :=s0.2.2.2.2.2.2.2.2.2.2.2
end
def Xi(W:Wd)(k:af)(I:cH)(b:bK):Prop:=∃o fd body aP,qr W k I o fd body∧jv fd.params (I.aY.take I.aQ)∧iM fd.scope.names I.aY I.aQ aP∧BW W.T fd.scope.names aP b body=ak
def Gp(W:Wd)(A:dD)(g:cZ)(σ:an)(sc:Sc)(aP:fH)(vals:ao aH)(ρ:bJ)(body:ao cy)(R:yt→bz→Prop):Prop:=∀env bT s₁,lh W g σ env sc aP vals ρ bT s₁→Wp W (A.deeper env) (execs body env) (fun f s'=>R (.ok (.ret (ahL f))) s') s₁
section
variable{W:Wd}{A:dD}{d:af}{C:bw}{g g':cZ}{σ:an}{s:bz}{k:af}{I:cH}{o:dF}{fd:qM}{body:ao cy}{np:af}{aP:fH}{R:yt→bz→Prop}{vals:ao aH}{za:ao (aM aC)}
def BQ.WP(h:BQ A (d+1))(env:cB):BQ (A.deeper env) d:=⟨h.gA,by have:=h.cQ;show A.depth+1+4*d<_;exact ada this,adb h.GR⟩
def Gq(hN:W.ea.NoLimit)(X:qr W k I o fd body)(hf:iM fd.scope.names I.aY np aP)(S:bZ W g σ s)(r1:vals.length=za.length)(r2:∀(i:af)(v:aH)(m:aC),vals[i]? =ac v→za[i]? =ac (ac m)→c7 W g m v)(hl:vals.length=np)
  (h:Gp W A g σ fd.scope.names aP vals (za++mJ (I.aY.length-np) au) body R):
  rm (ke W.cY W.w) A.in1 (newFunctionEnv fd.scope fd.globals fd.closure ((I.aY.take np).zip vals) (fd.qualname++".<locals>.") (ac (W.lJ k)) fd.code au fd.builtins)
   (fun env df=>df.heap.NoLimit∧pF (ke W.cY W.w) A (.func body env) R df) (fun e s'=>R (.error e) s') s:=by
 refine aq X.clo ?_
 refine wpAny_newFunctionEnv_cells X.cx (fun y hy=>(hf.par _ (aat (show (y.1,y.2)∈_ from hy)).1).imp id fun h=>⟨h,Lo.mpr (Go (.inl (ky _ h)))⟩) fun env he s₁ x=>?_
 have ajh:s.heap.NoLimit:=by obtain ⟨mc,n,z⟩:=hN;exact ⟨mc,n.keeps fun b o e=>S.m9 e,z⟩
 obtain ⟨bT,N⟩:=Q6 (k:=I.aY.length-np) S (by refine aq he ?_;rfl) hf (by refine aq he ?_;exact X.cx) (by refine aq he ?_;exact X.tH) (by refine aq he ?_;exact X.ae5) (by refine aq he ?_;rfl) x r1 r2 hl
 exact ⟨ajh.keeps x.toInCall.keep,codeAny_func ((h env bT s₁ N).pT fun f s' q=>q)⟩
def Kp{M:Model}{E:aH→bz→Prop}{ds:ao am}(D:BY W fd ds)(S:bZ W g σ s){Q:aM (kC aH)→bz→Prop}(q:∀x,(ds≠ [] →∃items,x=ac items∧cI W g.F ds items.toList)→Q x s):rm M A (L7 fd.defaults) Q E s:=by
 rcases D with ⟨h,rfl⟩|⟨a,o,items,n,h,e,hd,hr⟩
 ·refine aq h ?_
  exact L5 (show L7 Value.none=dM au from ag) (q au fun z=>bW ag z)
 ·refine aq h ?_
  exact wpAny_seqItems (S.m9 e) hd (q _ fun z=>⟨items,ag,(hr z).bu S.m8⟩)
def Gs(hN:W.ea.NoLimit)(hroom:A.depth<D3)(X:qr W k I o fd body)(P:jv fd.params (I.aY.take np))(hf:iM fd.scope.names I.aY np aP)(S:bZ W g σ s)(r1:vals.length=za.length)
  (r2:∀(i:af)(v:aH)(m:aC),vals[i]? =ac v→za[i]? =ac (ac m)→c7 W g m v) (hl:vals.length=np) (h:Gp W A g σ fd.scope.names aP vals (za++mJ (I.aY.length-np) au) body R):pF (ke W.cY W.w) A (.call (.ref (W.lJ k)) ⟨vals,[]⟩) R s:=by
 refine aaC hroom (S.m9 X.ic) X.Un X.co X.gen X.bf (X.kS.keeps fun b o e=>S.m9 e) ?_
 rw [Q2 P (by (refine aq DY ?_;refine aq (DN hf.bh) ?_;refine aq hl ?_;rfl))]
 exact bV (Kp X.bR S fun x q9=>fV (Gq hN X hf S r1 r2 hl h))
def dI.BO{x:aC}{xs:ao aC}{vs:ao aH}{P:ao aH→Prop}(h:dI W g (x::xs) vs)(k:∀v us,c7 W g x v→dI W g xs us→P (v::us)):P vs:=by
 obtain ⟨v,us,rfl,a,b⟩:=h
 exact k v us a b
def dI.sj{ms:ao aC}:∀{vs:ao aH},dI W g ms vs→∀(i:af)(v:aH)(m:aC),vs[i]? =ac v→(ms.map ac)[i]? =ac (ac m)→c7 W g m v:=by
 induction ms with
 |nil=>exact fun q9 q9 q9 q9 q9 e=>bn e
 |cons x xs ih=>
  intro vs h i v m
  refine h.BO (P:=fun vs=>vs[i]? =ac v→((x::xs).map ac)[i]? =ac (ac m)→c7 W g m v) fun u us a b h1 h2=>?_
  induction i with
  |zero=>exact cp (cp h2)▸cp h1▸a
  |succ i=>exact ih b i v m h1 h2
def dI.T8{ys:ao aC}{us:ao aH}(h':dI W g ys us){xs:ao aC}:∀{vs:ao aH},dI W g xs vs→dI W g (xs++ys) (vs++us):=by
 induction xs with
 |nil=>intro vs e;refine aq (show vs=[] from e) ?_;exact h'
 |cons x xs ih=>exact fun h=>h.BO (P:=fun vs=>dI W g (x::(xs++ys)) (vs++us)) fun v vs a b=>⟨v,_,ag,a,ih b⟩
def N2(hN:W.ea.NoLimit)(hroom:A.depth<D3)(X:qr W k I o fd body)(P:jv fd.params (I.aY.take I.aQ))(hf:iM fd.scope.names I.aY I.aQ aP)(S:bZ W g σ s){args:ao aC}(r:dI W g args vals)(hne:I.bR≠ [])(ha:args.length+I.bR.length=I.aQ)
  (h:∀ack,Gp W A g σ fd.scope.names aP ack ((args++I.bR.map aC.f).map ac++mJ (I.aY.length-I.aQ) au) body R):pF (ke W.cY W.w) A (.call (.ref (W.lJ k)) ⟨vals,[]⟩) R s:=by
 refine aaC hroom (S.m9 X.ic) X.Un X.co X.gen X.bf (X.kS.keeps fun b o e=>S.m9 e) ?_
 refine aw fun kz=>?_
 obtain ⟨e1,e2,e3⟩:=X.ahM hne
 rw [e1] at P ha
 have hv:vals.length=1:=by refine aq r.bh ?_;rw [e2] at ha;exact pG ha
 obtain ⟨v,rfl⟩:=aab.mp hv
 refine kz ?_;try clear kz
 rw [e3] at P
 rcases X.bR with ⟨_,z⟩|⟨a,od,items,n,f1,f2,f3,f4⟩
 ·exact bW z hne
 have hr:=(f4 hne).bu S.m8
 refine aw fun kz=>?_
 obtain ⟨items⟩:=items
 obtain ⟨u,hu⟩:=aab.mp (hr.bh.trans e2)
 obtain rfl:items=[u] :=hu
 obtain ⟨K,b1,b2⟩:=Q3 (v:=v) (d:=u) P
 refine kz ?_;try clear kz
 (refine aq b1 ?_;refine aq f1 ?_)
 refine bV (wpAny_seqItems (S.m9 f2) f3 ?_)
 refine aq b2 ?_
 refine fV ?_
 have rr:dI W g (args++I.bR.map aC.f) ([v] ++[u]):=hr.toM.T8 r
 have:=Gq (vals:=[v,u]) (za:=(args++I.bR.map aC.f).map ac) hN X hf S (by rw [b9];exact rr.bh) (dI.sj (vs:=[v,u]) rr) e1.symm (h [v,u])
 rw [e1,e3] at this
 exact this
end
def acl(Q:aH→bz→Prop)(r:yt)(s':bz):Prop:=match r with
 |.ok (.ret v)=>Q v s'
 |.ok _=>dj
 |.error e=>dj
section
variable{W:Wd}{A:dD}{d:af}{C:bw}{g g':cZ}{σ:an}{s:bz}{k:af}{I:cH}{b:bK}{sc:Sc}{aP:fH}{body:ao cy}{ρ:bJ}{vals:ao aH}{Q:KE}
def WQ:∀{n:af}{K:bJ→Prop},acB n K→K (mJ n au):=by
 intro n
 induction n with
 |zero=>
  intro _ k
  exact k
 |succ n ih=>
  intro K k
  exact ih (K:=fun ρ=>K (au::ρ)) k
def CI{n:af}:∀{args:ao aC}{K:bJ→Prop},W5 args n K→K (args.map ac++mJ n au):=by
 intro args
 induction args with
 |nil=>
  intro _ k
  exact WQ k
 |cons a r ih=>
  intro K k
  exact ih (K:=fun ρ=>K (ac a::ρ)) k
def Zy{args as:ao aC}{P:ao aC→Prop}(h:o7 I args=ac as)(h1:args.length=I.aQ→P args)(h2:I.bR≠ [] →args.length+I.bR.length=I.aQ→P (args++I.bR.map .f)):P as:=by
 unfold o7 at h
 by_cases q:args.length=I.aQ
 ·rw [bD q] at h
  exact cp h▸h1 q
 ·rw [cL q] at h
  obtain ⟨q2,e⟩:=d4 h
  exact cp e▸h2 (fun z=>q (by rw [z] at q2;exact q2)) q2
def lh.aji{env:cB}{bT:cZ}{s₁ s':bz}{bS:an}{dw:bJ}(N:lh W g σ env sc aP vals ρ bT s₁)(l:Le (bM env) bT g')(E:eN W g' env sc aP dw)(S:bZ W g' bS s'):tO g ⟨g'.F,g'.T.iY (bM env),g'.α⟩∧bZ W ⟨g'.F,g'.T.iY (bM env),g'.α⟩ bS s':=
 ⟨pp (own:=bM env) (fr:=fun q9=>dj) N.pQ ((N.gP.aX l).up fun q9=>.inl),S.iY (bM env) s'.toks (fun a h=>h.elim (fun e=>let ⟨o,z,_⟩:=E.OU;⟨o,e▸z⟩) fun ⟨n,h⟩=>E.Jz n a h) fun q9 q9 q9 e=>e⟩
def bZ.AS{bS:an}(S:bZ W g' bS s)(l:tO g g'){n:af}(e:g.α.length=n):bZ W ⟨g'.F,g'.T,g.α⟩ (bS.take n) s∧tO g ⟨g'.F,g'.T,g.α⟩:=by
 obtain ⟨t,ht⟩:=l.α
 have:=S.CJ n
 rw [← ht,← e,DZ] at this
 exact ⟨e▸this,l.F,lK _,l.T⟩
def O7(hB:yc W d C b)(hm:BW W.T sc aP b body=ak)(hA:BQ A (d+1)){keep:av}(hl:g.α.length=σ.length)(k:fI ⟨W.T,C⟩ b ρ σ (oA keep σ.length Q)):Gp W A g σ sc aP vals ρ body (acl (VP W g Q)):=fun env bT s₁ N=>
 (hB hm _ ⟨hA.WP env,N.S,N.E⟩ k).xp fun f s' fl dw bS g' l E r S k=>by
  refine aw fun kz=>?_
  obtain ⟨afF,afG⟩:=N.aji l E S
  obtain ⟨bv,l₁⟩:=afG.AS afF hl
  refine kz ?_;try clear kz
  induction fl with
  |aS=>
   refine aq (show f=.next from r) ?_
   exact ⟨.f .aA,_,_,l₁,(ag:iE W g'.F .aA .none),bv,k⟩
  |iz=>exact k.elim
  |a9 m=>
   refine aw fun kz=>?_
   obtain ⟨u,rfl,r⟩:=r
   refine kz ?_;try clear kz
   induction keep with
   |true=>
    have k:Q m bS:=k
    exact ⟨m,bS,_,afF,r.bu (Le.iY _),afG,k⟩
   |false=>
    refine aw fun kz=>?_
    obtain ⟨x,rfl,k⟩:=xB (K:=fun x=>Q (.f x) (bS.take σ.length)) k
    refine kz ?_;try clear kz
    exact ⟨.f x,_,_,l₁,r,bv,k⟩
def Zz(hN:W.ea.NoLimit)(hk:Xi W k I b)(hB:yc W d C b)(hA:BQ A (d+1))(S:bZ W g σ s){args as:ao aC}(r:dI W g args vals)(hp:o7 I args=ac as)(q:E5 ⟨W.T,C⟩ I b as σ Q):Wp W A (gH (.ref (W.lJ k)) vals) (VP W g Q) s:=by
 refine aw fun kz=>?_
 obtain ⟨o,fd,body,aP,X,P,hf,hm⟩:=hk
 refine kz ?_;try clear kz
 have hroom:A.depth<D3:=ni (ff _ _) hA.cQ
 refine wpAny_call (Zy (P:=fun as=>E5 ⟨W.T,C⟩ I b as σ Q→pF (ke W.cY W.w) A (.call (.ref (W.lJ k)) ⟨vals,[]⟩) (acl (VP W g Q)) s) hp (fun ha q=>?_) (fun hne ha q=>?_) q)
 ·exact Gs hN hroom X P hf S (by (rewrite [b9];refine aq r.bh ?_;rfl)) r.sj (r.bh.trans ha) (O7 hB hm hA S.bh (CI q))
 ·exact N2 hN hroom X P hf S r hne ha fun ack=>O7 hB hm hA S.bh (CI q)
end
end
section
open PySem PySem.W PySem.Spec PyProof.Rows PySem.Calls SeqAt Builtin Builtin.ObjectAttr
set_option backward.match.sparseCases true
def mh(o:dF)(m:aI→aM aH):Prop:=∃es ep,o.data=.dict es ep∧StrKeys es∧UniqKeys es∧∀name,yq es name=m name
def mh.Xh{o:dF}{m:aI→aM aH}(x:mh o m):kL o m:=by obtain ⟨es,ep,a,b,_,c⟩:=x;exact ⟨es,ep,a,b,c⟩
def mh.eb{h:dW}{a:be}{o:dF}{m:aI→aM aH}(x:mh o m)(e:h.get? a=ac o):h.Ns1 a m:=by obtain ⟨es,ep,r⟩:=x;exact ⟨o,es,ep,e,r⟩
def mh.eu{h:dW}{a:be}{m:aI→aM aH}(x:h.Ns1 a m):∃o,h.get? a=ac o∧mh o m:=by obtain ⟨o,es,ep,e,r⟩:=x;exact ⟨o,e,es,ep,r⟩
def mh.ahN:mh yz fun q9=>au:=⟨#[],_,ag,fun e he=>bW he (Array.not_mem_empty e),by unfold UniqKeys;exact .nil,fun q9=>ag⟩
inductive ahO(W:Wd)(g:cZ)(dx:be)(m:aI→aM aH)(ns:ao aI)(K:ao aC→an→Prop)(s':bz):Prop
 |mk (ms:ao aC) (us:ao aH) (bS:an) (g':cZ) (od:dF) (m':aI→aM aH) (le:Le (fun a=>a=dx) g g') (S:bZ W g' bS s') (D1:g'.T dx=ac od) (hns:mh od m') (r:dI W g' ms us) (hl:ms.length=ns.length) (no:∀nm,nm∉ns→m' nm=m nm) (at_:∀(j:af)(nm:aI)(v:aH),ns[j]? =ac nm→us[j]? =ac v→m' nm=ac v) (k:K ms bS)
section
variable{W:Wd}{A:dD}{d:af}{C:bw}{g g':cZ}{σ:an}{s:bz}{env:cB}{sc:Sc}{aP:fH}{ρ:bJ}
def Q7{x dx B:be}{name:aI}{v:aH}{m:aI→aM aH}{od:dF}{ns:ao aI}{Q:jE→bz→Prop}(X:W.K.In s.heap)(hx:s.heap.get? x=ac (mw B dx))(hd:s.heap.get? dx=ac od)(hm:mh od m)
  (hp:Mj W.K B=ak) (hf:kF W.K (.ref B) name=ac au) (hh:Mi W.K B=ak) (hs:kF W.K (.ref B) "__setattr__"=ac (ac (.builtin "object.__setattr__"))) (hw:Within m ns) (hsz:ns.length≤1000)
  (q:∀h' Q8 tk,yx dx s.heap h'→h'.get? dx=ac Q8→mh Q8 (fun y=>if y=name then ac v else m y)→Q () {s with heap:=h',toks:=tk}):Wp W A (setAttr (.ref x) name v) Q s:=by
 refine aw fun kz=>?_
 obtain ⟨acm,g,dr,t,os⟩:=s
 refine kz ?_;try clear kz
 have X:W.K.In acm:=X
 have I:PySem.W.InstAt acm x (mw B dx) B (ac od):=⟨hx,ag,ag,hd⟩
 refine set_plain X I hs (osa_open X I hp (show takerIn W.K B name=ac au by unfold takerIn;refine aq hf ?_;rfl) fun b=>?_)
 refine aw fun kz=>?_
 obtain ⟨cd,hc,hd'⟩:=any_some (show (clsIn W.K B).any (·.hasDict)=ak from hh)
 refine kz ?_;try clear kz
 refine bV (fV (bV (bV (wpAny_loadPart hx (bV ((looks_clsIn X hc).here ?_))))))
 refine aq hd' ?_
 refine fV (a:=ac dx) (bV (fV (bV (wpAny_nsSet1 (hm.eb hd) fun h' m4 sH=>?_))))
 refine aw fun kz=>?_
 obtain ⟨oD,esD,epD,hoD,hdD,hcD⟩:=m4.count (Within.cons name v hw)
 refine kz ?_;try clear kz
 refine bV (wpAny_lookBehind hoD (by refine aq hdD ?_;exact pastItsLine_dict (a5 hcD (a5 (jG hsz) (by decide)))) ?_)
 refine aw fun kz=>?_
 obtain ⟨Q8,e',BR⟩:=mh.eu m4
 refine kz ?_;try clear kz
 exact fV (q h' Q8 _ sH e' BR)
def N3(S:bZ W g σ s)(E:eN W g env sc aP ρ){nm:aI}{u:aH}{Q:aH→bz→Prop}(h:rJ env g.T nm (ac u))(q:Q u s):Wp W A (loadName env nm) Q s:=by
 induction h with
 |az hk o m e hm hv=>exact aaD E.cx hk (hm.eb (S.iQ _ _ e)) hv q
 |js hk hn c o hc e hd=>
  rcases hk with hk|hk
  ·exact aaE E.cx hk hc ⟨o,S.iQ _ _ e,hd⟩ q
  ·exact aaF E.cx hk hc ⟨o,S.iQ _ _ e,hd⟩ q hn
def WR(hP:∀e,eW W d C e){x dx:be}{c:af}{k:nP}(CO:mC W c k)(Q9:W.K.In W.ea)(hdf:¬bM env dx)(hxd:x≠dx)(hsz:k.cu.length≤1000):∀{fs:ao (aI×a8)}{ss:ao cy},Ic W.T sc aP fs ss=ak→
  ∀{g:cZ}{σ:an}{s:bz}{m:aI→aM aH}{od:dF}{K:ao aC→an→Prop},At W d A g σ s env sc aP ρ→(∀nm,(0,nm)∈aP→rJ env g.T nm (ac (.ref x)))→g.T x=ac (mw (W.eK c) dx)→g.T dx=ac od→mh od m→Within m k.cu→
  (fs.map (·.1)).Nodup→(∀nm∈fs.map (·.1),nm∈k.cu)→Mr ⟨W.T,C⟩ fs ρ σ K→Wp W A (execs ss env) (fun f s'=>f=.next∧ahO W g dx m (fs.map (·.1)) K s') s:=by
 intro fs
 induction fs with
 |nil=>
  intro ss hm g σ s m od K h _ _ hd BR _ _ _ q
  exact jr (P:=fun ss=>Wp W A (execs ss env) _ s) hm (Hl ⟨ag,[],[],σ,g,od,m,.bc _,h.S,hd,BR,ag,ag,fun q9 q9=>ag,fun j nm v a b=>eU a,q⟩)
 |cons p r ih=>
  intro ss hm g σ s m od K h ahP hx hd BR hw hn afH q
  obtain ⟨n1,n2⟩:=Ax.mp hn
  have hfk:=afH p.1 (fF ..)
  refine du (P:=fun ss=>Wp W A (execs ss env) _ s) hm fun x1 ss hm=>gu hm fun hm1 hm2=>aaO ?_
  refine oe (P:=fun x1=>Wp W A (gB x1 env) _ s) hm1 fun ts v pos h2=>ud (P:=fun ts=>Wp W A (gB (.Assign ts v pos) env) _ s) h2 fun t h2=>tR (P:=fun t=>Wp W A (gB (.Assign [t] v pos) env) _ s) h2 fun o a p1 h2=>nL (P:=fun o=>Wp W A (gB (.Assign [.Attribute o a p1] v pos) env) _ s) h2 fun nm p2 h2=>Iv h2 fun h3 h4 h5 h6 h7=>?_
  obtain rfl:=cz h6
  refine LY (((hP p.2 h7 h).dC _ q).vp fun u s₁ m₁ cJ bT l₁ cf bv bX=>?_) (G0 (d5 h5) _ _) ag
  show Wp W A (n6 (.Attribute (.Name nm p2) p.1 p1) env u) _ s₁
  rw [arm_assign_Attribute]
  have h₁:=h.aS l₁ bv
  have hT:∀a,bT.T a=g.T a:=fun a=>l₁.T a fun z=>z
  have y8:∀nm,(0,nm)∈aP→rJ env bT.T nm (ac (.ref x)):=fun nm z=>(ahP nm z).GU fun a q9=>hT a
  have x1:=(hT x).trans hx
  have d1:=(hT dx).trans hd
  refine bV (jI (wpAny_Name (N3 bv h₁.E (y8 nm (vi.mp h3)) (bV (mN (bV (jI ?_))))) (d5 h4)))
  refine Q7 (W:=W) (ns:=k.cu) (Q9.keeps fun b o e=>bv.m9 e) (bv.iQ _ _ x1) (bv.iQ _ _ d1) BR CO.bk (CO.cu _ hfk) CO.FW CO.Y8 hw hsz fun h' Q8 tk sH e' ajj=>L3 ?_
  have tc:∀a,bM env a→(bT.T.dB dx Q8) a=bT.T a:=fun a ha=>cr.fc _ _ fun z=>hdf (z▸ha)
  have hw':Within (fun y=>if y=p.1 then ac u else m y) k.cu:=fun y hy=>by
   by_cases e:y=p.1
   ·refine aq e ?_;exact hfk
   ·exact hw y fun z=>hy ((cL e).trans z)
  refine (ih hm2 (⟨h.a,bv.Xd (tk:=tk) d1 sH e',h₁.E.off hdf Q8⟩:At W d A ⟨bT.F,bT.T.dB dx Q8,bT.α⟩ cJ _ env sc aP ρ) (fun nm z=>(y8 nm z).GU tc) ((cr.fc _ _ hxd).trans x1) (cr.d9 _ _ _) ajj hw' n2 (fun nm z=>afH nm (jf _ z)) bX).bu fun fl qq jF=>?_
  refine aw fun kz=>?_
  obtain ⟨hfl,ms,us,MX,te,ahQ,afw,l₃,pW,ajk,ahR,QG,ahS,acn,ahT,oG⟩:=jF
  refine kz ?_;try clear kz
  have l₂:Le (fun a=>a=dx) bT ⟨bT.F,bT.T.dB dx Q8,bT.α⟩:=⟨nI.bc _,lK _,fun a n=>cr.fc _ _ n⟩
  refine ⟨hfl,m₁::ms,u::us,MX,te,ahQ,afw,l₁.zO.aX (l₂.aX l₃),pW,ajk,ahR,⟨u,us,ag,cf.bu (l₂.aX l₃),QG⟩,a7 tr ahS,fun nm z=>?_,fun j nm v a b=>?_,oG⟩
  ·obtain ⟨z1,z2⟩:=DS.mp (mt eH.mpr z)
   exact (acn nm z2).trans (cL z1)
  ·induction j with
   |zero=>
    (refine iu (cp a) ?_;refine iu (cp b) ?_)
    exact (acn _ n1).trans (bD ag)
   |succ j=>exact ahT j nm v a b
end
end
section
open PySem PySem.W PySem.Spec PyProof.Rows PySem.Calls SeqAt
set_option backward.match.sparseCases true
def Gu(W:Wd)(k:af)(I:cH)(fs:ao (aI×a8)):Prop:=∃o fd body aP,qr W k I o fd body∧jv fd.params (I.aY.take (I.aQ+1))∧iM fd.scope.names I.aY (I.aQ+1) aP∧I.aY.length=I.aQ+1∧Ic W.T fd.scope.names aP fs body=ak
section
variable{W:Wd}{A:dD}{d:af}{C:bw}{g g':cZ}{σ:an}{s:bz}{env:cB}{sc:Sc}{aP:fH}{ρ:bJ}{vals:ao aH}{Q:KE}
def ZA{c:af}{Cl:nP}(hk:W.T.e6[c]? =ac Cl){own:be→Prop}{x dx:be}{od:dF}{m':aI→aM aH}{ms:ao aC}{us:ao aH}{n:af}{fz:av}(new:∀a,own a→g.T a=au)(l:Le own g g')(S:bZ W g' σ s)(zU:∀a,own a→∃o,g'.T a=ac o)(hx:own x)(hd:own dx)(ne:x≠dx)
  (X1:g'.T x=ac (mw (W.eK c) dx)) (D1:g'.T dx=ac od) (hns:kL od m') (r:dI W g' ms us) (hl:ms.length=Cl.cu.length) (no:∀nm,nm∉Cl.cu→m' nm=au) (at_:∀(j:af)(nm:aI)(v:aH),Cl.cu[j]? =ac nm→us[j]? =ac v→m' nm=ac v) (hn:g.α.length=n) (k:acE fz c n Q ms σ):VP W g Q (.ref x) s:=by
 have bv:=S.iY own s.toks zU fun q9 q9 q9 e=>e
 have l₁:=pp (fr:=fun q9=>dj) new (l.up fun q9=>.inl)
 have oD:=S.um D1
 have oX:=S.um X1
 refine aw fun kz=>?_
 obtain ⟨dU,l₂⟩:=bv.yW (S.iQ _ _ D1) oD.1 (sF hd) fun i hi=>bW (gM hi) oD.2
 obtain ⟨pW,l₃⟩:=dU.yW (S.iQ _ _ X1) ((cr.fc _ _ ne).trans oX.1) (sF hx) fun i hi=>bW (gM hi) oX.2
 refine kz ?_;try clear kz
 have I:AI W ((g'.F.dB dx od).dB x (mw (W.eK c) dx)) x c Cl us:=⟨hk,dx,od,m',cr.d9 _ _ _,(cr.fc _ _ ne.symm).trans (cr.d9 _ _ _),hns,at_,no⟩
 have le:=l₁.aX (l₂.aX l₃)
 have rr:dI W ⟨(g'.F.dB dx od).dB x (mw (W.eK c) dx),(g'.F.dB dx od).dB x (mw (W.eK c) dx),g'.α⟩ ms us:=r.bu (fr:=fun q9=>kD) (g:=g') (g':=⟨(g'.F.dB dx od).dB x (mw (W.eK c) dx),(g'.F.dB dx od).dB x (mw (W.eK c) dx),g'.α⟩) ⟨(l₂.aX l₃).F,lK _,fun q9 z=>(z di).elim⟩
 induction fz with
 |true=>
  refine aw fun kz=>?_
  obtain ⟨ys,ry,k⟩:=rr.zo k
  obtain ⟨q8,nF⟩:=pW.AS le hn
  refine kz ?_;try clear kz
  exact ⟨.f (.ic c ys),_,_,nF,⟨x,Cl,us,ag,I,ry.bh.symm.trans (rr.bh.trans hl),ry⟩,q8,k⟩
 |false=>
  obtain ⟨q8,nF⟩:=pW.Lc (mo:=.lM c ms) oX.2 (sF hx) ⟨_,S.iQ _ _ X1⟩ ⟨Cl,us,I,hl,rr⟩
  exact ⟨.fN σ.length,_,_,le.aX nF,⟨x,ag,by refine iu S.bh ?_;exact Z1⟩,q8,k⟩
def WS{A A':dD}{d:af}(hA:BQ A (d+1))(h1:A'.handled=A.handled)(h2:A'.depth=A.depth+1)(h3:A'.units≤A.units+4)(env:cB):A'.depth<D3∧BQ (A'.deeper env) d:=by
 have a1:=hA.gA
 have a2:=hA.cQ
 have a3:=hA.GR
 exact ⟨Uu h2 a2,h1.trans a1,N8 h2 a2,N7 h3 a3⟩
def ZB{c:af}{Cl:nP}{I:cH}{fs:ao (aI×a8)}(hW:l9 W)(hN:W.ea.NoLimit)(hk:W.T.e6[c]? =ac Cl)(hI:Gu W Cl.gW I fs)(hP:∀e,eW W d C e)(hA:BQ A (d+1))(S:bZ W g σ s){args:ao aC}(r:dI W g args vals)(ha:args.length=I.aQ)(hfs:fs.map (·.1)=Cl.cu)(hsz:Cl.cu.length≤1000)
  (q:aff ⟨W.T,C⟩ Cl c fs args σ Q):Wp W A (gH (.ref (W.eK c)) vals) (VP W g Q) s:=by
 refine aw fun kz=>?_
 obtain ⟨o,fd,body,aP,X,P,hf,hnl,hm⟩:=hI
 refine kz ?_;try clear kz
 have CO:=hW.e6 c Cl hk
 have Q9:=S.Ld hW
 have q:=CI q
 refine wpAny_call ?_
 refine aw fun kz=>?_
 obtain ⟨hh,gn,dr,t,os⟩:=s
 refine kz ?_;try clear kz
 refine make_core (makes_of Q9 CO.ahb) (looks_findIn Q9 CO.gW) (fun self=>bind_fn Q9 self CO.ael) (.inl ag) ?_
 have lo:=c9 hh.objs.size
 have ne:(hh.objs.size+1:af)≠hh.objs.size:=Nat.succ_ne_self _
 have sz:((hh.push yz).objs.size:af)=hh.objs.size+1:=Mf ..
 have bv:=S.Ix (o:=yz) ag
 have dU:=bv.A2 (a:=hh.objs.size+1) (o:=mw (W.eK c) hh.objs.size) (h':=(hh.push yz).push (mw (W.eK c) hh.objs.size)) t (fun q9 q9 e=>ql _ e) (sz▸rN _ ag) (lm sz)
 have Td:g.T hh.objs.size=au:=S.sZ lo
 have Tx:g.T (hh.objs.size+1)=au:=S.sZ (fQ _)
 have T2d:((g.T.dB hh.objs.size yz).dB (hh.objs.size+1) (mw (W.eK c) hh.objs.size)) hh.objs.size=ac yz:=(cr.fc _ _ ne.symm).trans (cr.d9 _ _ _)
 have T2x:((g.T.dB hh.objs.size yz).dB (hh.objs.size+1) (mw (W.eK c) hh.objs.size)) (hh.objs.size+1)=ac (mw (W.eK c) hh.objs.size):=cr.d9 _ _ _
 have l₂:Le (fun a=>a=hh.objs.size∨a=hh.objs.size+1) g ⟨g.F,(g.T.dB hh.objs.size yz).dB (hh.objs.size+1) (mw (W.eK c) hh.objs.size),g.α⟩:=⟨nI.bc _,lK _,fun a n=>(cr.fc _ _ fun z=>n (.inr z)).trans (cr.fc _ _ fun z=>n (.inl z))⟩
 have hd:∀env,(A.under (.builtin "type.__call__" ⟨.ref (W.eK c)::vals,[]⟩)).depth<D3∧BQ ((A.under (.builtin "type.__call__" ⟨.ref (W.eK c)::vals,[]⟩)).deeper env) d:=fun env=>WS (A':=A.under (.builtin "type.__call__" ⟨.ref (W.eK c)::vals,[]⟩)) hA ag ag (kN (show (PySem.Code.builtin "type.__call__" ⟨.ref (W.eK c)::vals,[]⟩).cUnits≤4 from (by decide:1≤4)) _) env
 have q:Mr ⟨W.T,C⟩ fs ((au::args.map ac)++mJ (I.aY.length-(I.aQ+1)) au) σ (acE Cl.dZ c σ.length Q):=by (refine aq hnl ?_;rw [nZ]);exact q
 generalize hh.objs.size=dx at*
 refine Gs hN (hd default).1 X P hf dU (vals:=.ref (dx+1)::vals) (za:=au::args.map ac) (a7 tr (by rw [b9];exact r.bh)) (fun i v m h1 h2=>?_) (a7 tr (r.bh.trans ha)) fun env bT s₁ N=>?_
 ·induction i with
  |zero=>cases h2
  |succ i=>exact (r.sj i v m h1 h2).bu l₂
 have nd:¬bM env dx:=fun z=>by
  have:=T2d.symm.trans (N.pQ dx z)
  exact bn this.symm
 have nx:¬bM env (dx+1):=fun z=>by
  have:=T2x.symm.trans (N.pQ _ z)
  exact bn this.symm
 refine (WR hP CO hW.Ld nd ne hsz hm ⟨(hd env).2,N.S,N.E⟩ (fun nm z=>N.pV _ z _ ag) ((N.gP.T _ nx).trans T2x) ((N.gP.T _ nd).trans T2d) mh.ahN (fun y hy=>bW ag hy) (hfs▸CO.tP) (fun nm z=>hfs▸z) q).bu fun f df jF=>?_
 refine aw fun kz=>?_
 obtain ⟨hf,ms,us,bS,g',od,m',l₃,pW,D1,ns,rr,hl,no,at_,k⟩:=jF
 refine kz ?_;try clear kz
 subst hf
 have X1:g'.T (dx+1)=ac (mw (W.eK c) dx):=(l₃.T _ ne).trans ((N.gP.T _ nx).trans T2x)
 have Gi:=N.E.bu l₃ fun a z=>z▸nd
 rw [hfs] at hl no at_
 exact ⟨ag,ZA (own:=fun a=>bM env a∨a=dx∨a=dx+1) hk (fun a z=>z.elim (fun z=>(l₂.T a fun y=>y.elim (fun y=>nd (y▸z)) fun y=>nx (y▸z)).symm.trans (N.pQ a z)) fun z=>z.elim (fun z=>z▸Td) fun z=>z▸Tx) ((l₂.up fun q9=>.inr).aX ((N.gP.up fun q9=>.inl).aX (l₃.up fun q9 z=>.inr (.inl z)))) pW
  (fun a z=>z.elim (fun z=>z.elim (fun e=>let ⟨o,y,_⟩:=Gi.OU;⟨o,e▸y⟩) fun ⟨n,h⟩=>Gi.Jz n a h) fun z=>z.elim (fun z=>⟨_,z▸D1⟩) fun z=>⟨_,z▸X1⟩) (.inr (.inr ag)) (.inr (.inl ag)) ne X1 D1 ns.Xh rr hl no at_ S.bh k⟩
end
def tT(W:Wd):Prop:=(l9 W)∧(W.Da=tQ)∧(W.ea.NoLimit)∧(∀(k:af)(I:cH)(b:bK),W.T.tZ[k]? =ac I→I.bA=.bf b→Xi W k I b)∧(∀k,(W.T.tZ[k]?).isSome=ak→oP W.K (.ref (W.lJ k))=ak)∧(∀k,(W.T.tZ[k]?).isSome=ak→lx k 1000=ak)∧(∀(c:af)(k:nP),W.T.e6[c]? =ac k→∀p∈k.mU,oP W.K (.ref (W.lJ p.2))=ak)∧(∀(c:af)(Cl:nP)(I:cH)(fs:ao (aI×a8)),W.T.e6[c]? =ac Cl→W.T.tZ[Cl.gW]? =ac I→I.bA=.xL c fs→Gu W Cl.gW I fs∧Cl.cu.length≤1000)
section
variable{W:Wd}(s0:tT W)
include s0
def tT.bm:l9 W:=s0.1
def tT.bi:W.Da=tQ:=s0.2.1
def tT.O8:W.ea.NoLimit:=s0.2.2.1
def tT.tZ:∀(k:af)(I:cH)(b:bK),W.T.tZ[k]? =ac I→I.bA=.bf b→Xi W k I b:=s0.2.2.2.1
def tT.bF:∀k,(W.T.tZ[k]?).isSome=ak→oP W.K (.ref (W.lJ k))=ak:=s0.2.2.2.2.1
def tT.HZ:∀k,(W.T.tZ[k]?).isSome=ak→lx k 1000=ak:=s0.2.2.2.2.2.1
def tT.S5:∀(c:af)(k:nP),W.T.e6[c]? =ac k→∀p∈k.mU,oP W.K (.ref (W.lJ p.2))=ak:=s0.2.2.2.2.2.2.1
def tT.ahU:∀(c:af)(Cl:nP)(I:cH)(fs:ao (aI×a8)),W.T.e6[c]? =ac Cl→W.T.tZ[Cl.gW]? =ac I→I.bA=.xL c fs→Gu W Cl.gW I fs∧Cl.cu.length≤1000:=s0.2.2.2.2.2.2.2
end
def WT{W:Wd}(hT:tT W):∀d,GV W d (vC W.T d):=by
 intro d
 induction d with
 |zero=>
  exact fun k args σ Q h=>h.elim
 |succ d ih=>
  exact fun k args σ Q h g s vs A hA S r=>by
   have X:Ez W d (vC W.T d):=⟨hT.bm,hT.bi,hT.bF,hT.HZ,hT.S5,ih⟩
   have h:tI (lx k 1000) _ _:=h
   unfold sE
   cases hk:lx k 1000 with
   |true=>
    rw [hk] at h
    refine aw fun kz=>?_
    obtain ⟨I,hI,h⟩:=fk h
    refine kz ?_;try clear kz
    cases hb:I.bA with
    |xL c fs=>rw [hb] at h;exact h.elim
    |bf b=>
    rw [hb] at h
    refine aw fun kz=>?_
    obtain ⟨as,hp,h⟩:=fk h
    refine kz ?_;try clear kz
    exact Zz hT.O8 (hT.tZ k I b hI hb) (ajg X b) hA S r hp h
   |false=>
    rw [hk] at h
    generalize k-1000=kc at h⊢
    refine aw fun kz=>?_
    obtain ⟨Cl,hC,h⟩:=fk h
    obtain ⟨I,hI,h⟩:=fk h
    refine kz ?_;try clear kz
    cases hb:I.bA with
    |bf b=>rw [hb] at h;exact h.elim
    |xL c fs=>
    rw [hb] at h
    refine aw fun kz=>?_
    obtain ⟨hd,h5⟩:=uX h
    obtain ⟨e,ha,hf⟩:=eX hd
    subst e
    obtain ⟨hc,hz⟩:=hT.ahU _ Cl I fs hC hI hb
    refine kz ?_;try clear kz
    exact ZB hT.bm hT.O8 hC hc (BX X) hA S r ha hf hz h5
def cN{l:ao av}(h:l.all id=ak)(i:af){b:av}(e:l[i]? =ac b):b=ak:=ow.mp h b (gM e)
structure ue where
 fn:ao be
 sk:ao be
 mQ:ao be
 dK:ao be
noncomputable def ue.lJ(L:ue)(k:af):be:=if k<900 then L.fn.getD k 0 else L.sk.getD (k-900) 0
noncomputable def ue.eK(L:ue)(c:af):be:=L.mQ.getD c 0
noncomputable def ue.m7(L:ue)(d:af):be:=L.dK.getD d 0
def uo(prog:wy)(w:yv)(K:ib)(h:dW)(os:Ho)(T:vk)(L:ue):Wd:=⟨prog,w,K,h,os,T,L.lJ,L.eK,L.m7,tQ⟩
noncomputable def ajl:(v:aH)→aM {p:aN×mO // v=.int p.1 p.2}
 |.int i t=>ac ⟨(i,t),ag⟩
 |_=>au
noncomputable def Xj:(v:aH)→aM {p:aI×mO // v=.str p.1 p.2}
 |.str i t=>ac ⟨(i,t),ag⟩
 |_=>au
noncomputable def ajm:(v:aH)→aM {a:be // v=.ref a}
 |.ref a=>ac ⟨a,ag⟩
 |_=>au
noncomputable def ac4:(d:Data)→aM {p:kC aH×af // d=.seq p.1 p.2}
 |.seq vs n=>ac ⟨(vs,n),ag⟩
 |_=>au
noncomputable def aco:(d:Data)→aM {p:kC qK×af // d=.dict p.1 p.2}
 |.dict vs n=>ac ⟨(vs,n),ag⟩
 |_=>au
noncomputable def ahV:(d:Data)→aM {f:qM // d=.func f}
 |.func f=>ac ⟨f,ag⟩
 |_=>au
noncomputable def ae6:(b:FuncBody)→aM {s:ao cy // b=.stmts s}
 |.stmts s=>ac ⟨s,ag⟩
 |_=>au
noncomputable def S9(o:dF)(ty:pC):av:=o.cls== .type ty&&o.dict.isNone&&o.slots.toList.isEmpty
def O9{o:dF}{ty:pC}(h:S9 o ty=ak):o={cls:=.type ty,data:=o.data}:=iG h fun h1 h2 h3=>by
 refine aw fun kz=>?_
 obtain ⟨c,d,da,⟨sl⟩⟩:=o
 obtain rfl:c=.type ty:=cz h1
 obtain rfl:d=au:=G1.mp h2
 obtain rfl:sl=[] :=o4.mp h3
 refine kz ?_;try clear kz
 rfl
def Xk(K:ib)(v:aH)(f:be→dF→av):av:=(ajm v).any fun a=>(K.lookup a.1).any (f a.1)
def ac5(K:ib)(ty:pC)(v:aH)(f:ao aH→av):av:=Xk K v fun q9 o=>S9 o ty&&(ac4 o.data).any fun p=>f p.1.1.toList
mutual
def Ra(K:ib)(L:ue):am→aH→av
 |.aA,v=>v== .none
 |.aG b,v=>v== .bool b
 |.ae i,v=>(ajl v).any fun p=>p.1.1==i
 |.ah x,v=>(Xj v).any fun p=>p.1.1==x
 |.bE xs,v=>ac5 K "tuple" v (Ew K L xs)
 |.al xs,v=>ac5 K "list" v (Ew K L xs)
 |.ic _ _,_=>aF
 |.fn k,v=>v== .ref (L.lJ k)
 |.mQ c,v=>v== .ref (L.eK c)
 |.bi k,v=>v==tQ k
 |.rx d,v=>v== .ref (L.m7 d)
def Ew(K:ib)(L:ue):ao am→ao aH→av
 |[],vs=>vs.isEmpty
 |x::xs,vs=>fS vs fun v vs=>Ra K L x v&&Ew K L xs vs
end
section
variable{prog:wy}{w:yv}{K:ib}{h:dW}{os:Ho}{T:vk}{L:ue}
def Uo{v:aH}{f:be→dF→av}{G:aH→Prop}(e:Xk K v f=ak)(k:∀a o,K.lookup a=ac o→f a o=ak→G (.ref a)):G v:=
 dt (G:=G v) e fun a q e=>by obtain ⟨o,h1,h2⟩:=kZ e;exact q▸k a o h1 h2
def Up(X:K.In h){ty:pC}{v:aH}{f:ao aH→av}(e:ac5 K ty v f=ak):∃a vs n,v=.ref a∧h.get? a=ac (cw ty vs n)∧f vs=ak:=
 Uo (G:=fun v=>∃a vs n,v=.ref a∧h.get? a=ac (cw ty vs n)∧f vs=ak) e fun a o ho e=>gu e fun e1 e2=>dt e2 fun p q e=>by
  refine ⟨a,p.1.toList,p.2,ag,(X a o ho).trans (a7 ac ((O9 e1).trans ?_)),e⟩
  refine aq q ?_;rfl
mutual
def Bi(X:K.In h):∀(x:am){v:aH},Ra K L x v=ak→iE (uo prog w K h os T L) h.get? x v
 |.aA,_,e=>cz e
 |.aG b,_,e=>cz e
 |.ae i,_,e=>dt (G:=iE (uo prog w K h os T L) h.get? (.ae i) _) e fun p q e=>⟨p.2,cz e▸q⟩
 |.ah i,_,e=>dt (G:=iE (uo prog w K h os T L) h.get? (.ah i) _) e fun p q e=>⟨p.2,cz e▸q⟩
 |.bE xs,_,e=>by obtain ⟨a,vs,n,e1,e2,e3⟩:=Up X e;exact ⟨a,vs,n,e1,e2,yg X xs e3⟩
 |.al xs,_,e=>by obtain ⟨a,vs,n,e1,e2,e3⟩:=Up X e;exact ⟨a,vs,n,e1,e2,yg X xs e3⟩
 |.ic _ _,_,e=>cG e
 |.fn _,_,e=>cz e
 |.mQ _,_,e=>cz e
 |.bi _,_,e=>cz e
 |.rx _,_,e=>cz e
def yg(X:K.In h):∀(xs:ao am){vs:ao aH},Ew K L xs vs=ak→cI (uo prog w K h os T L) h.get? xs vs
 |[],_,e=>o4.mp e
 |x::xs,_,e=>du (P:=fun vs=>cI (uo prog w K h os T L) h.get? (x::xs) vs) e fun v vs e=>gu e fun e1 e2=>⟨v,vs,ag,Bi X x e1,yg X xs e2⟩
end
def ae7(e:qK):av:=(Xj e.key).isSome
def nsK(K:ib)(a:be):aM (kC qK):=(K.lookup a).bind fun o=>(aco o.data).bind fun p=>if p.1.1.toList.all ae7 then ac p.1.1 else au
def Uq(X:K.In h){a:be}{es:kC qK}(e:nsK K a=ac es):h.Ns a (fun x=>yq es x):=by
 refine aw fun kz=>?_
 obtain ⟨o,ho,e⟩:=bo e
 obtain ⟨⟨p,q⟩,_,e⟩:=bo e
 obtain ⟨c,e⟩:=d4 e
 obtain rfl:=cp e
 refine kz ?_;try clear kz
 refine ⟨o,p.1,p.2,X _ _ ho,q,fun d hd=>?_,fun q9=>ag⟩
 obtain ⟨z,_⟩:=nM (ow.mp c d (aa9.mpr hd))
 exact ⟨_,_,z.2⟩
def acp(K:ib)(L:ue)(es:kC qK)(p:aI×am):av:=(yq es p.1).elim ((Sb p.1).any fun u=>Ra K L p.2 u&& !(p.1==("__name__":aI))) (Ra K L p.2)
noncomputable def ahW(es:kC qK)(nm:pC):av:=yq es (mP nm)==au&&Sb (mP nm)==ac (.type nm)&& !(mP nm==("__name__":aI))
def acq(K:ib)(L:ue)(c:af)(k:nP)(p:aI×af):av:=[kF K (.ref (L.eK c)) p.1==ac (ac (.ref (L.lJ p.2))),!k.cu.contains p.1,Ed K (.ref (L.lJ p.2))==ac (.type "function"),dc (p.2<1000),oP K (.ref (L.lJ p.2))].all id
def afI(K:ib)(L:ue)(c:af)(k:nP):av:=
 [kF K (.ref (L.eK c)) "__getattribute__"==ac (ac (.builtin "object.__getattribute__")),kF K (.ref (L.eK c)) "__getattr__"==ac au,Mi K (L.eK c),k.cu.all fun nm=>kF K (.ref (L.eK c)) nm==ac au,
 kF K (.ref (L.eK c)) "__setattr__"==ac (ac (.builtin "object.__setattr__")),Mj K (L.eK c),makesIn K (L.eK c),kF K (.ref (L.eK c)) "__init__"==ac (ac (.ref (L.lJ k.gW))),Ed K (.ref (L.lJ k.gW))==ac (.type "function"),
 k.mU.all (acq K L c k),oP K (.ref (L.eK c)),dc k.cu.Nodup,dc (k.cu.length≤1000)].all id
def ZC{c:af}{k:nP}(e:afI K L c k=ak):mC (uo prog w K h os T L) c k:=by
 have m:∀p∈k.mU,acq K L c k p=ak:=fun p hp=>ow.mp (cN e 9 ag) p hp
 exact ⟨cz (cN e 0 ag),cz (cN e 1 ag),cN e 2 ag,fun nm hn=>cz (ow.mp (cN e 3 ag) nm hn),cz (cN e 4 ag),cN e 5 ag,cN e 6 ag,cz (cN e 7 ag),cz (cN e 8 ag),
  fun p hp=>⟨cz (cN (m p hp) 0 ag),fun z=>mI ((d5 (cN (m p hp) 1 ag)).symm.trans (vi.mpr z)),cz (cN (m p hp) 2 ag)⟩,fun p hp=>eX (cN (m p hp) 3 ag),cN e 10 ag,eX (cN e 11 ag)⟩
end
def M5(K:ib)(a:be):aM (kC qK):=(K.lookup a).bind fun o=>if S9 o "dict"=ak then (aco o.data).map fun p=>p.1.1 else au
def Xl(K:ib)(L:ue):ao qK→ao (aI×am)→av
 |[],ps=>ps.isEmpty
 |e::es,ps=>fS ps fun p ps=>(Xj e.key).any (fun q=>q.1.1==p.1)&&Ra K L p.2 e.val&&Xl K L es ps
def acr(v:aH):aI:=(Xj v).elim ⟨#[]⟩ fun p=>p.1.1
def HashOk(P:yu)(es:ao qK):Prop:=es.map (·.hash)=es.map fun e=>abj P (acr e.key)
def ae8(K:ib)(L:ue)(d:af)(ps:ao (aI×am)):av:=(M5 K (L.m7 d)).any fun es=>Xl K L es.toList ps&& !(L.m7 d==uK)
def entsOf(K:ib)(a:be):ao qK:=(M5 K a).elim [] Ss
section
variable{prog:wy}{w:yv}{K:ib}{h:dW}{os:Ho}{T:vk}{L:ue}
def WU{a:be}{es:kC qK}(e:M5 K a=ac es):∃n,K.lookup a=ac ⟨.type "dict",au,.dict es n,#[]⟩:=by
 refine aw fun kz=>?_
 obtain ⟨o,ho,e⟩:=bo e
 obtain ⟨c,e⟩:=d4 e
 obtain ⟨⟨p,q⟩,_,e⟩:=cK e
 refine kz ?_;try clear kz
 have q:o.data=.dict es p.2:=e▸q
 exact ⟨p.2,ho.trans (a7 ac ((O9 c).trans (by (refine aq q ?_;rfl))))⟩
def N4{P:yu}:∀{es:ao qK}{ps:ao (aI×am)},Xl K L es ps=ak→HashOk P es→KeysLit P es:=by
 intro es
 induction es with
 |nil=>
  intro _ _ _
  exact di
 |cons e es ih=>
  intro ps h hh
  obtain ⟨h1,h2⟩:=Ml hh
  refine du (P:=fun q9=>KeysLit P (e::es)) h fun p ps h=>iG h fun a q9 c=>dt a fun q z q9=>⟨⟨q.1,q.2,z,h1.trans ?_⟩,ih c h2⟩
  show abj P (acr e.key)=_
  refine aq z ?_;rfl
def WV(X:K.In h)(x:aI):∀{es:ao qK}{ps:ao (aI×am)},Xl K L es ps=ak→
  (ps.lookup x=au→(es.find? fun e=>Ef x e.key).map (·.val)=au)∧∀y,ps.lookup x=ac y→∃v,(es.find? fun e=>Ef x e.key).map (·.val)=ac v∧iE (uo prog w K h os T L) h.get? y v:=by
 intro es
 induction es with
 |nil=>
  intro ps e
  refine aq (o4.mp e) ?_
  exact ⟨fun q9=>ag,fun y z=>eU z⟩
 |cons e es ih=>
  intro ps hh
  exact du (P:=fun ps=>(ps.lookup x=au→((e::es).find? fun e=>Ef x e.key).map (·.val)=au)∧∀y,ps.lookup x=ac y→∃v,((e::es).find? fun e=>Ef x e.key).map (·.val)=ac v∧iE (uo prog w K h os T L) h.get? y v) hh fun p ps hh=>iG hh fun h1 h2 h3=>dt h1 fun q z h1=>by
   obtain ⟨i1,i2⟩:=ih h3
   have e1:Ef x e.key=(x==p.1):=by (refine aq z ?_;refine iu (cz h1) ?_);exact Sw
   (refine aq Hi ?_;rewrite [ym];refine aq e1 ?_)
   cases x==p.1 with
   |true=>exact ⟨fun z=>eU z.symm,fun y z=>⟨e.val,ag,cp z▸Bi X _ h2⟩⟩
   |false=>exact ⟨i1,i2⟩
end
def afJ(K:ib)(a:be)(f:qM→ao cy→av):av:=(K.lookup a).any fun o=>(ahV o.data).any fun fd=>(ae6 fd.1.body).any fun b=>[!fd.1.scope.isCoroutine,!fd.1.scope.isGenerator,fd.1.scope.kind== .function,fd.1.closure.isEmpty,dc (fd.1.globals=tx),dc (fd.1.builtins=uL),codeIn K fd.1.code fd.1.qualname,f fd.1 b.1].all id
def Ta(K:ib)(L:ue)(v:aH)(ds:ao am):av:=cE (v== .none) ds.isEmpty (Xk K v fun q9 o=>(ac4 o.data).any fun p=>ds.isEmpty||Ew K L ds p.1.1.toList)
noncomputable def Pa(p:Sk)(names:ao aI):av:=[p.posonlyargs.isEmpty,p.vararg.isNone,p.kwonlyargs.isEmpty,p.kwarg.isNone,dc (p.args.map (·.arg)=names),dc names.Nodup].all id
noncomputable def Bj(sc:Sc)(n:aI):av:=sc.lookup n==ac .local||(sc.lookup n==ac .cell&& !(n==("__classdict__":aI)))
def wV(sc:Sc)(names:ao aI):fH:=(names.zipIdx.filter fun p=>names.idxOf p.1==p.2&&Bj sc p.1).map fun p=>(p.2,p.1)
def Ur(sc:Sc)(names:ao aI)(np:af):av:=[dc (names.take np).Nodup,dc (np≤names.length),(names.take np).all (Bj sc),dc ((wV sc names).map (·.1)).Nodup,dc ((wV sc names).map (·.2)).Nodup].all id
noncomputable def ae9(I:cH):av:=I.bR.isEmpty||decide (I.aQ=2∧I.bR.length=1∧I.aY.take 2=[("code":aI),("outer":aI)])
def ac6(K:ib)(L:ue)(I:cH)(np:af)(fd:qM)(b:av):av:=[Ta K L fd.defaults I.bR,ae9 I,Pa fd.params (I.aY.take np),Ur fd.scope.names I.aY np,b].all id
def ahX(K:ib)(T:vk)(L:ue)(I:cH):abp→qM→ao cy→av
 |.bf b,fd,body=>ac6 K L I I.aQ fd (BW T fd.scope.names (wV fd.scope.names I.aY) b body)
 |.xL _ fs,fd,body=>ac6 K L I (I.aQ+1) fd (dc (I.aY.length=I.aQ+1)&&Ic T fd.scope.names (wV fd.scope.names I.aY) fs body)
def fnK(K:ib)(T:vk)(L:ue)(k:af)(I:cH):av:=oP K (.ref (L.lJ k))&&afJ K (L.lJ k) (ahX K T L I I.bA)
noncomputable def Ex{β:Type}(f:af→β→av):af→ao β→av
 |_,[] =>ak
 |k,x::xs=>f k x&&Ex f (k+1) xs
noncomputable def ajn(K:ib)(a:be):av:=(K.lookup a).isSome&&dc (uK<a)
def ac7(K:ib)(T:vk)(L:ue):av:=[(nsK K tx).any fun es=>T.tH.all (acp K L es)&& ["range","enumerate","zip"].all (ahW es),Ex (afI K L) 0 T.e6,Ex (ae8 K L) 0 T.n7,Ex (fnK K T L) 0 T.tZ,ajn K (L.lJ 0),dc (T.tZ.length≤1000)].all id
section
variable{prog:wy}{w:yv}{K:ib}{h:dW}{os:Ho}{T:vk}{L:ue}
def Dj{sc:Sc}{n:aI}(h:Bj sc n=ak):sc.lookup n=ac .local∨(sc.lookup n=ac .cell∧(n==("__classdict__":aI))=aF):=
 (qS.mp h).imp cz fun h=>gu h fun a b=>⟨cz a,d5 b⟩
def Rb{sc:Sc}{names:ao aI}{np:af}(h:Ur sc names np=ak):iM sc names np (wV sc names):=by
 have mem:∀p∈wV sc names,names[p.1]? =ac p.2∧Bj sc p.2=ak:=fun p hp=>by
  obtain ⟨q,hq,rfl⟩:=iO.mp hp
  obtain ⟨hq,hc⟩:=o5.mp hq
  exact ⟨List.mem_zipIdx_iff_getElem?.mp hq,(gS hc).2⟩
 exact ⟨eX (cN h 3 ag),eX (cN h 4 ag),fun p hp=>(mem p hp).1,fun p hp=>Dj (mem p hp).2,fun n hn=>(Dj (ow.mp (cN h 2 ag) n hn)).imp id (·.1),eX (cN h 0 ag),eX (cN h 1 ag)⟩
def N5{p:Sk}{names:ao aI}(h:Pa p names=ak):jv p names:=
 ⟨o4.mp (cN h 0 ag),G1.mp (cN h 1 ag),o4.mp (cN h 2 ag),G1.mp (cN h 3 ag),eX (cN h 4 ag),eX (cN h 5 ag)⟩
def WW(X:K.In h){fd:qM}{ds:ao am}(e:Ta K L fd.defaults ds=ak):BY (uo prog w K h os T L) fd ds:=by
 unfold Ta at e
 unfold BY
 generalize fd.defaults=v at e⊢
 cases q:v== .none with
 |true=>
  rw [q] at e
  exact .inl ⟨cz q,o4.mp e⟩
 |false=>
  rw [q] at e
  have e:Xk K v (fun q9 o=>(ac4 o.data).any fun p=>ds.isEmpty||Ew K L ds p.1.1.toList)=ak:=e
  refine Uo (G:=fun v=>(v=.none∧ds=[])∨∃(a:be)(o:dF)(items:kC aH)(n:af),v=.ref a∧h.get? a=ac o∧o.data=.seq items n∧(ds≠ [] →cI (uo prog w K h os T L) h.get? ds items.toList)) e fun a o ho e=>dt e fun p q e=>.inr ⟨a,o,p.1,p.2,ag,X _ _ ho,q,fun hne=>?_⟩
  exact yg X _ ((qS.mp e).resolve_left fun z=>hne (o4.mp z))
def acs(X:K.In h){k:af}{I:cH}{f:qM→ao cy→av}{P:Prop}{np:af}{b:qM→ao cy→av}(hf:∀fd body,f fd body=ak→ac6 K L I np fd (b fd body)=ak)(e:afJ K (L.lJ k) f=ak)
  (g:∀o fd body,qr (uo prog w K h os T L) k I o fd body→jv fd.params (I.aY.take np)→iM fd.scope.names I.aY np (wV fd.scope.names I.aY)→b fd body=ak→P):P:=by
 obtain ⟨o,ho,e⟩:=kZ e
 refine dt e fun fd hd e=>dt e fun body hb e=>?_
 have c:=hf _ _ (cN e 7 ag)
 refine g o fd body ⟨X _ _ ho,hd,d5 (cN e 0 ag),d5 (cN e 1 ag),cz (cN e 2 ag),hb,o4.mp (cN e 3 ag),eX (cN e 4 ag),eX (cN e 5 ag),codeRec_of X (cN e 6 ag),WW X (cN c 0 ag),fun hne=>?_⟩ (N5 (cN c 2 ag)) (Rb (cN c 3 ag)) (cN c 4 ag)
 exact eX ((qS.mp (cN c 1 ag)).resolve_left fun z=>hne (o4.mp z))
def ahY(X:K.In h){k:af}{I:cH}{b:bK}(hb:I.bA=.bf b)(e:fnK K T L k I=ak):Xi (uo prog w K h os T L) k I b:=
 acs X (np:=I.aQ) (b:=fun fd body=>BW T fd.scope.names (wV fd.scope.names I.aY) b body) (fun fd body e=>by rw [hb] at e;exact e) (gS e).2 fun o fd body a b c d=>⟨o,fd,body,_,a,b,c,d⟩
def ahZ(X:K.In h){k c:af}{I:cH}{fs:ao (aI×a8)}(hb:I.bA=.xL c fs)(e:fnK K T L k I=ak):Gu (uo prog w K h os T L) k I fs:=
 acs X (np:=I.aQ+1) (b:=fun fd body=>dc (I.aY.length=I.aQ+1)&&Ic T fd.scope.names (wV fd.scope.names I.aY) fs body) (fun fd body e=>by rw [hb] at e;exact e) (gS e).2 fun o fd body a b c d=>gu d fun d1 d2=>⟨o,fd,body,_,a,b,c,eX d1,d2⟩
def Rc{β:Type}{f:af→β→av}:∀{l:ao β}{k i:af}{x:β},Ex f k l=ak→l[i]? =ac x→f (k+i) x=ak:=by
 intro l
 induction l with
 |nil=>
  intro _ i
  rcases i with _|_
  ·intro _ _ h
   exact eU h
  ·intro _ _ h
   exact eU h
 |cons y ys ih=>
  intro k i
  rcases i with _|i
  ·intro x e h
   exact cp h▸(gS e).1
  ·intro x e h
   exact DL k i▸ih (gS e).2 h
def wj{β:Type}{f:af→β→av}{l:ao β}{i:af}{x:β}(e:Ex f 0 l=ak)(h:l[i]? =ac x):f i x=ak:=nu i▸Rc e h
def Us{P:aH→Prop}[DecidablePred P](h:∀v∈F1,P v)(h0:P (.type "tuple"))(k:af):P (tQ k):=JD h h0 k
def Tb(P:yu)(K:ib)(L:ue)(T:vk):Prop:=∀d<T.n7.length,∀es,M5 K (L.m7 d)=ac es→HashOk P es.toList
def ZD(X:K.In h)(e:ac7 K T L=ak)(hh:Tb w.params K L T){mb:aI→aM aH}(hb:h.Ns uL mb)(hbb:∀x:aI,x≠"__name__"→mb x=Sb x)(hN:h.NoLimit):tT (uo prog w K h os T L):=by
 refine aw fun kz=>?_
 obtain ⟨es,hes,e0⟩:=kZ (cN e 0 ag)
 refine kz ?_;try clear kz
 have e1:=cN e 1 ag
 have e2:=cN e 2 ag
 have e3:=cN e 3 ag
 have Tc:=Uq X hes
 have low:∀k,(T.tZ[k]?).isSome=ak→lx k 1000=ak:=fun k hk=>by
  obtain ⟨I,hI⟩:=nM hk
  exact Rv.mpr (iN (fM.mp hI).1 (eX (cN e 5 ag)))
 refine ⟨⟨X,?_,fun k=>Us (P:=fun v=>v≠ .none) (by decide) (by decide) k,fun g nm v hg=>?_,fun nm hnm=>?_,fun k=>Us (P:=fun v=>Hs v=ak) (ow.mp (show F1.all Hs=ak from ag)) ag k,fun c k hk=>ZC (wj e1 hk),fun d es' hd=>?_⟩,ag,hN,
  fun k I b hI hb'=>ahY X hb' (wj e3 hI),fun k hk=>by obtain ⟨I,hI⟩:=nM hk;exact (gS (wj e3 hI)).1,low,fun c k hk p hp=>cN (ow.mp (cN (wj e1 hk) 9 ag) p hp) 4 ag,
  fun c Cl I fs hC hI hb'=>⟨ahZ X hb' (wj e3 hI),eX (cN (wj e1 hC) 12 ag)⟩⟩
 ·refine aw fun kz=>?_
  obtain ⟨h1,h2⟩:=gS (cN e 4 ag)
  obtain ⟨o,ho⟩:=nM h1
  refine kz ?_;try clear kz
  exact ⟨_,o,X _ _ ho,eX h2⟩
 ·have hg:=ow.mp (gS e0).1 _ (gM hg)
  unfold acp at hg
  cases q:yq es nm with
  |some u=>
   rw [q] at hg
   exact ⟨_,u,Tc,Bi X _ hg,.inl q⟩
  |none=>
   rw [q] at hg
   refine aw fun kz=>?_
   obtain ⟨u,hu,hg⟩:=kZ hg
   refine kz ?_;try clear kz
   refine gu hg fun h1 h2=>⟨_,u,Tc,Bi X _ h1,.inr ⟨q,mb,hb,(hbb _ fun z=>?_).trans hu⟩⟩
   rw [z] at h2
   exact cG h2
 ·have hi:=ow.mp (gS e0).2 nm hnm
  refine iG hi fun h1 h2 h3=>⟨_,mb,Tc,cz h1,hb,(hbb _ fun z=>?_).trans (cz h2)⟩
  rw [z] at h3
  exact cG h3
 ·refine aw fun kz=>?_
  obtain ⟨ds,hds,t⟩:=kZ (wj e2 hd)
  obtain ⟨t1,t2⟩:=gS t
  obtain ⟨n,hl⟩:=WU hds
  refine kz ?_;try clear kz
  refine ⟨_,mapOf_K X hl (N4 t1 (hh d (fM.mp hd).1 ds hds)),d5 t2,fun x=>?_⟩
  have:=WV (prog:=prog) (w:=w) (h:=h) (os:=os) (T:=T) X x t1
  rw [aba] at this
  exact this
end
def ZE{h:dW}{a:be}{m m':aI→aM aH}(x:h.Ns a m)(y:h.Ns a m'):m=m':=by
 refine aw fun kz=>?_
 obtain ⟨o,es,ep,e1,e2,_,e4⟩:=x
 obtain ⟨o',es',ep',f1,f2,_,f4⟩:=y
 refine kz ?_;try clear kz
 rw [e1] at f1;obtain rfl:=cp f1
 rw [e2] at f2;cases f2
 exact rj fun n=>(e4 n).symm.trans (f4 n)
noncomputable def ajo(d:yA):aM aN:=match d with
 |.int i=>ac i
 |_=>au
noncomputable def ah0(d:yA):aM (ao yA):=match d with
 |.list i=>ac i
 |_=>au
def ZF{P:yu}{h:dW}{v:aH}{d:yA}{i:aN}(x:Well P h v d)(e:ajo d=ac i):∃t,v=.int i t:=by
 cases x<;>first|exact bn e|(obtain rfl:=cp e;exact ⟨_,ag⟩)
def WX{P:yu}{h:dW}{v:aH}{d:yA}{xs:ao yA}(x:Well P h v d)(e:ah0 d=ac xs):∃a vs,v=.ref a∧h.get? a=ac {cls:=.type "list",data:=.seq (vs:ao aH).toArray}∧WellAll P h vs xs:=by
 cases x with
 |list g w=>obtain rfl:=cp e;exact ⟨_,_,ag,g,w⟩
 |_=>exact bn e
def Rd{W:Wd}{F:cr}{P:yu}{h:dW}{ns:ao aN}:∀{vs:ao aH},WellAll P h vs (ns.map .int)→cI W F (ns.map .ae) vs:=by
 induction ns with
 |nil=>intro vs x;cases x;rfl
 |cons n ns ih=>
  intro vs x
  refine aw fun kz=>?_
  obtain ⟨v,us,e,a,b⟩:=wellAll_cons_inv x
  obtain ⟨t,e2⟩:=ZF a ag
  refine kz ?_;try clear kz
  exact ⟨v,us,e,⟨t,e2⟩,ih b⟩
def WY{n:af}{xs:ao yA}{R:WRecords}(h:(WTm.not (.lt (.lit (.int n)) (.len (.arg 0)))).holds R {args:=[.list xs]}=ak):xs.length≤n:=by
 have e:WTm.value R (WTm.not (.lt (.lit (.int n)) (.len (.arg 0)))) {args:=[.list xs]}=ac (.bool (!dc ((n:aN)<(xs.length:aN)))):=by rfl
 unfold WTm.holds at h
 rw [e] at h
 cases q:dc ((n:aN)<(xs.length:aN)) with
 |false=>exact lw.mp fun z=>yi q (nz.mpr z)
 |true=>rw [q] at h;exact cG h
def WZ{l:OpenLaw}(args:ao yA):l.row.toRowW.claim.post args (.bool ak) args=ak:=
 postW_of (r:=l.row.toRowW) (d:=.bool ak) (X:=ak) ag (show WTm.value _ (.eq .res (.lit (.bool ak))) _=_ by wtm_val) (by simp [PySem.W.same])
set_option tactic.hygienic true in
def W0{l:OpenLaw}{q:Program}{loose:List Str}{XP:(Str→Option Value)→Heap→Prop}{K:Params→Frag}{as:List Addr}{he:∀P,as=(K P).map (·.1)}{d:DefRec}{kwd:List (Str×PySem.Expr)}{T:vk}{L:ue}{k BK:Nat}
  (hk:Nat.blt k 1000=true) (afi:BK≤100) (Te:l.most=some 63) (top:∀P,ac7 (K P) T L=true) (hash:∀P,Tb P (K P) L T) (main:∀P,(nsK (K P) mainGlobals).bind (fun es=>nsFind es d.name)=some (.ref (L.lJ k)))
  (law:∀is:List Int,is.length≤63→vC T BK k [.f (.al (is.map .ae))] [] fun v q9=>v=.f (.aG true)):
  WalkO q loose XP (kHook K as he).says l.row.toRowW d kwd fun f vs=>PySem.call f vs:=by
 intro w s₀ s₁ mg mb G Y fa o pm cd doc dV kV ho hd hcd hD hmg hg args vals as' ajp ajy hrd hwl hlo
 have KX:(K w.params).In s₁.heap:=kIn_of Y
 refine aw fun kz=>?_
 obtain ⟨hsh,ah1⟩:=pre_splitW ajp
 obtain ⟨x,r,rfl,hx,hr⟩:=hasAllW_cons hsh
 obtain rfl:r=[] :=by cases r with
  |nil=>rfl
  |cons a b=>simp [WShape.hasAll] at hr
 obtain ⟨xs,rfl,hit⟩:=hasW_list hx
 obtain ⟨ns,rfl⟩:=items_int hit
 have hlen:ns.length≤63:=by
  have h0:l.pre.holds [] {args:=[.list (ns.map .int)]}=true:=ah1
  unfold OpenLaw.pre at h0
  rw [Te] at h0
  have:=WY (n:=63) (holds_andW h0).1
  rw [List.length_map] at this
  exact this
 have hT:=ZD (prog:=l.row.toRowW.prog) (w:=w) (os:=s₁.os) (T:=T) (L:=L) KX (top _) (hash _) G.T.b G.T.builtins G.T.nolimit
 obtain ⟨es,h1,h2⟩:=bo (main w.params)
 have:mg d.name=nsFind es d.name:=congrFun (ZE G.T.g (Uq KX h1)) d.name
 rw [hmg,h2] at this
 obtain rfl:fa=L.lJ k:=by cases this;rfl
 refine kz ?_;try clear kz
 refine aw fun kz=>?_
 obtain ⟨v,us,rfl,hw1,hw2⟩:=wellAll_cons_inv hwl
 obtain rfl:us=[] :=by cases hw2;rfl
 obtain ⟨a,vs,rfl,g,hwi⟩:=WX hw1 rfl
 refine kz ?_;try clear kz
 have S:bZ (uo l.row.toRowW.prog w (K w.params) s₁.heap s₁.os T L) ⟨s₁.heap.get?,fun q9=>none,[]⟩ [] s₁:={
  bh:=rfl
  tP:=.nil
  yV:=fun a h=>absurd h List.not_mem_nil
  m8:=nI.bc _
  dZ:=fun a o e=>e
  iQ:=fun a o e=>bn e
  iL:=fun a o e=>rfl
  kT:=fun a h=>absurd h List.not_mem_nil
  qB:=fun i a mo h=>bn h
  ub:=hg
  FT:=rfl}
 have hA:BQ callerA BK:=⟨rfl,by show 1+claimMargin+4*BK<recursionLimit;simp [claimMargin,recursionLimit];lia,by show 4+20*BK+20<cLine;simp [cLine];lia⟩
 have:=WT hT BK k _ _ _ (law ns hlen) _ s₁ [.ref a] callerA hA S ⟨.ref a,[],rfl,⟨a,vs,_,rfl,g,Rd hwi⟩,rfl⟩
 unfold sE at this
 rw [hk] at this
 refine this.pT fun u s' hz=>?_
 obtain ⟨m,bS,g',l',ru,S',e⟩:=hz
 refine GoodW.toG ⟨.inl ⟨u,.bool true,[],rfl,fun cls=>rfl,?_,WZ _,fun q9=>⟨.nil,fun a h=>absurd h List.not_mem_nil⟩⟩,fun b o e=>S'.dZ b o (l'.F _ _ e),S'.FT,S'.ub⟩
 subst e
 obtain rfl:u=.bool true:=ru
 exact .bool true
def W2{P:yu}{K:ib}{L:ue}{T:vk}(h:∀d<T.n7.length,HashOk P (entsOf K (L.m7 d))):Tb P K L T:=fun d hd es he=>by
 have:=h d hd
 unfold entsOf at this
 rw [he] at this
 exact this
noncomputable def lay:ue:=⟨[77,84,105,112,133,147,303,313,334,341,355,369,374,381,388,395,400,407,421,431,438,445,450,457,464,471,476,483,490,497,504,511,518,525,539,546,551,558,563,578,585,592,599,606,613,620,627,634,641,648,655,660,665,670,675,680,687,694,701,706,713,718,725,732,737],[52,39,21,224,231,161,320,327,182,168,196,238,203,189,175,217,210],[87,115,150,410],[239,304]⟩
def law_here{l:OpenLaw}{q:wy}{loose:ao aI}{XP:(aI→aM aH)→dW→Prop}{K:yu→ib}{as:ao be}{he:∀P,as=(K P).map (·.1)}{d:DefRec}{kwd:ao (aI×aT)}
  (Te:l.most=ac 63) (top:∀P,ac7 (K P) a4 lay=ak) (h0:∀P,HashOk P (entsOf (K P) 239)) (h1:∀P,HashOk P (entsOf (K P) 304)) (main:∀P,(nsK (K P) tx).bind (fun es=>yq es d.name)=ac (.ref (lay.lJ SC))):
  WalkO q loose XP (kHook K as he).says l.row.toRowW d kwd fun f vs=>gH f vs:=
 W0 (T:=a4) (L:=lay) (k:=SC) (BK:=40) ag (by decide) Te top (fun P=>W2 fun d hd=>by
  have hd:d<2:=hd
  exact rO (P:=fun d=>HashOk P (entsOf (K P) (lay.m7 d))) (h0 P) (rO (h1 P) acu) d hd) main Y4
end
end Mine
end
namespace Mine.all
def tw17053130121481772103:=True
def tw10168888151487559394:=True
def tw6147308635103535561:=True
def tw10793401674749092046:=True
def tw16949009020806574942:=True
def tw12926644002878227130:=True
def tw3347175955162335329:=True
def tw16223638597430114740:=True
def tw4631590275013254457:=True
def tw13455461431897201640:=True
def tw16400751074865733910:=True
def tw10156424416328317940:=True
def tw15158558636265767147:=True
def tw13900070722340429276:=True
def tw8616835277999145119:=True
def tw11433317345382964763:=True
def tw17800948086707717751:=True
def tw5247617807198155932:=True
def tw397829171339713761:=True
def tw4818641064637329869:=True
def tw6742200501135914891:=True
def tw16644902639655322133:=True
def tw14057782590025463129:=True
def tw18441473437031201941:=True
def tw17393663094203119047:=True
def tw10407399669362838719:=True
def tw3357559941945735724:=True
def tw11223482586740685078:=True
def tw16424727738075169484:=True
def tw6686757251022233349:=True
def tw9385597778382524922:=True
def tw13505173894226300209:=True
def tw16382669320497122081:=True
def tw14549113301119539810:=True
def tw5002070824922625533:=True
def tw9807931448117422837:=True
def tw12512054102949984058:=True
def tw6360596673044215761:=True
def tw10971250334911043752:=True
def tw4244794441018138637:=True
def tw9600454056292803967:=True
def tw1750280776747563624:=True
def tw13282074430368766303:=True
def tw17360653242477243975:=True
def tw13492775673106092688:=True
def tw12248520049373816357:=True
def tw7546461858588002845:=True
def tw14229981574245695772:=True
def tw5044639097624668846:=True
def tw13233751423148406618:=True
def tw2995925781233325151:=True
def tw2362829445674453831:=True
def tw17523770736405063376:=True
def tw7317653850160689691:=True
def tw6946980451890315270:=True
def tw15612066896164977022:=True
def tw16183010546200382306:=True
def tw16526751206710464603:=True
def tw8486705261324164726:=True
def tw15618092478124507917:=True
def tw9301309066579124778:=True
def tw409914518651768084:=True
def tw8968355716326206664:=True
def tw13280447903547772812:=True
def tw1081408078033650336:=True
def tw15242674970999812785:=True
def tw2863937026978368667:=True
def tw3630066180865283129:=True
def tw18422150028754028023:=True
def tw11051373392699811023:=True
def tw3282140407130366615:=True
def tw5718967094426423161:=True
def tw15248031165874397040:=True
def tw17069222317715477625:=True
def tw6896591704953265671:=True
def tw10923070005692675132:=True
def tw4613487602407358717:=True
def tw4214497047443048748:=True
def tw4215066571649420964:=True
def tw2494268533263957097:=True
def tw13320810954380615167:=True
def tw6000898611042668290:=True
def tw16296590348105434372:=True
def tw11158953913317867288:=True
def tw9186790425516483314:=True
def tw16665526110328478529:=True
def tw17424916104665291489:=True
def tw4831860214510110302:=True
def tw16700318575013349798:=True
def tw14242173848286271349:=True
def tw6495733333828780514:=True
def tw5004987881651496831:=True
def tw3905375630023619888:=True
def tw3339628229899013760:=True
def tw10677670038743541358:=True
def tw17846619120630023766:=True
def tw10371379177274702309:=True
def tw3586251380002802234:=True
def tw9379264858417805688:=True
def tw13717024376598296668:=True
def tw888978351763286717:=True
def tw18058516629519361111:=True
def tw2997595627926355555:=True
def tw11925040711228000680:=True
def tw12381699962588209086:=True
def tw8076105961534405009:=True
def tw15849158762323818722:=True
def tw10912467617979834864:=True
def tw29985565223642888:=True
def tw5191467471856622273:=True
def tw9960083256741680508:=True
def tw4463848349969469772:=True
def tw11102767992079720913:=True
def tw10649901628825759099:=True
def tw14832718209330476552:=True
def tw1768962640154500726:=True
def tw14771985120617686802:=True
def tw14615947125993099273:=True
def tw16740921855470316824:=True
def tw1832691508475867565:=True
def tw9111709882147129655:=True
def tw10696458614491829572:=True
def tw6836359950869179439:=True
def tw1326175403826912198:=True
def tw16592893570014863828:=True
def tw16176830815697697194:=True
def tw9833964599435250050:=True
def tw11961059351148515626:=True
def tw13423135486485445016:=True
def tw8711421783369662179:=True
def tw8661065196793792047:=True
def tw13376464931078446103:=True
def tw16785538882571980543:=True
def tw11951307492845570281:=True
def tw16857469709051444266:=True
def tw7385006340035058783:=True
def tw5675193095830314289:=True
def tw10393596885623623503:=True
def tw5727973534668710794:=True
def tw12994552909553032409:=True
def tw8678582069086723682:=True
def tw2531900633515307401:=True
def tw5815207240830897808:=True
def tw10289937546816008636:=True
def tw14044709251442629906:=True
def tw11489409643829403841:=True
def tw4240545211757986076:=True
def tw7660858615051961871:=True
def tw11686026206685797588:=True
def tw8223707996358447380:=True
def tw13057232943065969744:=True
def tw201708328148552895:=True
def tw4302931102428780990:=True
def tw16339503202031470875:=True
def tw10307609814444822809:=True
def tw8749193726656077916:=True
def tw10389294372677164839:=True
def tw4338314545742005754:=True
def tw18120535436291149196:=True
def tw9496632788025766839:=True
def tw15585509438621463966:=True
def tw9609096358927944886:=True
def tw17818293817903590521:=True
def tw13509908655624090359:=True
def tw898707613593260451:=True
def tw3578222212851893600:=True
def tw12428716410969305734:=True
def tw11113120797386210373:=True
def tw17468886310826310451:=True
def tw9762715593372247759:=True
def tw11736780227944870738:=True
def tw3898467250045930460:=True
def tw225468126006155290:=True
def tw10131221437080536637:=True
def tw11230645906715702508:=True
def tw4719354141242184269:=True
def tw2638793534194840904:=True
def tw1172340538976468734:=True
def tw15651733941924773997:=True
def tw5463181917568680212:=True
def tw10127320685908719325:=True
def tw5362506446432344171:=True
def tw11091474679367250208:=True
def tw12447178028490564450:=True
def tw4950485280699123642:=True
def tw11877403491279123046:=True
def tw5439016543574858206:=True
def tw17447734377096445370:=True
def tw2842816785644039571:=True
def tw18107075240765231021:=True
def tw2000609977361463965:=True
def tw14721843458392949018:=True
def tw14832659646925512398:=True
def tw9642480246203547912:=True
def tw4154878040674242839:=True
def tw4765306392115962693:=True
def tw11931918283646908614:=True
def tw9397017562490477109:=True
def tw16739844878667351699:=True
def tw9107108562952019494:=True
def tw15059917014629022394:=True
def tw1752733083305661762:=True
def tw10479794009275464340:=True
def tw9570754706468278650:=True
def tw5657931515703916248:=True
def tw1095929389519559783:=True
def tw7205895575636617080:=True
def tw13135058765949404771:=True
def tw15968848678202421516:=True
def tw6651456455751515877:=True
def tw1088589479996732829:=True
def tw9022205114861038860:=True
def tw9764797518255496921:=True
def tw8316665608867782698:=True
def tw18048758015052009589:=True
def tw17408919567675379883:=True
def tw11051709101105081487:=True
def tw17711910997332876922:=True
def tw1323426155142419162:=True
def tw13370487131934946175:=True
def tw2557191316624668217:=True
def tw14421808642430287336:=True
def tw14940032972901115816:=True
def tw9327985806830046984:=True
def tw9285670843845949155:=True
def tw16171933092410999983:=True
def tw1885294564261713141:=True
def tw12724949091593755947:=True
def tw5884965284304258897:=True
def tw14003663102062188800:=True
def tw13663018214320142090:=True
def tw11084693905056812178:=True
def tw15670805634923389295:=True
def tw328508388705569248:=True
def tw4195489330254351329:=True
def tw15014361466247048854:=True
def tw4498182102138418894:=True
def tw9133701021851612117:=True
def tw525001674005675781:=True
def tw5377772837010204750:=True
def tw8111057081096800836:=True
def tw13172091369480311280:=True
def tw18168848097628341329:=True
def tw8474492796817999161:=True
def tw6853843781069519680:=True
def tw9441028803360468251:=True
def tw17411639873488161413:=True
def tw15389465554420088467:=True
def tw1352723322627576488:=True
def tw4982120401116994425:=True
def tw8700193116743927733:=True
def tw16573077582942348641:=True
def tw18291108133853008933:=True
def tw7957553974722075628:=True
def tw8108845850537571710:=True
def tw14076077854437140390:=True
def tw2412950195513398651:=True
def tw13431290835526063760:=True
def tw14822214895437561417:=True
def tw1644255569911684797:=True
def tw1238725946784135233:=True
def tw8203446524507428889:=True
def tw18369841484834026144:=True
def tw14883968960377749705:=True
def tw15145278206449419223:=True
def tw9448091282758670523:=True
def tw1734884918528286522:=True
def tw2597219025779639433:=True
def tw8706731066875689191:=True
def tw13283931332471535325:=True
def tw10600613889749566790:=True
def tw15575253945988166476:=True
def tw6223034424235540279:=True
def tw5747321363474778693:=True
def tw17740860788197283744:=True
def tw890751993682150155:=True
def tw4965207536615798822:=True
def tw5558808128744370633:=True
def tw12267468486907949403:=True
def tw3140866203998610647:=True
def tw5601264028959731896:=True
def tw8013882960148741844:=True
def tw4722931859811370693:=True
def tw4814944892674192296:=True
def tw9952970006915852218:=True
def tw1717485560449817402:=True
def tw12885334096101347146:=True
def tw7867681300357518899:=True
def tw4005113011885737416:=True
def tw7918374967389245632:=True
def tw8630030210275731936:=True
def tw7657994479303150727:=True
def tw9543871751676338751:=True
def tw3108443244893856389:=True
def tw3185962312253278316:=True
def tw3390864358609898268:=True
def tw1585303152785439333:=True
def tw15902913901339227234:=True
def tw17260577670642009320:=True
def tw16876236935048986776:=True
def tw9241353231930656577:=True
def tw3832104259330054055:=True
def tw11120492362615346026:=True
def tw5646740079091317433:=True
def tw16926426053830025025:=True
def tw14478419276589960357:=True
def tw11446199593928302625:=True
def tw9405301459192476718:=True
def tw1142058581544160548:=True
def tw9843424985483213050:=True
def tw14151137839513740329:=True
def tw4613981591765525805:=True
def tw6271033356711949733:=True
def tw11045270430615452010:=True
def tw15054863418237798948:=True
def tw4645612490112672357:=True
def tw335442867052375821:=True
def tw3702781205502781313:=True
def tw7492772011675989385:=True
def tw5715779271170130959:=True
def tw6635096433462372448:=True
def tw11273133048781285286:=True
def tw7848317997028865603:=True
def tw18111398738982083773:=True
def tw8096221689764760052:=True
def tw1075291646940621582:=True
def tw13132907815185506690:=True
def tw6347893289988391699:=True
def tw6189357195160471388:=True
def tw561872325786274548:=True
def tw12304872625307995750:=True
def tw8398887430952950212:=True
def tw15198316981687975854:=True
def tw11242623580682996947:=True
def tw7778630667622746703:=True
def tw8621771247159374411:=True
def tw4049413732980777947:=True
def tw9700507354520375304:=True
def tw12985212532813657682:=True
def tw7946034326556018432:=True
def tw14099800850047386279:=True
def tw8166991320080258738:=True
def tw9900696922168193843:=True
def tw6176105912117767087:=True
def tw11777086365064915542:=True
def tw14274756557212989909:=True
def tw8728704332973717658:=True
def tw2114198189418970486:=True
def tw4438364104728389296:=True
def tw4874642235004048027:=True
def tw14365998534574843411:=True
def tw17368901067910498557:=True
def tw6178583632892115015:=True
def tw5440085390276978291:=True
def tw16069983636010489082:=True
def tw2972125363121769464:=True
def tw14523845485542788104:=True
def tw5061037604254504937:=True
def tw15541118713287057729:=True
def tw7347661181068853997:=True
def tw6169999212503205497:=True
def tw5870148494974776200:=True
def tw9090173269774583996:=True
def tw4382491568596388571:=True
def tw8401958774316805891:=True
def tw18003279642469066050:=True
def tw2020152571437148077:=True
def tw10175558820241607032:=True
def tw7686242042924871683:=True
def tw13467292715098799918:=True
def tw5248012151768918434:=True
def tw8146785798897364014:=True
def tw1215526528800860966:=True
def tw3780143478300131934:=True
def tw12899656968702213925:=True
def tw13966652886959378514:=True
def tw6717767316833874322:=True
def tw6860577389561355601:=True
def tw785864177541677141:=True
def tw4786962568827011835:=True
def tw6846761488900895589:=True
def tw13723625003827874073:=True
def tw13220695134330190930:=True
def tw4350801690150286559:=True
def tw15519761934197397234:=True
def tw7255959162708018199:=True
def tw2406872565856053176:=True
def tw16877496141331604692:=True
def tw2627396739876165418:=True
def tw3138800457800853586:=True
def tw16149317719023688252:=True
def tw8121427672614705931:=True
def tw3443626597506986169:=True
def tw16985871876413990642:=True
def tw9976896545867408452:=True
def tw8670540905479144303:=True
def tw15471726915170369524:=True
def tw16188822405700688499:=True
def tw1758426702102747128:=True
def tw8419203004499243131:=True
def tw17026743227940831712:=True
def tw1226283177544027977:=True
def tw12540455083557110006:=True
def tw13358604424828501309:=True
def tw13185015893256467352:=True
def tw6674347012523051200:=True
def tw1291087626157917732:=True
def tw5217560924200664910:=True
def tw6888782338466086140:=True
def tw14201790961670687459:=True
def tw11744878476890876738:=True
def tw17084071853196174921:=True
def tw7779009951696393383:=True
def tw14504465163362997928:=True
def tw6794366774042380578:=True
def tw5689438673786977140:=True
def tw14648276583578725374:=True
def tw7785168158365692624:=True
def tw3737605839529819480:=True
def tw13042374122123996364:=True
def tw17371863055441782679:=True
def tw5476340991381562312:=True
def tw10130366669087276332:=True
def tw6849123771955923804:=True
def tw5761313309558253367:=True
def tw12784588452913835247:=True
def tw12981892083367582941:=True
def tw13960862262899742394:=True
def tw13133649945303734352:=True
def tw1859658367360657537:=True
def tw1298631472846954095:=True
def tw10681620039792923934:=True
def tw1963270939698246839:=True
def tw18433669859833586122:=True
def tw14648097213134440425:=True
def tw2750322548573693319:=True
def tw14661163797125724070:=True
def tw5615934883764171431:=True
def tw16457593375850944212:=True
def tw8312510263607220780:=True
def tw17914837950057056417:=True
def tw10576110018494610262:=True
def tw16788233547135642414:=True
def tw17112464921883037887:=True
def tw2442836877315861853:=True
def tw16567661231398824811:=True
def tw7442053078452299063:=True
def tw18074533905802821072:=True
def tw3448833343719912132:=True
def tw11784725038316003381:=True
def tw7654578318931278690:=True
def tw583233376362171505:=True
def tw3477183460249832127:=True
def tw10277526245819850656:=True
def tw15284455985751111415:=True
def tw9592678889267232940:=True
def tw6721464258858852875:=True
def tw5103420120806187630:=True
def tw17740187900682377756:=True
def tw10942295900298899174:=True
def tw17106608494224303150:=True
def tw282076826160197541:=True
def tw5162543521180666497:=True
def tw14849280956162755979:=True
def tw6280451789465376435:=True
def tw3153289441736887298:=True
def tw11448872678469705673:=True
def tw766856551031688912:=True
def tw16232008947845578158:=True
def tw11563076530477234726:=True
def tw17899929404969355535:=True
def tw596421839371371174:=True
def tw15305453227285626446:=True
def tw9069304868558884969:=True
def tw13186973799741327244:=True
def tw12819504698909858696:=True
def tw2316775634158704177:=True
def tw14204109254541194217:=True
def tw17717444079117462278:=True
def tw2792250951161479536:=True
def tw12180536567876656950:=True
def tw14066901625076523032:=True
def tw7779866328928976063:=True
def tw18074999733426924212:=True
def tw4547723090059260100:=True
def tw14539000326390715668:=True
def tw7062720368445256129:=True
def tw3849640880644552707:=True
def tw18118164260907729349:=True
def tw13492395982464255480:=True
def tw14647661154017913664:=True
def tw8486076525276431931:=True
def tw18343157571677020557:=True
def tw5646013916729498261:=True
def tw4801688742562958406:=True
def tw7238125184777875665:=True
def tw2235618017368140517:=True
def tw14310873030558110092:=True
def tw4835796080096327916:=True
def tw15906484144062456574:=True
def tw549974085012918235:=True
def tw14899674885815798178:=True
def tw17394647144938102915:=True
def tw5553432485147669529:=True
def tw12254430714555821875:=True
def tw7824222052329908659:=True
def tw6873541528101158377:=True
def tw8838840417862019655:=True
def tw1446525512094189494:=True
def tw7000523462626781010:=True
def tw2543849888741498996:=True
def tw76700771618905059:=True
def tw2013830700403712203:=True
def tw1985402699469526011:=True
def tw9163178095015654352:=True
def tw14984247238865676675:=True
def tw3165661143165402847:=True
def tw13607757164722159089:=True
def tw13874455239767017017:=True
def tw17485024515217194642:=True
def tw16987476370533704557:=True
def tw15076152544538823220:=True
def tw14200518018382609147:=True
def tw15363977820855282535:=True
def tw3530542369196619228:=True
def tw4156143147478942181:=True
def tw7619113539625694710:=True
def tw8865166961438382494:=True
def tw3855190133869164905:=True
def tw8026366407565007962:=True
def tw15331906349341453337:=True
def tw13930999109560414629:=True
def tw8397605616207071183:=True
def tw5543487718492105064:=True
def tw125183967897747985:=True
def tw12267322187703008927:=True
def tw6656463916972431421:=True
def tw4907521953547317329:=True
def tw7130465076275759521:=True
def tw10034031380863371641:=True
def tw7091565871241343341:=True
def tw9455471141526271117:=True
def tw3527972740633252992:=True
def tw14420213329864412023:=True
def tw12803817524326497440:=True
def tw14511287757244466272:=True
def tw18094267598192979275:=True
def tw6900727353157573822:=True
def tw9131408386013701786:=True
def tw11330118131623060689:=True
def tw2366535826993118143:=True
def tw18068929663759586442:=True
def tw5931688323066260514:=True
def tw17314943208353570444:=True
def tw11639333894188339638:=True
def tw17133528431856770972:=True
def tw17772726858579744284:=True
def tw14106571916235994328:=True
def tw5103548895888603802:=True
def tw1163122323300966013:=True
def tw11038128598146805730:=True
def tw7272270352196073673:=True
def tw281770217567036725:=True
def tw8901488873923373992:=True
def tw7525655301032184626:=True
def tw247909236438806434:=True
def tw4899250830898163692:=True
def tw10227051316576381974:=True
def tw8219367837509555709:=True
def tw15176617289070330970:=True
def tw2711446468545577505:=True
def tw12394350090093965224:=True
def tw8183209053709734173:=True
def tw5555718599999811639:=True
def tw5221675337516389627:=True
def tw14124840197023413450:=True
def tw10252965763247687682:=True
def tw4544264296663088324:=True
def tw11333907896045031016:=True
def tw12926333453430215753:=True
def tw10640348836240559591:=True
def tw200202858802481044:=True
def tw3468823194966119755:=True
def tw16084742875079473383:=True
def tw16773635481313006432:=True
def tw741329169588805604:=True
def tw12028550053918628185:=True
def tw14847532645272441617:=True
def tw3783704252341326843:=True
def tw14288127532215574351:=True
def tw11692948248621729924:=True
def tw12563031120210811263:=True
def tw15414233836422861205:=True
def tw10856765595117590405:=True
def tw3020832510069240704:=True
def tw2496985677507960046:=True
def tw8593244855664925795:=True
def tw4014216774688872946:=True
def tw7514489123796633772:=True
def tw16576222957257545530:=True
def tw4258606087713283508:=True
def tw5750698986362780913:=True
def tw14848961488311411958:=True
def tw4128963183011607505:=True
def tw15888951733556516598:=True
def tw6648324312943424196:=True
def tw16447172759540358135:=True
def tw8948736912299370593:=True
def tw3482175957882590323:=True
def tw13434531468450553753:=True
def tw15105651507014581045:=True
def tw433751870149770472:=True
def tw9386671084012761886:=True
def tw16433278489552267077:=True
def tw2891402810631288588:=True
def tw3835962111665225711:=True
def tw9743695723290020096:=True
def tw4716985721665009587:=True
def tw3082626142003458053:=True
def tw15451204947285891726:=True
def tw14929683446248860828:=True
def tw15393178847056368160:=True
def tw306535358961565008:=True
def tw1973140245219671491:=True
def tw1586037315452845605:=True
def tw9514876090768664877:=True
def tw15766547542915688834:=True
def tw1604050991321148793:=True
def tw10634939071730365363:=True
def tw13928513891281363954:=True
def tw4610591934557721198:=True
def tw6635522753158126860:=True
def tw755134328155928439:=True
def tw5919330448614353153:=True
def tw10312239555926195531:=True
def tw8322597137079436277:=True
def tw10081088541268293599:=True
def tw7852760074147458260:=True
def tw15926794790568321017:=True
def tw5781126440621211168:=True
def tw1694654335647164047:=True
def tw9196661522157602471:=True
def tw7193976414177721783:=True
def tw13027540482245733427:=True
def tw8373720323635723369:=True
def tw884644925536651315:=True
def tw17408048037380319038:=True
def tw10316705163991428254:=True
def tw10640303290150162726:=True
def tw5657447785659697480:=True
def tw8734355875116408662:=True
def tw4634341240264483431:=True
def tw15151187641303801864:=True
def tw9099960808112739735:=True
def tw17259241986408110582:=True
def tw497388943360791162:=True
def tw13912068318134460016:=True
def tw15097909243742831393:=True
def tw13134017275888359689:=True
def tw9351078540693612215:=True
def tw5927061715728957476:=True
def tw10787622589932112302:=True
def tw14331890051309236264:=True
def tw7347299435816893626:=True
def tw13100642850353945058:=True
def tw11441816438227186863:=True
def tw6516363680345034613:=True
def tw17933553581876595578:=True
def tw15354443143932468990:=True
def tw1639981616727947583:=True
def tw16444899576201249432:=True
def tw16739083755425606968:=True
def tw13887551421349579326:=True
def tw8909644736058714228:=True
def tw10416409784342031977:=True
def tw17558465517493045558:=True
def tw13752750167953387420:=True
def tw8315046463243809389:=True
def tw17711473739705145481:=True
def tw8820459466428253018:=True
def tw11093295523969242068:=True
def tw18433079168191953831:=True
def tw4198835854440487071:=True
def tw12071712058454129317:=True
def tw14074921412963316263:=True
def tw8689057759390064058:=True
def tw44263415142174766:=True
def tw14068239771850734003:=True
def tw11169558830825096451:=True
def tw10773934983489079739:=True
def tw4847766330237268548:=True
def tw7234240908195146063:=True
def tw2121406354128448821:=True
def tw10379842876597259683:=True
end Mine.all
section
open PySem PySem.W PyProof.Rows
set_option Elab.async true
set_option maxRecDepth 100000 in
set_option maxHeartbeats 0 in
theorem Mine.all : PySem.Challenge.rw_sm0024_01.Holds := by
  w_on; o_law; k_head; (case hw => w_witness2)
  refine Mine.law_here rfl (fun P => ?_) (fun P => ?_) (fun P => ?_) (fun P => ?_)
  · kernel_rfl
  · unfold Mine.HashOk; kernel_rfl
  · unfold Mine.HashOk; kernel_rfl
  · kernel_rfl
end
theorem PySem.Challenge.cw_sm0024_01_holds : PySem.Challenge.rw_sm0024_01.Holds :=
  Mine.all
