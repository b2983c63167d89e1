import PyProof.Rows.All
import Wide.All
import OpenK.AllK
import Wide.FinOn
import Lean
import PySem.Challenge.RW_sm0024_01
noncomputable section
set_option autoImplicit false
set_option linter.all false
set_option genCtorIdx false
set_option bootstrap.genMatcherCode false
set_option genSizeOf false
set_option genInjectivity false
set_option tactic.hygienic false
set_option maxRecDepth 100000
set_option backward.match.sparseCases false
namespace Mine
open Option renaming some→O,none→b1,bind→jG,map_eq_some_iff→tm,bind_some→tn,map→nG,isNone_iff_eq_none→B4,isSome_iff_exists→F7,map_some→F8,toList_some→LG,join_some→LH,rec→LJ,join→Tq
open Bool renaming true→ar,false→b2,noConfusion→dy,and_eq_true_iff→iX,false_ne_true→kx,or_eq_true_iff→nR,eq_false_iff→r5,and_false→qz,eq_iff_iff→vJ,or_false→vK,eq_false_or_eq_true→F9,not_eq_true'→B5,and_eq_true→B6,or_eq_false_iff→Ga,of_not_eq_false→LK,not_eq_true→LL,or_eq_true→LM,and_true→LN,rec→Gb,false_and→Tr,and_assoc→Tt,or_assoc→Tu,or_true→Tv
open Nat renaming le_trans→cu,le_of_ble_eq_true→er,le_add_right→fg,le_refl→dX,lt_of_lt_of_le→hH,lt_succ_self→h9,add_le_add_left→jq,zero_le→fy,succ_le_succ→iF,le_succ→fM,lt_of_le_of_lt→kT,add_le_add_right→m7,le_of_succ_le→lC,le_of_lt→iG,add_right_comm→nS,le_of_eq→jH,zero_add→kU,ne_of_lt→kW,le_of_lt_succ→qk,lt_of_succ_lt→q8,le_of_not_lt→ra,sub_add_cancel→uK,le_of_succ_le_succ→yz,mul_le_mul_left→v9,le_succ_of_le→uL,sub_self→pg,not_lt→jI,lt_succ_of_lt→qA,add_assoc→nH,noConfusion→pG,add_le_add→pH,succ_pos→nI,succ_add_eq_add_succ→y4,add_right_cancel→vL,le_antisymm→r6,not_lt_zero→tP,add_comm→qB,lt_succ_of_le→vM,blt→jJ,lt_add_of_pos_right→B7,lt_of_le_of_ne→y5,min_eq_left→y6,succ→pI,le_add_left→B8,mul_succ→y7,add_sub_cancel→Gc,zero_lt_of_lt→Gd,lt_irrefl→B9,succ_lt_succ→Ge,lt_of_succ_lt_succ→LO,sub_le→y8,le_sub_one_of_lt→LP,not_succ_le_self→LQ,mul_le_mul→Gf,lt_or_eq_of_le→LR,lt_of_not_le→LU,sub_add_comm→LV,one_pos→Gg,sub_lt→Gh,lt_one_iff→LW,ne_of_gt→LX,lt_trans→LY,sub_lt_iff_lt_add'→Tw,le_of_sub_eq_zero→Tx,le_sub_of_add_le→Ty,lt_sub_of_add_lt→Tz,add_lt_of_lt_sub→TA,eq_or_lt_of_le→TB,blt_eq→LZ,le_of_pred_lt→TC,sub_sub_self→TF,succ_ne_zero→TG,le_of_not_le→TH,min_eq_right→TJ,strongRecOn→TK,lt_or_ge→TL,succ_add→TM,min_self→TN
open Option.some renaming inj→dg
open List renaming length_map→et,getElem?_eq_getElem→gS,length_append→dZ,getElem?_eq_some_iff→fJ,take_length→eO,mem_cons_self→fD,mem_of_getElem?→gj,mem_cons→eP,mem_cons_of_mem→ia,not_mem_nil→gD,getElem?_append_right→la,mem_singleton→ib,size_toArray→iy,getElem?_map→i4,forall_mem_cons→lY,range→f5,prefix_refl→jU,mem_map→hJ,getElem?_append_left→ph,mem_append_right→nU,append_nil→kX,all_eq_true→lD,replicate→ky,mem_append_left→ow,length_cons→lZ,isEmpty_iff→l0,getElem?_set_ne→pi,append_assoc→m8,mem_filter→l3,contains_iff_mem→rb,mem_append→my,length_mapIdx→pj,length_set→m9,length_filter_le→r7,length_range→pk,length_reverse→rd,mem_range→nf,length_singleton→uM,getElem?_mapIdx→wa,map_append→r8,reverse_cons→uN,getElem?_of_mem→yA,length_take_le'→yB,map_map→lO,take_add_one→qC,getElem?_toArray→tQ,length_filterMap_le→vN,countP_cons→qD,contains_eq_mem→vO,foldl_append→tR,any_eq_true→tS,prefix_append→vP,getD_eq_getElem?_getD→Ca,find?_cons→tT,ext_getElem?→vQ,map_congr_left→y9,getElem_mem→vR,length→qE,set_cons_succ→za,take_of_length_le→Cb,range_succ→vT,nodup_cons→vU,set_append_right→Cc,nodup_append→zb,length_drop→zc,length_take→zd,filterMap_cons→Ce,mem_map_of_mem→Cf,length_pos_iff→Cg,length_take_le→Ch,getElem?_take_of_lt→Gi,eraseIdx_append_of_length_le→L0,getElem?_set_self→Gj,take_left→ze,countP_singleton→Gk,getElem?_eq_none→Gl,lookup_cons→Ci,replicate_succ→Gm,mem_filterMap→Gn,countP_append→Go,filterMap_cons_some→L1,map_cons→Cj,map_nil→Ck,nil_append→Gp,filter_nil→Gq,foldl_cons→Gr,forIn_cons→Gs,filterMap_append→L2,length_replicate→L3,mem_of_mem_take→L4,forIn_nil→Gu,map_eq_nil_iff→L5,getElem?_range→L6,mergeSort_perm→L7,replicate_zero→L8,any_cons→Gv,getElem?_drop→L9,getElem_range→Ma,getElem?_set→Mb,flatMap_cons→Mc,flatten_cons→Md,take_append_of_le_length→TQ,not_lt→Gw,find?_some→Me,countP_map→Mf,getElem?_concat_length→TR,take_zero→Mg,nodup_nil→Mh,foldl→Gx,drop_eq_getElem_cons→TS,mem_of_find?_eq_some→TT,getElem?_eq_none_iff→TU,getElem?_zip_eq_some→TV,map_take→Mi,le_trans→Mj,length_eq_zero_iff→TW,pairwise_mergeSort→TX,getElem?_set_self'→TY,filter_eq_nil_iff→TZ,drop_of_length_le→T0,length_eq_one_iff→T1,set_getElem_self→T2,countP_le_length→T3,eq_nil_or_concat→T4,concat_eq_append→T5,mem_of_mem_drop→T6,map→Gy,getElem?_zipIdx→T7,append_toArray→T8,find?_eq_none→T9,length_zipIdx→Ua,map_singleton→Ub,push_toArray→Uc,flatMap_nil→Ud,filter_cons→Ue,cons_ne_nil→Uf,map_fst_zip→Ug,map_const'→Uh,length_zip→Ui,of_mem_zip→Uj,tail_drop→Uk,filterMap→Ul,drop_zero→Um,le_total→Un,take_nil→Uo
open PySem renaming Value→cj,wpAny_bind→c5,Shared→cM,Str→b4,Expr→ce,wpAny_pure→fR,Addr→cz,wpAny_holding→iH,Around→d9,Comprehension→jV,wpAny_standAt→oy,Stmt→dn,markedEach→mz,assignInOrder→qF,Pos→cS,Heap→eu,mainGlobals→pJ,foldedSetIterable→vV,sizeLine→lP,evalEach→lQ,DictEntry→nJ,letOwnedTupleGo→vW,eval→fk,sysModules→qG,builtinsNs→qH,starEach→nK,FuncData→nL,Env→du,pyIter→kh,swappedStores→vX,codeAny→mA,call→gg,model→i5,recursionLimit→zf,assign→lk,exec→f9,Scope→ji,assignEach→tU,CmpOp→jK,compEnvC→qI,wpAny_execs_nil→Cl,wpAny_Assign_stores→Gz,holding→pK,compareChain→zg,Obj→eb,wpAny_truthy_bool→GA,standAt→qJ,getMethod_builtin→GC,wpAny_assignInOrder_none→Mk,NameKind→tV,notIterableAtAll→GD,Program→r9,call_meets→zh,spliced→sa,backTo→pL,pyNext→pM,compareOp→zi,getItem→tW,testChain→zj,wpAny_Tuple_spliced→Ml,wpAny→n9,wpAny_release→GF,wpAny_mono→Cm,wpAny_assign_Tuple→Mm,wpAny_pyIter_list→Mn,nsFind→tX,Sem→gl,truthy→tY,swapsWith→Cn,Result→tZ,Params→t0,subscripted→GG,wpAny_of_eq→GH,strKind_is→GI,constantsAlone→Mo,ExceptHandler→Mp,foldedForSure→Mq,swapsWithSole→Mr,mem_of_lookup→Ms,World→t3,cLine→t4,list_append→Up,seqItems?→GJ,OsState→Co,wpAny_allTrue_And_cons→Uq,bootBuiltins→Mt,wpAny_allTrue_Or_cons→Ur,codeAny_call_function→Us,reprText→GK,Operator→GL,intItems→GM,wpAny_loadName_local→Ut,callWith→GN,interactive→Mu,unpackItems→Mv,bindName→GO,bindArgs→GP,wpAny_loadName_cell→Uu,wpAny_loadName_free→Uv,wpAny_isTrue_BoolOp→Uw,Tok→kD,IsPart→Cp,wpAny_rule→Mw,stored→Ux,isTrue→Cq,wpAny_List_spliced→Uy,slot_dict_getitem→Uz,slot_list_getitem→UA,numAt→zk,Keyword→GQ,wpAny_newObj_type→UB,wpAny_pyIter_enum→UC,wpAny_getItem_of→UD,evalPairs→Mx,pairTrees→My,wpAny_execs_cons→UE,firstIter→Mz,Arguments→MA,cellsFrom→MB
open LawfulBEq renaming eq_of_beq→dr
open PySem.Heap renaming get?_push_of_some→ng,get?_push_size→oz,lt_size→nV,SameBut→t5,dictOf_iff→zl,size_push→GR
open Decidable renaming decide→dY
open Int renaming ofNat_lt→kY,natCast_nonneg→sb,ofNat_le→pN,toNat_natCast→zm,le_trans→t6,fmod→pO,lt_of_lt_of_le→GS,not_lt→zn,sub_eq_add_neg→MC,fdiv→Cr,not_le→GU,eq_ofNat_of_zero_le→UF,le_of_lt→MD,toNat_of_nonneg→UG,natCast_add→UH,ofNat_sub→UI,le_natAbs→UJ,add_assoc→UK,ofNat_inj→UL,lt_irrefl→UM,sub_zero→UN,toNat_lt→UO
open Nat.succ renaming inj→mB
open PySem.Str renaming ofString→oA
open PySem.NameKind renaming free→pP,cell→zo
open Pure renaming pure→ej
open False renaming elim→oa
open PySem.W renaming instObj→ki,findIn→jj,keepIn→lR,Frag→gI,emptyDict→t7,handedIn→Cs,hasDictIn→GV,plainOver→GW,WData→t8,typeIn→zp
open ForInStep renaming yield→zq
open Sum.inr renaming inj→t9
open PySem.F renaming slot_dict_get→GX,slot_list_append→ME,slot_list_pop→MF,args_list_append_2→UP,entry_list_append→UQ,plainAttrs_dict→UR,plainAttrs_list→US,entry_list_pop→UT,entry_dict_get→UU,slot_int_rmul→UV,type_dict_get→UW
open PySem.Value renaming isStrOf→zr
open Classical renaming byContradiction→MG,choose→UX,em→UY
open Array renaming getElem?_toList→MH,toList→MI,mem_toList_iff→UZ,find?_toList→U0
open List.cons renaming inj→GY
open Int.ofNat renaming inj→GZ
open PySem.Builtin.Tuple renaming tupleIsExact→U1,tupleItemsOf→Zz
open PySem.Builtin.List renaming listFitsIndex→U2
open PySem.Builtin.Range renaming rangeSize→U3
open List.Perm renaming eq_of_pairwise→U4
open PyProof.Rows renaming slot_tuple_getitem→MJ,spliced_none→G0,tail_any→Cu
open PySem.Heap.IsSliceOf renaming new→U5
open PySem.Heap.SameBut renaming update→U6
open PySem.IsL renaming update→U7
open Ne renaming symm→Cv
open PySem.Value.str renaming inj→U8
open Sum renaming inr→G1
open PySem.PyData renaming keyHash→U9
open PySem.Txt renaming slice→MK
open PySem.Calls renaming Name_function_global→Va,loadGlobal_builtin→Vb
open LE renaming le→zs
open Prod.mk renaming inj→Vc
open BEq renaming comm→ML
open PySem.MeetsSeq renaming list_pop_last→ZA,list_pop_at→ZB
open LT renaming lt→Cw
open List.Pairwise renaming imp_of_mem→ZC,cons→ZD,nil→ZE
section
open PySem
section
universe u
@[elab_as_elim] def bT {b:Sort u} {d c:b} {a:b→Prop} (f:d=c) (e:a c):a d:=f▸e
@[elab_as_elim] def gT {b:Sort u} {d c:b} {a:b→Prop} (f:c=d) (e:a c):a d:=f▸e
def cG{d:Type}{b:d}{a:Prop}(c:b1=O b):a:=nomatch c
def oB{c:Nat}{b:Nat→Prop}(f:b 0)(d:∀a,a<c→b (a+1)):∀a,a<c+1→b a:=fun a=>by
 induction a with
 |zero=>exact fun g=>f
 |succ a=>exact fun e=>d a (LO e)
def Wh{b:Nat→Prop}:∀a,a<0→b a:=fun a c=>absurd c (tP a)
def WP{b c e a d K:Nat}(f:b+e≤d)(g:c≤K)(h:a+K≤e):b+c+a≤d:=
 cu (jH (nH b c a)) (cu (jq (cu (m7 g a) (cu (jH (qB K a)) h)) b) f)
def Q9{b a:Nat}(c:1+a≤b):(b:Int)-1=((b-(1+a)+a:Nat):Int):=by
 rw [Nat.sub_add_eq,uK (Ty (qB 1 a▸c))]
 exact (UI (cu (fg 1 a) c)).symm
def Ra{b a:Nat}(c:0+a≤b):(b:Int)-0=((b-(0+a)+a:Nat):Int):=by
 rw [kU,uK (kU a▸c),UN]
def WQ{a e c d b f:Nat}(h:a+1+d≤f)(g:d=b+(3+c))(i:e≤2+c):a+e+b≤f-1:=by
 subst g
 refine LP (hH (kT (m7 (jq i a) b) ?_) h)
 rw [nS a 1,nH a,qB (2+c) b,nH a]
 exact vM (jq (jq (m7 (by decide) c) b) a)
def ZF{c d a:Nat}(b:c+1≤d+a)(e:a≤c):c+1≤d-1+(a+1):=by
 rw [qB a 1,← nH,uK (Nat.pos_of_ne_zero fun f=>by rw [f,kU] at b;exact LQ _ (cu b e))]
 exact b
def ZG{a:Int}{b:Nat}(c:a.natAbs≤b):-(b:Int)≤a:=Int.neg_le_of_neg_le (t6 (Int.natAbs_neg a▸UJ) (pN.mpr c))
def Vd{a:Int}{b:Nat}(c:a.natAbs≤b):a≤b:=t6 UJ (pN.mpr c)
def ID{a:Int}{b:Nat}(c:a.natAbs≤b):a.toNat≤b:=Int.toNat_le.mpr (Vd c)
def Oh{a:Int}{b:Nat}(d:0≤a)(c:a<b):a.toNat<b:=(UO d).mpr c
def ZH{a:Int}(b:a<0):-a=(a.natAbs:Int):=(Int.ofNat_natAbs_of_nonpos (MD b)).symm
def ZI{b a:Nat}(d:b≤500)(c:a≤500):((b:Int)-a).natAbs≤1000000:=cu (Int.natAbs_sub_le _ _) (cu (pH d c) (by decide))
def IE{b d a c:Nat}(f:d≤b+4)(e:b+20*(a+1)+20<c):d+3+20*a+20<c:=
 kT (by rw [y7,qB (20*a) 20,← nH];exact m7 (m7 (cu (m7 f 3) (jq (by decide:4+3≤20) b)) _) _) e
def IF{b d a c:Nat}(f:d=b+1)(e:b+4*(a+1)<c):d+1+4*a<c:=
 kT (by rw [f,y7,qB (4*a) 4,← nH];exact m7 (jq (by decide:1+1≤4) b) _) e
def Oi{c a f b:Nat}(e:a=c+1)(d:c+4*(f+1)<b):a<b:=kT (cu (fM a) (fg _ _)) (IF e d)
def WR{a b c:Nat}(d:a+4*(b+1)<c):a+1+4*b<c:=
 kT (by rw [y7,qB (4*b) 4,← nH];exact m7 (jq (by decide:1≤4) a) _) d
def WS{a c b:Nat}(d:a+20*(c+1)+20<b):a+3+20*c+20<b:=IE (fg a 4) d
def abA{a c b:Nat}(d:a+20*c+20<b):a+12<b:=kT (by rw [nS];exact cu (jq (by decide) a) (fg _ _)) d
def WT{b c a:Nat}(d:c<a)(e:a≤b):(b-a)+c<b:=hH (Nat.add_lt_add_left d _) (jH (uK e))
def Rb{d a b c:Nat}(g:d≤a)(h:b≤c)(e:d+b=a+c):d=a∧b=c:=
 have f:b=c:=r6 h (Nat.le_of_add_le_add_left (a:=a) (cu (jH e.symm) (m7 g b)))
 ⟨vL (e.trans (congrArg (a+ ·) f.symm)),f⟩
def ZJ{c b d a:Nat}(e:a+b=c+d):(c:Int)-(b:Int)+(d:Int)=(a:Int):=by
 have f:(a:Int)+b=c+d:=congrArg Int.ofNat e
 rw [MC,Int.add_right_comm,← f,UK,Int.add_right_neg,Int.add_zero]
def abB{a:Nat}(b:3≤a+1):a-1<a:=Gh (q8 (yz b)) Gg
def abC{a:Nat}(b:3≤a+1):3≤a-1+2:=m7 (Ty (yz b)) 2
def abD{a:Nat}(b:3≤a+2):a-1<a:=Gh (yz (yz b)) Gg
def abE(a:Nat):3≤a-1+3:=B8 _ _
def ZK{a b c:Nat}(d:dY ((a:Int)+b≤(c:Int)-2)=ar):a+b+2≤c:=pN.mp (Int.add_le_of_le_sub_right (of_decide_eq_true d))
def Cx{e:Type}{g:Nat}{d:List e→Prop}{b:List e}(f:b.length=g+1)(h:∀c a,a.length=g→d (c::a)):d b:=by
 induction b with
 |nil=>cases f
 |cons c a=>exact h c a (mB f)
def ZL{c:Type}{b:List c→Prop}{a:List c}(e:a.length=0)(d:b []):b a:=by
 induction a with
 |nil=>exact d
 |cons g f=>cases e
def Ve{g:Type}{d:List g→Prop}{h:List g}(b:h.length=3)(i:∀c e f,d [c,e,f]):d h:=Cx b fun c a b=>Cx (d:=fun a=>d (c::a)) b fun e a b=>Cx (d:=fun a=>d (c::e::a)) b fun f a b=>ZL (b:=fun a=>d (c::e::f::a)) b (i c e f)
def ZM{f:Type}{d:List f→Prop}{g:List f}(a:g.length=5)(i:∀c e j h k,d [c,e,j,h,k]):d g:=Cx a fun c b a=>Cx (d:=fun b=>d (c::b)) a fun e b a=>Ve (d:=fun b=>d (c::e::b)) a (i c e)
def WU{e:Type}{d:List e}(f:d.length=3):∃c a b,d=[c,a,b] :=Ve (d:=fun d=>∃c a b,d=[c,a,b]) f fun c a b=>⟨c,a,b,rfl⟩
def WV{g:Type}{f:List g}(h:f.length=5):∃e b c a d,f=[e,b,c,a,d] :=ZM (d:=fun f=>∃e b c a d,f=[e,b,c,a,d]) h fun e b c a d=>⟨e,b,c,a,d,rfl⟩
def bU{b:Prop}(c:∀{a:Prop},(b→a)→a):b:=c id
inductive bl where
 |bX|b3 (b:Bool)|Z (i:Int)|ad (s:b4)
 |cQ (xs:List bl)|a3 (xs:List bl)|gJ (c:Nat) (fs:List bl)
 |fn (k:Nat)|kE (c:Nat)|bi (k:Nat)|ob (d:Nat)
 deriving Inhabited
noncomputable def bl.ctorIdx(b:bl):Nat:=bl.casesOn (motive_1:=fun a=>Nat) b 0 (fun a=>1) (fun a=>2) (fun a=>3) (fun a=>4) (fun a=>5) (fun a a=>6) (fun a=>7) (fun a=>8) (fun a=>9) fun a=>10
inductive bZ where
 |f (v:bl)|cq (i:Nat)|fK (i:Nat)
 deriving Inhabited
inductive dw where
 |a3 (xs:List bl)|d4 (es:List (Sum Int b4×bl))|jW (c:Nat) (fs:List bZ)
 deriving Inhabited
noncomputable abbrev bS:=List (Option dw)
noncomputable abbrev cV:=List (Option bZ)
inductive z8 where|dc|fw|kF|ua|qK|sd(u:Unit)
inductive Fo where|cZ|ne|jL|gm|tq|mC|ft|fY|wb|oc(u:Unit)
mutual
inductive cv where
 |bX|b3 (b:Bool)|Z (i:Int)|ad (s:b4)
 |bW (x:Nat)|b5 (g:Nat)
 |eD (fz:Bool) (op:z8) (a b:cv)
 |gn (a:cv)|pQ (a:cv)
 |ev (xs:dS)|hK (xs:dS)
 |b7 (a:cv) (cs:se)
 |fx (c a b:cv)
 |b0 (fz:Bool) (f:cv) (args:dS)
 |eQ (o:cv) (name:b4) (args:dS)
 |bY (o:cv) (name:b4)
 |cL (o i:cv)
 |fP (fz:Bool) (o:cv) (lo hi:cv)
 |cQ (xs:dS)
 |a3 (fz:Bool) (xs:dS)
 |tr (x rest:cv)
 |d4 (kvs:dS)
 |ei (fz:Bool) (elt:cv) (gens:kG)
 |pR (e:cv)
 |sN
inductive dS where
 |N|J (e:cv) (r:dS)
inductive se where
 |N|J (op:Fo) (e:cv) (r:se)
inductive kG where
 |N|J (xs:List Nat) (wO:Bool) (it:ub) (ifs:dS) (r:kG)
inductive ub where
 |cE (e:cv)|gb (e:cv)|yC (e:cv)|zt (a b:cv)
end
mutual
inductive Cy where
 |df (e:cv)
 |ch (x:Nat) (e:cv)
 |eg (xs:List Nat) (es:dS)
 |i0 (xs:List Nat) (e:cv)
 |jc (o i e:cv)
 |oW (o i p j a b:cv)
 |cw (e:cv)
 |cB (c:cv) (a b:cW)
 |p8 (n:Nat) (c:cv) (b:cW)
 |fT (xs:List Nat) (wO:Bool) (it:ub) (b:cW)
 |gX
 |vY (b:cW)
 |sN
inductive cW where
 |N|J (s:Cy) (r:cW)
end
inductive Vf where
 |cA (b:cW)
 |tu (c:Nat) (fs:List (b4×cv))
structure dz where
 cJ:b4
 b9:Nat
 cn:List b4
 c3:List bl
 cR:Bool
 cN:Vf
structure lb where
 cJ:b4
 dj:List b4
 gx:Nat
 ey:Bool
 kH:List (b4×Nat)
noncomputable abbrev kv(b:b4)(a:bl):b4×bl:=(b,a)
structure rg where
 p9:List dz
 e7:List lb
 pS:List (b4×bl)
 ll:List (List (b4×bl))
noncomputable def Vg:=5
noncomputable def Nl:=9
noncomputable def Vh:=10
noncomputable def IG:=11
section
variable(a:bS)
noncomputable def dw.uc:dw→Option (List bl)
 |.a3 b=>O b
 |_=>b1
noncomputable def dw.Vi:dw→Option (List (Sum Int b4×bl))
 |.d4 b=>O b
 |_=>b1
noncomputable def dw.Vj:dw→Option (Nat×List bZ)
 |.jW b c=>O (b,c)
 |_=>b1
noncomputable def wP(b:Nat):Option dw:=(a[b]?).bind id
def il(b:Nat):Option (List bl):=(wP a b).bind dw.uc
def ml(b:Nat):Option (List (Sum Int b4×bl)):=(wP a b).bind dw.Vi
def wQ(b:Nat):Option (Nat×List bZ):=(wP a b).bind dw.Vj
noncomputable def bl.uc:bl→Option (List bl)
 |.a3 b=>O b
 |_=>b1
noncomputable def bl.kA:bl→Option Int
 |.Z b=>O b
 |_=>b1
noncomputable def bl.tv:bl→Option b4
 |.ad b=>O b
 |_=>b1
noncomputable def bl.QO:bl→Option (Nat×List bl)
 |.gJ b c=>O (b,c)
 |_=>b1
noncomputable def bl.wR:bl→Option Nat
 |.ob b=>O b
 |_=>b1
noncomputable def bl.gv:bl→Bool
 |.bX=>ar
 |_=>b2
noncomputable def bZ.f?:bZ→Option bl
 |.f b=>O b
 |_=>b1
noncomputable def bZ.sf:bZ→Option Nat
 |.cq b=>O b
 |_=>b1
noncomputable def bZ.Vk:bZ→Option Nat
 |.fK b=>O b
 |_=>b1
def bZ.kA(b:bZ):Option Int:=b.f?.bind bl.kA
def bZ.tv(b:bZ):Option b4:=b.f?.bind bl.tv
def bZ.gv(b:bZ):Bool:=b.f?.any bl.gv
def kI(b:bZ):Option (List bl):=b.sf.elim (b.f?.bind bl.uc) (il a)
@[irreducible] noncomputable def QP (b:List bl):Option (bZ×bS):=if b.length≤100000 then O (.cq a.length,a++[O (.a3 b)]) else b1
def iI(fz:Bool)(b:List bl):Option (bZ×bS):=match fz with
 |true=>if b.length≤100000 then O (.f (.a3 b),a) else b1
 |false=>QP a b
end
noncomputable def sg(a:bl→bl→Option Bool):List bl→List bl→Option Bool
 |g::c,e::b=>(a g e).bind fun f=>(sg a c b).map fun d=>f&&d
 |_,_=>O ar
inductive I4 where|bX|b3(b:Bool)|Z(i:Int)|ad(s:b4)
noncomputable def wc:bl→Option I4
 |.bX=>O .bX
 |.b3 a=>O (.b3 a)
 |.Z c=>O (.Z c)
 |.ad b=>O (.ad b)
 |_=>b1
def gh(a:bl):Bool:=(wc a).isSome
noncomputable def si:bl→Option (Bool×List bl)
 |.cQ a=>O (ar,a)
 |.a3 a=>O (b2,a)
 |_=>b1
noncomputable def Q6:I4→I4→Bool
 |.bX,.bX=>ar
 |.b3 a,.b3 b=>a==b
 |.Z a,.Z b=>a==b
 |.b3 a,.Z b=>(if a then 1 else 0)==b
 |.Z a,.b3 b=>a==(if b then 1 else 0)
 |.ad a,.ad b=>a==b
 |_,_=>b2
noncomputable def nt:Nat→bl→bl→Option Bool
 | 0,_,_=>b1
 |e+1,d,c=>match wc d with
  |some f=>(wc c).map (Q6 f)
  |none=>(si d).bind fun a=>(si c).bind fun b=>if a.1=b.1 then (if a.2.length=b.2.length then sg (nt e) a.2 b.2 else cond a.1 b1 (O b2)) else b1
noncomputable def k5:Nat:=12
@[irreducible] noncomputable def lE (a b:bl):Option Bool:=nt k5 a b
def WW(d a:bl):Option Bool:=match d with
 |.Z b=>(match a with
  |.Z c=>O (b==c)
  |_=>lE d a)
 |.ad b=>(match a with
  |.ad c=>O (b==c)
  |_=>lE d a)
 |.b3 b=>(match a with
  |.b3 c=>O (b==c)
  |_=>lE d a)
 |_=>lE d a
def WX(b a:bl):WW b a=nt k5 b a:=by
 have c:lE b a=nt k5 b a:=by unfold lE;rfl
 refine gT c ?_
 unfold WW
 cases b with
 |Z e=>cases a with
  |Z d=>exact c.symm
  |_=>rfl
 |ad e=>cases a with
  |ad d=>exact c.symm
  |_=>rfl
 |b3 e=>cases a with
  |b3 d=>exact c.symm
  |_=>rfl
 |_=>rfl
noncomputable def zu(a:bl):List bl→Option Bool
 |[] =>O b2
 |b::c=>if gh b&&gh a then (nt 1 b a).bind fun e=>(zu a c).map fun d=>e||d else b1
@[irreducible] noncomputable def ic (a:bl) (b:List bl):Option Bool:=zu a b
def ud(c:bS)(a:bZ):Option bl:=a.sf.elim a.f? fun b=>(il c b).map .a3
noncomputable def Nm:bl→Option Bool
 |.bX=>O b2
 |.b3 a=>O a
 |.Z b=>O (b !=0)
 |_=>b1
def qa(b:bS)(a:bZ):Option Bool:=a.f?.bind Nm
noncomputable def g8(a:Int)(b:Nat):Option Nat:=
 if 0≤a then (if a<b∧a<2 ^ 62 then O a.toNat else b1) else if 0≤a+b∧-(2 ^ 62)<a then O (a+b).toNat else b1
noncomputable def jM:bl→Option (Sum Int b4)
 |.Z b=>O (.inl b)
 |.ad a=>O (.inr a)
 |_=>b1
noncomputable def fA(a:Sum Int b4)(b:List (Sum Int b4×bl)):Option bl:=(b.find? fun c=>c.1=a).map (·.2)
noncomputable def gF(c:List (Sum Int b4×bl))(b:Sum Int b4)(d:bl):List (Sum Int b4×bl):=
 if c.any (fun a=>a.1=b) then c.map (fun a=>if a.1=b then (a.1,d) else a) else c++[(b,d)]
section
variable(a:rg)
def Wi(e:bS)(i b:bZ):Option Bool:=i.f?.bind fun c=>(b.f?.bind bl.wR).elim (((ud e b).bind si).bind fun d=>ic c d.2) fun h=>(a.ll[h]?).bind fun f=>c.tv.map fun g=>(f.lookup g).isSome
def fh(f:bS)(g:Fo)(e d:bZ):Option Bool:=
 match g with
 |.cZ=>(ud f e).bind fun c=>(ud f d).bind fun b=>WW c b
 |.ne=>(ud f e).bind fun c=>(ud f d).bind fun b=>(WW c b).map (!·)
 |.jL=>e.kA.bind fun c=>d.kA.bind fun b=>O (dY (c<b))
 |.gm=>e.kA.bind fun c=>d.kA.bind fun b=>O (dY (c≤b))
 |.tq=>e.kA.bind fun c=>d.kA.bind fun b=>O (dY (b<c))
 |.mC=>e.kA.bind fun c=>d.kA.bind fun b=>O (dY (b≤c))
 |.ft=>Wi a f e d
 |.fY=>(Wi a f e d).map (!·)
 |.wb=>cond d.gv (O e.gv) b1
 |.oc _=>cond d.gv (O (!e.gv)) b1
noncomputable def G4(d:bS)(e:z8)(c b:Int):Option (bZ×bS):=match e with
 |.dc=>O (.f (.Z (c+b)),d)
 |.fw=>O (.f (.Z (c-b)),d)
 |.kF=>if c.natAbs<2 ^ 64∧b.natAbs<2 ^ 64 then O (.f (.Z (c*b)),d) else b1
 |.ua=>if b=0∨¬b.natAbs<1073741824 then b1 else O (.f (.Z (Cr c b)),d)
 |.qK=>if b=0 then b1 else O (.f (.Z (pO c b)),d)
 |.sd _=>if c.natAbs<2 ^ 64∧0≤b∧b≤100 then O (.f (.Z (c ^ b.toNat)),d) else b1
noncomputable def z8.ZN:z8→Bool
 |.kF=>ar
 |_=>b2
noncomputable def z8.ZO:z8→Bool
 |.dc=>ar
 |_=>b2
def abF(b:bS)(fz:Bool)(f e:bZ):Option (bZ×bS):=(kI b f).bind fun d=>(kI b e).bind fun c=>iI b fz (d++c)
def WY(c:bS)(fz:Bool)(e:bZ)(d:Int):Option (bZ×bS):=(kI c e).bind fun b=>if d.natAbs≤1000∧b.length≤1000 then iI c fz (ky d.toNat b).flatten else b1
def ZP(c:bS)(fz:Bool)(b:z8)(e:bZ)(d:Int):Option (bZ×bS):=e.kA.elim (cond b.ZN (WY c fz e d) b1) fun f=>G4 c b f d
def pn(c:bS)(fz:Bool)(b:z8)(e d:bZ):Option (bZ×bS):=d.kA.elim (cond b.ZO (abF c fz e d) b1) (ZP c fz b e)
def Y2(c:bZ):Option bZ:=c.kA.map fun b=>.f (.Z (-b))
noncomputable def we{b:Type}(c:Nat)(d:List b)(g:b4):Option b:=(a.e7[c]?).bind fun f=>(f.dj.idxOf? g).bind fun e=>d[e]?
def zv(f:bS)(c:bZ)(d:b4):Option bZ:=c.Vk.elim ((c.f?.bind bl.QO).bind fun b=>(we a b.1 b.2 d).map .f) fun e=>(wQ f e).bind fun b=>we a b.1 b.2 d
def uO(d:bS)(c:bZ)(b:Sum Int b4):Option bl:=(c.sf.bind (ml d)).bind (fA b)
noncomputable def abG(b:b4)(d:Nat):Option bl:=(a.ll[d]?).bind fun c=>c.lookup b
def abH(d:bS)(c:bZ)(b:b4):Option bl:=(c.f?.bind bl.wR).elim (uO d c (.inr b)) (abG a b)
def abI(c:Int)(d:bl):Option bl:=(si d).bind fun b=>(g8 c b.2.length).bind (b.2[·]?)
def abJ(d:bS)(c:bZ)(b:Int):Option bl:=(ud d c).elim (uO d c (.inl b)) (abI b)
def jX(d:bS)(b c:bZ):Option bl:=c.kA.elim (c.tv.bind (abH a d b)) (abJ d b)
def abK(e:bS)(d:bZ)(c:Nat)(g:bl)(b:List (Sum Int b4×bl)):Option bS:=if b.length≤1000 then (d.f?.bind jM).map fun f=>e.set c (O (.d4 (gF b f g))) else b1
def abL(g:bS)(f:bZ)(e:Nat)(h:bl)(b:List bl):Option bS:=f.kA.bind fun c=>if 0≤c then (g8 c b.length).map fun d=>g.set e (O (.a3 (b.set d h))) else b1
def abM(c:bS)(e:bZ)(b:Nat)(d:bl):Option bS:=(il c b).elim ((ml c b).bind (abK c e b d)) (abL c e b d)
def l4(f:bS)(c e b:bZ):Option bS:=c.sf.bind fun d=>b.f?.bind (abM f e d)
noncomputable def x6{b:Type}(c:List b)(e d:Option Nat):List b:=(c.take (d.getD c.length)).drop (e.getD 0)
def rO(c:bZ):Option (Option Nat):=c.kA.elim (cond c.gv (O b1) b1) fun b=>if 0≤b∧b.natAbs<2 ^ 62 then O (O b.toNat) else b1
noncomputable def ZQ(c:bS)(f e:Option Nat)(b:b4):Option (bZ×bS):=cond f.isSome b1 (e.bind fun d=>if b.length≤100000 then O (.f (.ad (MK b b1 (O (d:Int)))),c) else b1)
noncomputable def ZR(d:bS)(f e:Option Nat)(b:List bl):Option (bZ×bS):=cond e.isSome b1 (f.bind fun c=>if c≤b.length∧b.length≤100000 then O (.f (.cQ (b.drop c)),d) else b1)
def WZ(c:bS)(fz:Bool)(e d:Option Nat)(b:List bl):Option (bZ×bS):=if b.length≤100000 then iI c fz (x6 b e d) else b1
def ZS(c:bS)(fz:Bool)(e d:Option Nat)(b:Bool×List bl):Option (bZ×bS):=cond b.1 (ZR c e d b.2) (WZ c fz e d b.2)
def slF(b:bS)(fz:Bool)(d c:Option Nat)(e:bl):Option (bZ×bS):=(si e).elim (e.tv.bind (ZQ b d c)) (ZS b fz d c)
def jY(b:bS)(fz:Bool)(c e g:bZ):Option (bZ×bS):=(rO e).bind fun f=>(rO g).bind fun d=>(ud b c).bind (slF b fz f d)
noncomputable def gY:bl→Option b4
 |.bX=>O "None"
 |.b3 ar=>O "True"
 |.b3 b2=>O "False"
 |.Z c=>if c.natAbs<10 ^ 10 then O (oA (toString c)) else b1
 |.ad b=>if (GK b).length≤100000 then O (GK b) else b1
 |_=>b1
inductive TyK where|bX|b3|Z|ad|cQ|IH(u:Unit)
noncomputable def tyK:bl→TyK
 |.bX=>.bX
 |.b3 _=>.b3
 |.Z _=>.Z
 |.ad _=>.ad
 |.cQ _=>.cQ
 |_=>.IH ()
noncomputable def bl.Y3:bl→Option Nat
 |.kE b=>O b
 |_=>b1
noncomputable def bl.bi?:bl→Option Nat
 |.bi b=>O b
 |_=>b1
def Vl(b:Nat)(c:TyK):Option Bool:=
 if b=Vg then (match c with|.Z|.b3=>O ar|_=>b1)
 else if b=Nl then (match c with|.b3=>O ar|.Z|.ad=>O b2|_=>b1)
 else if b=Vh then (match c with|.ad=>O ar|_=>b1)
 else if b=IG then (match c with|.cQ=>O ar|.bX=>O b2|_=>b1)
 else b1
def Y4(b:bl)(c:bl):Option Bool:=c.Y3.elim (c.bi?.bind fun f=>Vl f (tyK b)) fun d=>b.QO.bind fun e=>if d=e.1 then O ar else b1
noncomputable def Cz:List bl→Option (List Int)
 |[] =>O []
 |.Z c::b=>(Cz b).map (c:: ·)
 |_=>b1
noncomputable def MM:List bl→Option (List b4)
 |[] =>O []
 |.ad c::b=>(MM b).map (c:: ·)
 |_=>b1
noncomputable def ie(b c:b4):Bool:=dY (b.cps.toList≤c.cps.toList)
def abN(b:bl):Option Nat:=(si b).elim (b.tv.map Str.length) fun c=>O c.2.length
noncomputable def JG:List bZ→Option bZ
 |[b] =>O b
 |_=>b1
noncomputable def Wj:List bZ→Option (bZ×bZ)
 |[b,c] =>O (b,c)
 |_=>b1
noncomputable def ZT(b:Int→Int→Int):List Int→Option Int
 |d::c=>O (c.foldl b d)
 |[] =>b1
noncomputable def bl.Vm:bl→Option Bool
 |.b3 b=>O b
 |_=>b1
def Wl(b:bS)(fz:Bool)(d:bZ):Option (bZ×bS):=(ud b d).bind fun e=>(abN e).bind fun c=>if c≤100000 then O (.f (.Z c),b) else b1
def MN(b:bS)(fz:Bool)(d:bZ):Option (bZ×bS):=(ud b d).bind fun e=>(si e).bind fun c=>iI b fz c.2
def vZ(d:Int→Int→Int)(b:bS)(fz:Bool)(g:bZ):Option (bZ×bS):=(kI b g).bind fun f=>(Cz f).bind fun c=>(ZT d c).map fun e=>(.f (.Z e),b)
def Wm(d:bS)(fz:Bool)(b:bZ):Option (bZ×bS):=b.kA.map fun c=>(.f (.Z c.natAbs),d)
def Wn(d:bS)(fz:Bool)(b:bZ):Option (bZ×bS):=(b.f?.bind bl.Vm).map fun c=>(.f (.Z (if c then 1 else 0)),d)
def MO(d:bS)(fz:Bool)(b:bZ):Option (bZ×bS):=(b.f?.bind gY).map fun c=>(.f (.ad c),d)
def MP(c:bS)(fz:Bool)(e:bZ):Option (bZ×bS):=(kI c e).bind fun d=>(MM d).bind fun b=>if b.length<64 then iI c fz ((b.mergeSort ie).map .ad) else b1
def abO(d:bS)(b:bZ×bZ):Option (bZ×bS):=b.1.f?.bind fun c=>b.2.f?.bind fun f=>(Y4 c f).map fun e=>(.f (.b3 e),d)
def Vn:List (bS→Bool→bZ→Option (bZ×bS)):=[Wl,MN,vZ max,vZ min,Wm,Wn,MO,MP]
def eW(c:bS)(fz:Bool)(d:Nat)(b:List bZ):Option (bZ×bS):=
 cond (Nat.beq d 8) ((Wj b).bind (abO c)) ((JG b).bind fun f=>(Vn[d]?).bind fun e=>e c fz f)
inductive oC where
 |eJ|gA|iU|Dk|fn (g:Nat)
noncomputable def oC.ctorIdx(c:oC):Nat:=oC.casesOn (motive:=fun b=>Nat) c 0 1 2 3 fun b=>4
noncomputable def z9(c:Nat)(d:b4):Option oC:=(a.e7[c]?).bind fun b=>(b.kH.lookup d).map .fn
def W0(d:bS)(c:Nat)(b:b4):Option oC:=(il d c).elim ((ml d c).bind fun e=>if b="get" then O .iU else b1) fun e=>if b="append" then O .eJ else if b="pop" then O .gA else b1
def W1(b:bl)(c:b4):Option oC:=b.wR.elim (b.QO.bind fun d=>z9 a d.1 c) fun e=>if c="get" then (a.ll[e]?).map fun f=>.Dk else b1
def jN(d:bS)(e:bZ)(c:b4):Option oC:=match e with
 |.cq b=>W0 d b c
 |.fK b=>(wQ d b).bind fun f=>z9 a f.1 c
 |.f g=>W1 a g c
noncomputable def MQ(e:bS)(d:Nat)(b:List bl)(c:Nat):Option (bZ×bS):=if b.length≤100000 then (b[c]?).map fun f=>(.f f,e.set d (O (.a3 (b.eraseIdx c)))) else b1
def abP(e:bS)(c:List bZ)(d:Nat)(b:List bl):Option (bZ×bS):=((JG c).bind bZ.f?).bind fun f=>if b.length≤100000 then O (.f .bX,e.set d (O (.a3 (b++[f])))) else b1
def abQ(e:bS)(d:Nat)(b:List bl)(g:bZ):Option (bZ×bS):=g.kA.bind fun f=>(g8 f b.length).bind fun c=>MQ e d b c
def abR(e:bS)(d:List bZ)(c:Nat)(b:List bl):Option (bZ×bS):=(JG d).elim (cond d.isEmpty (MQ e c b (b.length-1)) b1) (abQ e c b)
def abS(e:bS)(d:List bZ)(c:List (Sum Int b4×bl)):Option (bZ×bS):=((JG d).bind bZ.tv).map fun b=>(.f ((fA (.inr b) c).getD .bX),e)
def ZU(d:bS)(g:Nat)(b:bZ×bZ):Option (bZ×bS):=b.1.tv.bind fun e=>b.2.f?.bind fun c=>(a.ll[g]?).map fun f=>(.f ((f.lookup e).getD c),d)
def jk(c:bS)(g:oC)(d:bZ)(e:List bZ):Option (bZ×bS):=match g with
 |.eJ=>d.sf.bind fun b=>(il c b).bind (abP c e b)
 |.gA=>d.sf.bind fun b=>(il c b).bind (abR c e b)
 |.iU=>d.sf.bind fun b=>(ml c b).bind (abS c e)
 |.Dk=>(d.f?.bind bl.wR).bind fun f=>(Wj e).bind (ZU a c f)
 |.fn _=>b1
def Wo(b:bS)(d:bZ):Option (bZ×bS):=d.sf.elim (d.f?.map fun f=>(.f f,b)) fun c=>(il b c).map fun e=>(.f (.a3 e),b.set c b1)
noncomputable def dL(b:Int):List bl:=(f5 b.toNat).map fun (c:Nat)=>.Z c
noncomputable def eV(c:List bl):List bl:=(c.zipIdx).map fun (b:bl×Nat)=>.cQ [.Z b.2,b.1]
noncomputable def iC(d c:List bl):List bl:=(d.zip c).map fun (b:bl×bl)=>.cQ [b.1,b.2]
noncomputable def CA:bl→Bool
 |.cQ _=>ar
 |_=>b2
def DA(c:Bool):bZ→Option (List bl)
 |.f (.a3 b)=>if c then (if b.all CA then O b else b1) else O b
 |.f (.cQ b)=>if c then b1 else O b
 |_=>b1
noncomputable def ld(b:b4):List bl:=b.cps.toList.map fun c=>.ad ⟨#[c]⟩
noncomputable def h5:kG→List Nat
 |.N=>[]
 |.J c _ _ _ b=>c++h5 b
noncomputable def Vo(c:cV)(d:List Nat):Bool:=d.all fun b=>(c[b]?).join.isNone
inductive ue where
 |cc|gX|cw (v:bZ)
end
end
noncomputable def EL:dz where
 cJ:="__init__"
 b9:=5
 cn:=["self","op","a","b","c","line"]
 c3:=[]
 cR:=b2
 cN:=.tu 0 [("op",(.bW 1)),
 ("a",(.bW 2)),
 ("b",(.bW 3)),
 ("c",(.bW 4)),
 ("line",(.bW 5))]
noncomputable def sO:dz where
 cJ:="with_target"
 b9:=2
 cn:=["self","target"]
 c3:=[]
 cR:=b2
 cN:=.cA (.J (.cw (.b0 ar (.b5 0) (.J (.bY (.bW 0) "op") (.J (.bW 1) (.J (.bY (.bW 0) "b") (.J (.bY (.bW 0) "c") (.J (.bY (.bW 0) "line") .N)))))))
 .N)
noncomputable def zM:dz where
 cJ:="__init__"
 b9:=5
 cn:=["self","sort","first","last","target","depth"]
 c3:=[]
 cR:=b2
 cN:=.tu 1 [("sort",(.bW 1)),
 ("first",(.bW 2)),
 ("last",(.bW 3)),
 ("target",(.bW 4)),
 ("depth",(.bW 5))]
noncomputable def wS:dz where
 cJ:="covers"
 b9:=2
 cn:=["self","place"]
 c3:=[]
 cR:=b2
 cN:=.cA (.J (.cw (.b7 (.bY (.bW 0) "first") (.J .gm (.bW 1) (.J .jL (.bY (.bW 0) "last") .N))))
 .N)
noncomputable def CB:dz where
 cJ:="__init__"
 b9:=8
 cn:=["self","kind","name","params","slots","rows","catches","children","starts"]
 c3:=[]
 cR:=b2
 cN:=.tu 2 [("kind",(.bW 1)),
 ("name",(.bW 2)),
 ("params",(.bW 3)),
 ("slots",(.bW 4)),
 ("rows",(.bW 5)),
 ("catches",(.bW 6)),
 ("children",(.bW 7)),
 ("starts",(.bW 8)),
 ("number",.bX)]
noncomputable def uC:dz where
 cJ:="with_rows"
 b9:=5
 cn:=["self","rows","catches","starts","children"]
 c3:=[]
 cR:=b2
 cN:=.cA (.J (.cw (.b0 ar (.b5 1) (.J (.bY (.bW 0) "kind") (.J (.bY (.bW 0) "name") (.J (.bY (.bW 0) "params") (.J (.bY (.bW 0) "slots") (.J (.bW 1) (.J (.bW 2) (.J (.bW 4) (.J (.bW 3) .N))))))))))
 .N)
noncomputable def CC:dz where
 cJ:="effect_of"
 b9:=1
 cn:=["row","told"]
 c3:=[]
 cR:=b2
 cN:=.cA (.J (.ch 1 (.cL (.b5 2) (.bY (.bW 0) "op")))
 (.J (.cw (.fx (.b0 ar (.b5 3) (.J (.bW 1) (.J (.b5 4) .N))) (.bW 1) (.b0 ar (.bW 1) (.J (.bW 0) .N))))
 .N))
noncomputable def EM:dz where
 cJ:="is_whole"
 b9:=1
 cn:=["value"]
 c3:=[]
 cR:=b2
 cN:=.cA (.J (.cw (.ev (.J (.b0 ar (.b5 3) (.J (.bW 0) (.J (.b5 5) .N))) (.J (.gn (.b0 ar (.b5 3) (.J (.bW 0) (.J (.b5 6) .N)))) .N))))
 .N)
noncomputable def zN:dz where
 cJ:="is_operand"
 b9:=3
 cn:=["row","letter","value"]
 c3:=[]
 cR:=b2
 cN:=.cA (.J (.cB (.b7 (.bW 1) (.J .ft (.cQ (.J (.ad "n") (.J (.ad "t") .N))) .N)) (.J (.cw (.b0 ar (.b5 3) (.J (.bW 2) (.J (.b5 7) .N))))
 .N) .N)
 (.J (.cB (.b7 (.bW 1) (.J .ft (.cQ (.J (.ad "c") (.J (.ad "p") .N))) .N)) (.J (.cw (.ev (.J (.b0 ar (.b5 8) (.J (.bW 2) .N)) (.J (.b7 (.bW 2) (.J .mC (.Z 0) .N)) .N))))
 .N) .N)
 (.J (.cB (.b7 (.bW 1) (.J .cZ (.ad "a") .N)) (.J (.cw (.ev (.J (.b0 ar (.b5 8) (.J (.bW 2) .N)) (.J (.b7 (.bW 2) (.J .mC (.pQ (.Z 1)) .N)) .N))))
 .N) .N)
 (.J (.cB (.b7 (.bW 1) (.J .cZ (.ad "i") .N)) (.J (.cw (.b0 ar (.b5 8) (.J (.bW 2) .N)))
 .N) .N)
 (.J (.cB (.b7 (.bW 1) (.J .cZ (.ad "f") .N)) (.J (.cw (.b0 ar (.b5 3) (.J (.bW 2) (.J (.b5 6) .N))))
 .N) .N)
 (.J (.cB (.b7 (.bW 1) (.J .cZ (.ad "r") .N)) (.J (.cw (.hK (.J (.b7 (.bW 2) (.J .wb .bX .N)) (.J (.b7 (.bW 2) (.J .cZ (.Z 1) .N)) .N))))
 .N) .N)
 (.J (.cB (.b7 (.bW 1) (.J .cZ (.ad "k") .N)) (.J (.cw (.b0 ar (.b5 3) (.J (.bW 2) (.J (.cQ (.J (.b5 9) (.J (.b5 4) .N))) .N))))
 .N) .N)
 (.J (.cB (.b7 (.bW 1) (.J .cZ (.ad "b") .N)) (.J (.cw (.b0 ar (.b5 10) (.J (.bW 2) .N)))
 .N) .N)
 (.J (.cw (.fx (.b7 (.bW 1) (.J .cZ (.ad "s") .N)) (.b0 ar (.b5 11) (.J (.bW 0) (.J (.bW 2) .N))) (.b3 ar)))
 .N)))))))))
noncomputable def EN:dz where
 cJ:="child_of"
 b9:=1
 cn:=["row","block"]
 c3:=[]
 cR:=b2
 cN:=.cA (.J (.cB (.b7 (.bY (.bW 0) "op") (.J .cZ (.ad "lambda") .N)) (.J (.cw (.cQ (.J (.bY (.bW 0) "a") (.J (.ad "block") .N))))
 .N) .N)
 (.J (.cB (.b7 (.bY (.bW 0) "op") (.J .ft (.cQ (.J (.ad "def") (.J (.ad "sdef") .N))) .N)) (.J (.cw (.cQ (.J (.bY (.bW 0) "b") (.J (.ad "method") .N))))
 .N) .N)
 (.J (.cB (.b7 (.bY (.bW 0) "op") (.J .ft (.cQ (.J (.ad "class") (.J (.ad "module") .N))) .N)) (.J (.cw (.cQ (.J (.bY (.bW 0) "b") (.J (.ad "class") .N))))
 .N) .N)
 (.J (.cB (.b7 (.bY (.bW 0) "op") (.J .cZ (.ad "sclass") .N)) (.J (.cw (.cQ (.J (.bY (.bW 0) "a") (.J (.ad "class") .N))))
 .N) .N)
 (.J (.ch 1 .bX)
 (.J (.cB (.b7 (.bY (.bW 0) "op") (.J .cZ (.ad "send") .N)) (.J (.ch 1 (.cL (.bY (.bW 0) "c") (.Z 1)))
 .N) (.J (.cB (.b7 (.bY (.bW 0) "op") (.J .cZ (.ad "super") .N)) (.J (.ch 1 (.bY (.bW 0) "b"))
 .N) (.J (.cB (.b7 (.bY (.bW 0) "op") (.J .cZ (.ad "zsuper") .N)) (.J (.ch 1 (.bY (.bW 0) "a"))
 .N) .N)
 .N))
 .N))
 (.J (.cw (.fx (.b0 ar (.b5 3) (.J (.bW 1) (.J (.b5 4) .N))) (.cQ (.J (.cL (.bW 1) (.Z 1)) (.J (.ad "block") .N))) .bX))
 .N)))))))
noncomputable def vn:dz where
 cJ:="__init__"
 b9:=2
 cn:=["self","code","outer"]
 c3:=[]
 cR:=b2
 cN:=.tu 3 [("code",(.bW 1)),
 ("seen",(.fx (.b7 (.bY (.bW 1) "kind") (.J .cZ (.ad "block") .N)) (.tr (.bW 1) (.bW 2)) (.a3 ar (.J (.bW 1) .N)))),
 ("depths",(.eD b2 .kF (.a3 ar (.J .bX .N)) (.b0 ar (.b5 12) (.J (.bY (.bW 1) "rows") .N)))),
 ("waiting",(.a3 b2 .N))]
noncomputable def uD:dz where
 cJ:="reach"
 b9:=4
 cn:=["self","place","depth","origin","known"]
 c3:=[]
 cR:=b2
 cN:=.cA (.J (.cB (.hK (.J (.gn (.b0 ar (.b5 8) (.J (.bW 1) .N))) (.J (.gn (.b7 (.Z 0) (.J .gm (.bW 1) (.J .jL (.b0 ar (.b5 12) (.J (.bY (.bY (.bW 0) "code") "rows") .N)) .N)))) .N))) (.J (.df .sN)
 .N) .N)
 (.J (.ch 4 (.cL (.bY (.bW 0) "depths") (.bW 1)))
 (.J (.cB (.b7 (.bW 4) (.J .wb .bX .N)) (.J (.jc (.bY (.bW 0) "depths") (.bW 1) (.bW 2))
 (.J (.df (.eQ (.bY (.bW 0) "waiting") "append" (.J (.bW 1) .N)))
 .N)) (.J (.cB (.b7 (.bW 4) (.J .ne (.bW 2) .N)) (.J (.df .sN)
 .N) .N)
 .N))
 .N)))
noncomputable def oD:cW:=(.J (.cB (.gn (.b0 ar (.b5 14) (.J (.bW 2) (.J (.bW 6) (.J (.cL (.bW 4) (.bW 5)) .N))))) (.J (.df .sN)
 .N) .N)
 .N)
noncomputable def oE:cv:=.ei ar (.bW 7) (.J [7] b2 (.cE (.fP ar (.bW 4) (.b0 ar (.b5 12) (.J (.bW 3) .N)) .bX)) (.J (.b7 (.bW 7) (.J (.oc ()) .bX .N)) .N) .N)
def qq:dz where
 cJ:="need_form"
 b9:=3
 cn:=["self","place","row","letters","told","at","letter","value"]
 c3:=[]
 cR:=b2
 cN:=.cA (.J (.cB (.hK (.J (.gn (.b0 ar (.b5 3) (.J (.bW 2) (.J (.b5 0) .N)))) (.J (.gn (.b0 ar (.b5 3) (.J (.bY (.bW 2) "op") (.J (.b5 7) .N)))) (.J (.b7 (.bY (.bW 2) "op") (.J .fY (.b5 2) .N)) .N)))) (.J (.df .sN)
 .N) .N)
 (.J (.eg [3,4] (.J (.eQ (.b5 13) "get" (.J (.bY (.bW 2) "op") (.J (.ad "") .N))) (.J (.cQ (.J (.bY (.bW 2) "a") (.J (.bY (.bW 2) "b") (.J (.bY (.bW 2) "c") .N)))) .N)))
 (.J (.fT [5,6] ar (.yC (.bW 3)) oD)
 (.J (.cB (.b7 oE (.J .ne (.a3 ar .N) .N)) (.J (.df .sN)
 .N) .N)
 (.J (.cB (.ev (.J (.b7 (.bY (.bW 2) "op") (.J .ft (.b5 15) .N)) (.J (.b7 (.bY (.bW 2) "a") (.J .mC (.b0 ar (.b5 12) (.J (.bY (.bY (.bW 0) "code") "rows") .N)) .N)) .N))) (.J (.df .sN)
 .N) .N)
 .N)))))
noncomputable def p4:dz where
 cJ:="need_slots"
 b9:=3
 cn:=["self","place","row"]
 c3:=[]
 cR:=b2
 cN:=.cA (.J (.cB (.hK (.J (.b7 (.bY (.bW 2) "a") (.J .mC (.b0 ar (.b5 12) (.J (.bY (.bW 0) "seen") .N)) .N)) (.J (.b7 (.bY (.bW 2) "b") (.J .mC (.b0 ar (.b5 12) (.J (.bY (.cL (.bY (.bW 0) "seen") (.bY (.bW 2) "a")) "slots") .N)) .N)) .N))) (.J (.df .sN)
 .N) .N)
 .N)
noncomputable def p5:dz where
 cJ:="need_child"
 b9:=3
 cn:=["self","place","row","told","index","kind"]
 c3:=[]
 cR:=b2
 cN:=.cA (.J (.ch 3 (.b0 ar (.b5 16) (.J (.bW 2) .N)))
 (.J (.cB (.b7 (.bW 3) (.J (.oc ()) .bX .N)) (.J (.i0 [4,5] (.bW 3))
 (.J (.cB (.hK (.J (.gn (.b7 (.Z 0) (.J .gm (.bW 4) (.J .jL (.b0 ar (.b5 12) (.J (.bY (.bY (.bW 0) "code") "children") .N)) .N)))) (.J (.b7 (.bY (.cL (.bY (.bY (.bW 0) "code") "children") (.bW 4)) "kind") (.J .ne (.bW 5) .N)) .N))) (.J (.df .sN)
 .N) .N)
 .N)) .N)
 .N))
noncomputable def jO:cW:=(.J (.cB (.eQ (.bW 2) "covers" (.J (.bW 1) .N)) (.J (.cB (.b7 (.bW 4) (.J .jL (.bY (.bW 2) "depth") .N)) (.J (.df .sN)
 .N) .N)
 (.J (.df (.eQ (.bW 0) "reach" (.J (.bY (.bW 2) "target") (.J (.eD ar .dc (.bY (.bW 2) "depth") (.Z 1)) (.J (.bW 1) .N)))))
 .N)) .N)
 .N)
def lB:dz where
 cJ:="step"
 b9:=2
 cn:=["self","place","one","row","depth","taken","put"]
 c3:=[]
 cR:=b2
 cN:=.cA (.J (.eg [3,4] (.J (.cL (.bY (.bY (.bW 0) "code") "rows") (.bW 1)) (.J (.cL (.bY (.bW 0) "depths") (.bW 1)) .N)))
 (.J (.i0 [5,6] (.b0 ar (.b5 17) (.J (.bW 3) .N)))
 (.J (.cB (.b7 (.bW 4) (.J .jL (.bW 5) .N)) (.J (.df .sN)
 .N) .N)
 (.J (.cB (.b7 (.bY (.bW 3) "op") (.J .ft (.b5 15) .N)) (.J (.df (.eQ (.bW 0) "reach" (.J (.bY (.bW 3) "a") (.J (.eD ar .dc (.eD ar .fw (.bW 4) (.bW 5)) (.bW 6)) (.J (.bW 1) .N)))))
 .N) .N)
 (.J (.cB (.b7 (.bY (.bW 3) "op") (.J .fY (.b5 18) .N)) (.J (.df (.eQ (.bW 0) "reach" (.J (.eD ar .dc (.bW 1) (.Z 1)) (.J (.eD ar .dc (.eD ar .fw (.bW 4) (.bW 5)) (.bW 6)) (.J (.bW 1) .N)))))
 .N) .N)
 (.J (.fT [2] b2 (.cE (.bY (.bY (.bW 0) "code") "catches")) jO)
 .N))))))
noncomputable def m0:cv:=.ei ar (.b0 ar (.b5 8) (.J (.bW 4) .N)) (.J [4] b2 (.cE (.bW 3)) .N .N)
def m1:cW:=(.J (.ch 2 (.b0 ar (.b5 12) (.J (.bY (.bY (.bW 0) "code") "rows") .N)))
 (.J (.ch 3 (.fx (.b0 ar (.b5 3) (.J (.bW 1) (.J (.b5 19) .N))) (.a3 ar (.J (.bY (.bW 1) "first") (.J (.bY (.bW 1) "last") (.J (.bY (.bW 1) "target") (.J (.bY (.bW 1) "depth") .N))))) (.a3 ar (.J .bX .N))))
 (.J (.cB (.hK (.J (.b7 (.b3 b2) (.J .ft m0 .N)) (.J (.b7 (.bY (.bW 1) "sort") (.J .fY (.b5 20) .N)) (.J (.gn (.b7 (.Z 0) (.J .gm (.cL (.bW 3) (.Z 0)) (.J .jL (.cL (.bW 3) (.Z 1)) (.J .gm (.bW 2) .N))))) .N)))) (.J .sN
 .N) .N)
 (.J (.cB (.hK (.J (.gn (.b7 (.Z 0) (.J .gm (.bY (.bW 1) "target") (.J .jL (.bW 2) .N)))) (.J (.b7 (.bY (.bW 1) "depth") (.J .jL (.Z 0) .N)) .N))) (.J .sN
 .N) .N)
 .N))))
def oF:dz where
 cJ:="need_catches"
 b9:=1
 cn:=["self","one","many","at","n"]
 c3:=[]
 cR:=b2
 cN:=.cA (.J (.fT [1] b2 (.cE (.bY (.bY (.bW 0) "code") "catches")) m1)
 .N)
noncomputable def sP:cW:=(.J (.df (.eQ (.bW 0) "need_form" (.J (.bW 2) (.J (.bW 3) .N))))
 (.J (.cB (.b7 (.bY (.bW 3) "op") (.J .ft (.cQ (.J (.ad "getl") (.J (.ad "setl") .N))) .N)) (.J (.df (.eQ (.bW 0) "need_slots" (.J (.bW 2) (.J (.bW 3) .N))))
 .N) .N)
 (.J (.df (.eQ (.bW 0) "need_child" (.J (.bW 2) (.J (.bW 3) .N))))
 .N)))
noncomputable def sQ:cW:=(.J (.df (.eQ (.bW 0) "reach" (.J (.bW 1) (.J (.Z 0) (.J (.bW 1) .N)))))
 .N)
noncomputable def sR:cv:=(.b7 (.b0 ar (.b5 12) (.J (.bY (.bW 0) "waiting") .N)) (.J .tq (.Z 0) .N))
noncomputable def sS:cW:=(.J (.df (.eQ (.bW 0) "step" (.J (.eQ (.bY (.bW 0) "waiting") "pop" .N) .N)))
 .N)
def wT:dz where
 cJ:="run"
 b9:=1
 cn:=["self","start","place","row"]
 c3:=[]
 cR:=b2
 cN:=.cA (.J (.cB (.hK (.J (.b7 (.bY (.bY (.bW 0) "code") "kind") (.J .fY (.b5 21) .N)) (.J (.b7 (.b0 ar (.b5 12) (.J (.bY (.bY (.bW 0) "code") "starts") .N)) (.J .cZ (.Z 0) .N)) .N))) (.J .sN
 .N) .N)
 (.J (.fT [2,3] ar (.yC (.bY (.bY (.bW 0) "code") "rows")) sP)
 (.J (.df (.eQ (.bW 0) "need_catches" .N))
 (.J (.fT [1] b2 (.cE (.bY (.bY (.bW 0) "code") "starts")) sQ)
 (.J (.p8 1000 sR sS)
 .N)))))
noncomputable def vq:cv:=.ei ar (.bW 4) (.J [4] b2 (.cE (.bY (.bW 0) "children")) (.J (.gn (.b0 ar (.b5 3) (.J (.bW 4) (.J (.b5 1) .N)))) .N) .N)
noncomputable def vr:cW:=(.J (.df (.b0 ar (.b5 23) (.J (.bW 3) (.J (.fx (.b7 (.bY (.bW 3) "kind") (.J .cZ (.ad "block") .N)) (.bY (.bW 2) "seen") (.cQ .N)) .N))))
 .N)
def sD:dz where
 cJ:="check_rows"
 b9:=2
 cn:=["code","outer","check","child","child"]
 c3:=[(.cQ [])]
 cR:=b2
 cN:=.cA (.J (.ch 2 (.b0 ar (.b5 22) (.J (.bW 0) (.J (.bW 1) .N))))
 (.J (.cB (.b7 vq (.J .ne (.a3 ar .N) .N)) (.J .sN
 .N) .N)
 (.J (.df (.eQ (.bW 2) "run" .N))
 (.J (.fT [3] b2 (.cE (.bY (.bW 0) "children")) vr)
 (.J (.cw (.pR (.bY (.bW 2) "depths")))
 .N)))))
noncomputable def Oj:dz where
 cJ:="is_op"
 b9:=2
 cn:=["row","ops"]
 c3:=[]
 cR:=b2
 cN:=.cA (.J (.cw (.ev (.J (.b7 (.bW 0) (.J (.oc ()) .bX .N)) (.J (.b7 (.bY (.bW 0) "op") (.J .ft (.bW 1) .N)) .N))))
 .N)
noncomputable def Ok:dz where
 cJ:="truth"
 b9:=1
 cn:=["value"]
 c3:=[]
 cR:=b2
 cN:=.cA (.J (.cw (.ev (.J (.b7 (.bW 0) (.J (.oc ()) .bX .N)) (.J (.gn (.ev (.J (.b0 ar (.b5 3) (.J (.bW 0) (.J (.b5 6) .N))) (.J (.gn (.bW 0)) .N)))) .N))))
 .N)
noncomputable def yD:cW:=(.J (.cB (.b7 (.bY (.bW 2) "op") (.J .ft (.b5 15) .N)) (.J (.jc (.bW 1) (.bY (.bW 2) "a") (.b3 ar))
 .N) .N)
 .N)
noncomputable def yE:cW:=(.J (.jc (.bW 1) (.bY (.bW 3) "target") (.b3 ar))
 .N)
noncomputable def yF:cW:=(.J (.jc (.bW 1) (.bW 4) (.b3 ar))
 .N)
def EO:dz where
 cJ:="marks_of"
 b9:=1
 cn:=["code","found","row","one","start"]
 c3:=[]
 cR:=b2
 cN:=.cA (.J (.ch 1 (.eD b2 .kF (.a3 ar (.J (.b3 b2) .N)) (.eD ar .dc (.b0 ar (.b5 12) (.J (.bY (.bW 0) "rows") .N)) (.Z 1))))
 (.J (.fT [2] b2 (.cE (.bY (.bW 0) "rows")) yD)
 (.J (.fT [3] b2 (.cE (.bY (.bW 0) "catches")) yE)
 (.J (.fT [4] b2 (.cE (.bY (.bW 0) "starts")) yF)
 (.J (.cw (.pR (.bW 1)))
 .N)))))
noncomputable def zO:cW:=(.J (.df (.eQ (.bW 6) "append" (.J (.b0 ar (.b5 12) (.J (.bW 3) .N)) .N)))
 (.J (.cB (.b7 (.bW 2) (.J (.oc ()) .bX .N)) (.J (.df (.eQ (.bW 3) "append" (.J (.bW 2) .N)))
 .N) .N)
 .N))
noncomputable def zP:cv:=.ei b2 (.fx (.b7 (.bY (.bW 9) "op") (.J .ft (.b5 15) .N)) (.eQ (.bW 9) "with_target" (.J (.cL (.bW 6) (.bY (.bW 9) "a")) .N)) (.bW 9)) (.J [9] b2 (.cE (.pR (.bW 3))) .N .N)
noncomputable def zQ:cW:=(.J (.eg [7,8] (.J (.cL (.bW 6) (.bY (.bW 5) "first")) (.J (.cL (.bW 6) (.bY (.bW 5) "last")) .N)))
 (.J (.cB (.b7 (.bW 7) (.J .jL (.bW 8) .N)) (.J (.df (.eQ (.bW 4) "append" (.J (.b0 ar (.b5 19) (.J (.bY (.bW 5) "sort") (.J (.bW 7) (.J (.bW 8) (.J (.cL (.bW 6) (.bY (.bW 5) "target")) (.J (.bY (.bW 5) "depth") .N)))))) .N)))
 .N) .N)
 .N))
noncomputable def zR:cv:=.ei ar (.cL (.bW 6) (.bW 10)) (.J [10] b2 (.cE (.bY (.bW 0) "starts")) .N .N)
def HD:dz where
 cJ:="pressed"
 b9:=2
 cn:=["code","rows","row","kept","catches","one","places","first","last","row","start"]
 c3:=[]
 cR:=b2
 cN:=.cA (.J (.eg [6,3] (.J (.a3 b2 .N) (.J (.a3 b2 .N) .N)))
 (.J (.fT [2] b2 (.cE (.bW 1)) zO)
 (.J (.df (.eQ (.bW 6) "append" (.J (.b0 ar (.b5 12) (.J (.bW 3) .N)) .N)))
 (.J (.ch 3 zP)
 (.J (.ch 4 (.a3 b2 .N))
 (.J (.fT [5] b2 (.cE (.bY (.bW 0) "catches")) zQ)
 (.J (.cw (.eQ (.bW 0) "with_rows" (.J (.pR (.bW 3)) (.J (.pR (.bW 4)) (.J zR (.J (.bY (.bW 0) "children") .N))))))
 .N)))))))
noncomputable def nu:cW:=(.J (.cB (.b7 (.bY (.cL (.bY (.bW 0) "rows") (.bW 2)) "op") (.J .ne (.ad "jump") .N)) (.J (.cw (.bW 2))
 .N) .N)
 (.J (.ch 2 (.bY (.cL (.bY (.bW 0) "rows") (.bW 2)) "a"))
 .N))
def wU:dz where
 cJ:="end_of_jumps"
 b9:=2
 cn:=["code","place","found","turn"]
 c3:=[]
 cR:=b2
 cN:=.cA (.J (.ch 2 (.bW 1))
 (.J (.fT [3] b2 (.gb (.b0 ar (.b5 12) (.J (.bY (.bW 0) "rows") .N))) nu)
 (.J (.cw (.bW 1))
 .N)))
noncomputable def yG:cW:=(.J (.cB (.b7 (.bY (.bW 2) "op") (.J .fY (.b5 15) .N)) (.J (.df (.eQ (.bW 1) "append" (.J (.bW 2) .N)))
 (.J .gX
 .N)) .N)
 (.J (.ch 3 (.b0 ar (.b5 24) (.J (.bW 0) (.J (.bY (.bW 2) "a") .N))))
 (.J (.cB (.ev (.J (.b7 (.bY (.bW 2) "op") (.J .cZ (.ad "jump") .N)) (.J (.b7 (.bY (.cL (.bY (.bW 0) "rows") (.bW 3)) "op") (.J .cZ (.ad "leave") .N)) .N))) (.J (.df (.eQ (.bW 1) "append" (.J (.b0 ar (.b5 0) (.J (.ad "leave") (.J .bX (.J .bX (.J .bX (.J (.bY (.bW 2) "line") .N)))))) .N)))
 .N) (.J (.df (.eQ (.bW 1) "append" (.J (.eQ (.bW 2) "with_target" (.J (.bW 3) .N)) .N)))
 .N))
 .N)))
def EP:dz where
 cJ:="threaded"
 b9:=1
 cn:=["code","rows","row","target"]
 c3:=[]
 cR:=b2
 cN:=.cA (.J (.ch 1 (.a3 b2 .N))
 (.J (.fT [2] b2 (.cE (.bY (.bW 0) "rows")) yG)
 (.J (.cw (.b0 ar (.b5 25) (.J (.bW 0) (.J (.pR (.bW 1)) .N))))
 .N)))
noncomputable def zS:cv:=(.b7 (.b0 ar (.b5 12) (.J (.bW 2) .N)) (.J .tq (.Z 0) .N))
noncomputable def lF:cW:=(.J (.cB (.eQ (.bW 5) "covers" (.J (.bW 3) .N)) (.J (.df (.eQ (.bW 2) "append" (.J (.bY (.bW 5) "target") .N)))
 .N) .N)
 .N)
def zT:cW:=(.J (.ch 3 (.eQ (.bW 2) "pop" .N))
 (.J (.cB (.cL (.bW 1) (.bW 3)) (.J .gX
 .N) .N)
 (.J (.jc (.bW 1) (.bW 3) (.b3 ar))
 (.J (.ch 4 (.cL (.bY (.bW 0) "rows") (.bW 3)))
 (.J (.cB (.b7 (.bY (.bW 4) "op") (.J .ft (.b5 15) .N)) (.J (.df (.eQ (.bW 2) "append" (.J (.bY (.bW 4) "a") .N)))
 .N) .N)
 (.J (.cB (.b7 (.bY (.bW 4) "op") (.J .fY (.b5 18) .N)) (.J (.df (.eQ (.bW 2) "append" (.J (.eD ar .dc (.bW 3) (.Z 1)) .N)))
 .N) .N)
 (.J (.fT [5] b2 (.cE (.bY (.bW 0) "catches")) lF)
 .N)))))))
def HE:dz where
 cJ:="reached"
 b9:=1
 cn:=["code","found","waiting","place","row","one"]
 c3:=[]
 cR:=b2
 cN:=.cA (.J (.ch 1 (.eD b2 .kF (.a3 ar (.J (.b3 b2) .N)) (.b0 ar (.b5 12) (.J (.bY (.bW 0) "rows") .N))))
 (.J (.ch 2 (.b0 b2 (.b5 9) (.J (.bY (.bW 0) "starts") .N)))
 (.J (.p8 1000 zS zT)
 (.J (.cw (.pR (.bW 1)))
 .N))))
noncomputable def sT:cv:=.ei ar (.fx (.bW 2) (.bW 1) .bX) (.J [1,2] ar (.zt (.bY (.bW 0) "rows") (.b0 ar (.b5 26) (.J (.bW 0) .N))) .N .N)
def wV:dz where
 cJ:="without_dead"
 b9:=1
 cn:=["code","row","here"]
 c3:=[]
 cR:=b2
 cN:=.cA (.J (.cw (.b0 ar (.b5 25) (.J (.bW 0) (.J sT .N))))
 .N)
noncomputable def rM:cW:=(.J (.cB (.ev (.J (.b0 ar (.b5 28) (.J (.cL (.bW 2) (.bW 1)) (.J (.b5 29) .N))) (.J (.b0 ar (.b5 28) (.J (.cL (.bW 2) (.eD ar .dc (.bW 1) (.Z 1))) (.J (.cQ (.J (.ad "pop") .N)) .N))) (.J (.gn (.cL (.bW 3) (.eD ar .dc (.bW 1) (.Z 1)))) .N)))) (.J (.oW (.bW 2) (.bW 1) (.bW 2) (.eD ar .dc (.bW 1) (.Z 1)) .bX .bX)
 .N) .N)
 .N)
def uE:dz where
 cJ:="without_pushes"
 b9:=1
 cn:=["code","place","rows","marks"]
 c3:=[]
 cR:=b2
 cN:=.cA (.J (.eg [2,3] (.J (.b0 b2 (.b5 9) (.J (.bY (.bW 0) "rows") .N)) (.J (.b0 ar (.b5 27) (.J (.bW 0) .N)) .N)))
 (.J (.fT [1] b2 (.gb (.eD ar .fw (.b0 ar (.b5 12) (.J (.bW 2) .N)) (.Z 1))) rM)
 (.J (.cw (.b0 ar (.b5 25) (.J (.bW 0) (.J (.pR (.bW 2)) .N))))
 .N)))
noncomputable def rN:cW:=(.J (.cB (.ev (.J (.b0 ar (.b5 28) (.J (.cL (.bW 2) (.bW 1)) (.J (.cQ (.J (.ad "dup") .N)) .N))) (.J (.b0 ar (.b5 28) (.J (.cL (.bW 2) (.eD ar .dc (.bW 1) (.Z 1))) (.J (.b5 30) .N))) (.J (.b0 ar (.b5 28) (.J (.cL (.bW 2) (.eD ar .dc (.bW 1) (.Z 2))) (.J (.cQ (.J (.ad "pop") .N)) .N))) .N)))) (.J (.cB (.ev (.J (.gn (.cL (.bW 3) (.eD ar .dc (.bW 1) (.Z 1)))) (.J (.gn (.cL (.bW 3) (.eD ar .dc (.bW 1) (.Z 2)))) .N))) (.J (.oW (.bW 2) (.bW 1) (.bW 2) (.eD ar .dc (.bW 1) (.Z 2)) .bX .bX)
 .N) .N)
 .N) .N)
 .N)
def uF:dz where
 cJ:="without_copies"
 b9:=1
 cn:=["code","place","rows","marks"]
 c3:=[]
 cR:=b2
 cN:=.cA (.J (.eg [2,3] (.J (.b0 b2 (.b5 9) (.J (.bY (.bW 0) "rows") .N)) (.J (.b0 ar (.b5 27) (.J (.bW 0) .N)) .N)))
 (.J (.fT [1] b2 (.gb (.eD ar .fw (.b0 ar (.b5 12) (.J (.bW 2) .N)) (.Z 2))) rN)
 (.J (.cw (.b0 ar (.b5 25) (.J (.bW 0) (.J (.pR (.bW 2)) .N))))
 .N)))
noncomputable def EQ:dz where
 cJ:="is_taken"
 b9:=2
 cn:=["branch","value"]
 c3:=[]
 cR:=b2
 cN:=.cA (.J (.cw (.b7 (.b0 ar (.b5 31) (.J (.bW 1) .N)) (.J .cZ (.b7 (.bY (.bW 0) "op") (.J .cZ (.ad "jumpif") .N)) .N)))
 .N)
noncomputable def n4:cW:=(.J (.eg [4,5] (.J (.cL (.bW 2) (.bW 1)) (.J (.cL (.bW 2) (.eD ar .dc (.bW 1) (.Z 1))) .N)))
 (.J (.cB (.hK (.J (.gn (.b0 ar (.b5 28) (.J (.bW 4) (.J (.cQ (.J (.ad "push") .N)) .N)))) (.J (.b7 (.bW 5) (.J .wb .bX .N)) (.J (.cL (.bW 3) (.eD ar .dc (.bW 1) (.Z 1))) .N)))) (.J .gX
 .N) .N)
 (.J (.cB (.b7 (.bY (.bW 5) "op") (.J .ft (.b5 32) .N)) (.J (.ch 6 (.b0 ar (.b5 33) (.J (.bW 5) (.J (.bY (.bW 4) "a") .N))))
 (.J (.jc (.bW 2) (.bW 1) .bX)
 (.J (.jc (.bW 2) (.eD ar .dc (.bW 1) (.Z 1)) (.fx (.bW 6) (.b0 ar (.b5 0) (.J (.ad "jump") (.J (.bY (.bW 5) "a") (.J .bX (.J .bX (.J (.bY (.bW 5) "line") .N)))))) .bX))
 .N))) (.J (.cB (.ev (.J (.b7 (.bY (.bW 5) "op") (.J .cZ (.ad "jump") .N)) (.J (.b7 (.bY (.cL (.bY (.bW 0) "rows") (.bY (.bW 5) "a")) "op") (.J .ft (.b5 32) .N)) .N))) (.J (.ch 7 (.cL (.bY (.bW 0) "rows") (.bY (.bW 5) "a")))
 (.J (.ch 8 (.fx (.b0 ar (.b5 33) (.J (.bW 7) (.J (.bY (.bW 4) "a") .N))) (.bY (.bW 7) "a") (.eD ar .dc (.bY (.bW 5) "a") (.Z 1))))
 (.J (.jc (.bW 2) (.bW 1) .bX)
 (.J (.jc (.bW 2) (.eD ar .dc (.bW 1) (.Z 1)) (.eQ (.bW 5) "with_target" (.J (.bW 8) .N)))
 .N)))) .N)
 .N))
 .N)))
def p6:dz where
 cJ:="with_known_branches"
 b9:=1
 cn:=["code","place","rows","marks","row","behind","taken","branch","target"]
 c3:=[]
 cR:=b2
 cN:=.cA (.J (.eg [2,3] (.J (.b0 b2 (.b5 9) (.J (.bY (.bW 0) "rows") .N)) (.J (.b0 ar (.b5 27) (.J (.bW 0) .N)) .N)))
 (.J (.fT [1] b2 (.gb (.eD ar .fw (.b0 ar (.b5 12) (.J (.bW 2) .N)) (.Z 1))) n4)
 (.J (.cw (.b0 ar (.b5 25) (.J (.bW 0) (.J (.pR (.bW 2)) .N))))
 .N)))
noncomputable def nM:cW:=(.J (.eg [4,5] (.J (.cL (.bW 2) (.bW 1)) (.J (.cL (.bW 2) (.eD ar .dc (.bW 1) (.Z 1))) .N)))
 (.J (.cB (.ev (.J (.b0 ar (.b5 28) (.J (.bW 4) (.J (.b5 32) .N))) (.J (.b0 ar (.b5 28) (.J (.bW 5) (.J (.cQ (.J (.ad "jump") .N)) .N))) (.J (.b7 (.bY (.bW 4) "a") (.J .cZ (.eD ar .dc (.bW 1) (.Z 2)) .N)) (.J (.gn (.cL (.bW 3) (.eD ar .dc (.bW 1) (.Z 1)))) .N))))) (.J (.ch 6 (.fx (.b7 (.bY (.bW 4) "op") (.J .cZ (.ad "jumpif") .N)) (.ad "jumpunless") (.ad "jumpif")))
 (.J (.oW (.bW 2) (.bW 1) (.bW 2) (.eD ar .dc (.bW 1) (.Z 1)) (.b0 ar (.b5 0) (.J (.bW 6) (.J (.bY (.bW 5) "a") (.J .bX (.J .bX (.J (.bY (.bW 4) "line") .N)))))) .bX)
 .N)) .N)
 .N))
def pe:dz where
 cJ:="with_turned_branches"
 b9:=1
 cn:=["code","place","rows","marks","row","behind","op"]
 c3:=[]
 cR:=b2
 cN:=.cA (.J (.eg [2,3] (.J (.b0 b2 (.b5 9) (.J (.bY (.bW 0) "rows") .N)) (.J (.b0 ar (.b5 27) (.J (.bW 0) .N)) .N)))
 (.J (.fT [1] b2 (.gb (.eD ar .fw (.b0 ar (.b5 12) (.J (.bW 2) .N)) (.Z 1))) nM)
 (.J (.cw (.b0 ar (.b5 25) (.J (.bW 0) (.J (.pR (.bW 2)) .N))))
 .N)))
noncomputable def n5:cW:=(.J (.cB (.ev (.J (.b7 (.bY (.bW 3) "op") (.J .ft (.b5 15) .N)) (.J (.b7 (.bY (.bW 3) "a") (.J .cZ (.eD ar .dc (.bW 2) (.Z 1)) .N)) .N))) (.J (.df (.eQ (.bW 1) "append" (.J (.fx (.b7 (.bY (.bW 3) "op") (.J .ft (.b5 32) .N)) (.b0 ar (.b5 0) (.J (.ad "pop") (.J .bX (.J .bX (.J .bX (.J (.bY (.bW 3) "line") .N)))))) .bX) .N)))
 .N) (.J (.df (.eQ (.bW 1) "append" (.J (.bW 3) .N)))
 .N))
 .N)
def p7:dz where
 cJ:="without_short_jumps"
 b9:=1
 cn:=["code","rows","place","row"]
 c3:=[]
 cR:=b2
 cN:=.cA (.J (.ch 1 (.a3 b2 .N))
 (.J (.fT [2,3] ar (.yC (.bY (.bW 0) "rows")) n5)
 (.J (.cw (.b0 ar (.b5 25) (.J (.bW 0) (.J (.pR (.bW 1)) .N))))
 .N)))
noncomputable def sj:cW:=(.J (.cB (.hK (.J (.gn (.b0 ar (.b5 28) (.J (.cL (.bW 2) (.eD ar .dc (.bW 1) (.Z 1))) (.J (.cQ (.J (.ad "swap") .N)) .N)))) (.J (.cL (.bW 3) (.eD ar .dc (.bW 1) (.Z 1))) .N))) (.J .gX
 .N) .N)
 (.J (.cB (.b0 ar (.b5 28) (.J (.cL (.bW 2) (.bW 1)) (.J (.cQ (.J (.ad "swap") .N)) .N))) (.J (.oW (.bW 2) (.bW 1) (.bW 2) (.eD ar .dc (.bW 1) (.Z 1)) .bX .bX)
 .N) (.J (.cB (.b0 ar (.b5 28) (.J (.cL (.bW 2) (.bW 1)) (.J (.cQ (.J (.ad "dup") .N)) .N))) (.J (.jc (.bW 2) (.eD ar .dc (.bW 1) (.Z 1)) .bX)
 .N) .N)
 .N))
 .N))
def vt:dz where
 cJ:="without_swaps"
 b9:=1
 cn:=["code","place","rows","marks"]
 c3:=[]
 cR:=b2
 cN:=.cA (.J (.eg [2,3] (.J (.b0 b2 (.b5 9) (.J (.bY (.bW 0) "rows") .N)) (.J (.b0 ar (.b5 27) (.J (.bW 0) .N)) .N)))
 (.J (.fT [1] b2 (.gb (.eD ar .fw (.b0 ar (.b5 12) (.J (.bW 2) .N)) (.Z 1))) sj)
 (.J (.cw (.b0 ar (.b5 25) (.J (.bW 0) (.J (.pR (.bW 2)) .N))))
 .N)))
noncomputable def ER:cv:=.ei ar (.cQ (.J (.bY (.bW 1) "op") (.J (.bY (.bW 1) "a") (.J (.bY (.bW 1) "b") (.J (.bY (.bW 1) "c") .N))))) (.J [1] b2 (.cE (.bY (.bW 0) "rows")) .N .N)
def Ol:dz where
 cJ:="shape"
 b9:=1
 cn:=["code","row"]
 c3:=[]
 cR:=b2
 cN:=.cA (.J (.cw ER)
 .N)
noncomputable def sU:cW:=(.J (.ch 0 (.b0 ar (.bW 4) (.J (.bW 0) .N)))
 .N)
def iJ:cW:=(.J (.ch 2 (.b0 ar (.b5 35) (.J (.bW 0) .N)))
 (.J (.fT [3,4] ar (.cE (.b5 36)) sU)
 (.J (.cB (.b7 (.b0 ar (.b5 35) (.J (.bW 0) .N)) (.J .cZ (.bW 2) .N)) (.J (.cw (.bW 0))
 .N) .N)
 .N)))
def wW:dz where
 cJ:="tidied_alone"
 b9:=1
 cn:=["code","turn","before","name","step"]
 c3:=[]
 cR:=b2
 cN:=.cA (.J (.fT [1] b2 (.gb (.b5 34)) iJ)
 (.J (.cw (.bW 0))
 .N))
noncomputable def HF:cv:=.ei ar (.b0 ar (.b5 38) (.J (.bW 2) .N)) (.J [2] b2 (.cE (.bY (.bW 1) "children")) .N .N)
def Rc:dz where
 cJ:="tidy"
 b9:=1
 cn:=["code","found","child"]
 c3:=[]
 cR:=b2
 cN:=.cA (.J (.ch 1 (.b0 ar (.b5 37) (.J (.bW 0) .N)))
 (.J (.cw (.eQ (.bW 1) "with_rows" (.J (.bY (.bW 1) "rows") (.J (.bY (.bW 1) "catches") (.J (.bY (.bW 1) "starts") (.J HF .N))))))
 .N))
noncomputable def vv:cW:=(.J (.cB (.b7 (.bW 1) (.J .cZ (.bW 0) .N)) (.J (.cw (.bW 2))
 .N) .N)
 .N)
def zU:dz where
 cJ:="pass_named"
 b9:=1
 cn:=["name","told","step"]
 c3:=[]
 cR:=b2
 cN:=.cA (.J (.fT [1,2] ar (.cE (.b5 36)) vv)
 (.J (.cw .bX)
 .N))
noncomputable def wX:cW:=(.J (.ch 3 (.b0 ar (.b5 39) (.J (.bW 2) .N)))
 (.J (.cB (.b7 (.bW 3) (.J (.oc ()) .bX .N)) (.J (.ch 0 (.b0 ar (.bW 3) (.J (.bW 0) .N)))
 .N) .N)
 .N))
noncomputable def wY:cv:=.ei ar (.b0 ar (.b5 40) (.J (.bW 4) (.J (.bW 1) .N))) (.J [4] b2 (.cE (.bY (.bW 0) "children")) .N .N)
def CD:dz where
 cJ:="passed_by"
 b9:=2
 cn:=["code","names","name","step","child"]
 c3:=[]
 cR:=b2
 cN:=.cA (.J (.fT [2] b2 (.cE (.bW 1)) wX)
 (.J (.cw (.eQ (.bW 0) "with_rows" (.J (.bY (.bW 0) "rows") (.J (.bY (.bW 0) "catches") (.J (.bY (.bW 0) "starts") (.J wY .N))))))
 .N))
noncomputable def zV:cv:=.ei ar (.eD ar .fw (.bW 4) (.eD ar (.sd ()) (.Z 10) (.Z 18))) (.J [4] b2 (.cE (.fP ar (.bW 0) .bX (.Z 1))) .N .N)
noncomputable def zW:cW:=(.J (.ch 3 (.eD ar .qK (.eD ar .dc (.eD ar .kF (.bW 3) (.Z 48271)) (.bW 1)) (.Z 2147483629)))
 .N)
def HG:dz where
 cJ:="_law_box"
 b9:=1
 cn:=["script","cell","great","seed","cell"]
 c3:=[]
 cR:=ar
 cN:=.cA (.J (.eg [2,3] (.J (.eD ar .qK (.b0 ar (.b5 41) (.J (.eD ar .dc (.a3 ar (.J (.Z 0) .N)) zV) .N)) (.eD ar (.sd ()) (.Z 10) (.Z 90))) (.J (.Z 33023) .N)))
 (.J (.fT [1] b2 (.cE (.fP ar (.bW 0) .bX (.Z 24))) zW)
 (.J (.cw (.a3 b2 (.J (.bW 2) (.J (.bW 3) (.J (.Z 0) (.J (.hK (.J (.b7 (.bW 0) (.J .cZ (.a3 ar .N) .N)) (.J (.ev (.J (.b7 (.b0 ar (.b5 12) (.J (.bW 0) .N)) (.J .cZ (.Z 1) .N)) (.J (.b7 (.b0 ar (.b5 42) (.J (.cL (.bW 0) (.Z 0)) .N)) (.J .jL (.Z 10) .N)) .N))) .N))) .N))))))
 .N)))
noncomputable def ES:dz where
 cJ:="_law_take"
 b9:=2
 cn:=["box","many","blend","digit"]
 c3:=[]
 cR:=b2
 cN:=.cA (.J (.cB (.b7 (.cL (.bW 0) (.Z 0)) (.J .tq (.Z 0) .N)) (.J (.ch 3 (.eD ar .qK (.cL (.bW 0) (.Z 0)) (.bW 1)))
 (.J (.jc (.bW 0) (.Z 0) (.eD ar .ua (.cL (.bW 0) (.Z 0)) (.bW 1)))
 (.J (.cw (.bW 3))
 .N))) .N)
 (.J (.jc (.bW 0) (.Z 2) (.eD ar .dc (.cL (.bW 0) (.Z 2)) (.Z 1)))
 (.J (.ch 2 (.eD ar .qK (.eD ar (.sd ()) (.eD ar .dc (.eD ar .dc (.cL (.bW 0) (.Z 1)) (.eD ar .kF (.Z 40169) (.cL (.bW 0) (.Z 2)))) (.Z 7)) (.Z 5)) (.Z 2147483647)))
 (.J (.ch 2 (.eD ar .qK (.eD ar (.sd ()) (.eD ar .dc (.bW 2) (.eD ar .kF (.Z 93001) (.cL (.bW 0) (.Z 2)))) (.Z 3)) (.Z 2147483587)))
 (.J (.cw (.eD ar .qK (.eD ar .ua (.bW 2) (.Z 16)) (.bW 1)))
 .N)))))
noncomputable def CE:dz where
 cJ:="_law_known"
 b9:=1
 cn:=["box"]
 c3:=[]
 cR:=b2
 cN:=.cA (.J (.cw (.cQ (.J (.ad "push") (.J (.cL (.a3 ar (.J .bX (.J (.b3 ar) (.J (.b3 b2) (.J (.Z 0) (.J (.Z 5) (.J (.ad "s") .N))))))) (.b0 ar (.b5 43) (.J (.bW 0) (.J (.Z 6) .N)))) (.J .bX .N)))))
 .N)
noncomputable def HH:dz where
 cJ:="_law_put"
 b9:=2
 cn:=["box","deep","op"]
 c3:=[]
 cR:=b2
 cN:=.cA (.J (.ch 2 (.cL (.b5 44) (.b0 ar (.b5 43) (.J (.bW 0) (.J (.Z 7) .N)))))
 (.J (.cB (.hK (.J (.b7 (.bW 2) (.J .cZ (.ad "push") .N)) (.J (.ev (.J (.b7 (.bW 2) (.J .cZ (.ad "dup") .N)) (.J (.b7 (.bW 1) (.J .cZ (.Z 0) .N)) .N))) .N))) (.J (.cw (.b0 ar (.b5 45) (.J (.bW 0) .N)))
 .N) .N)
 (.J (.cw (.cQ (.J (.bW 2) (.J (.eQ (.d4 (.J (.ad "getl") (.J (.Z 0) (.J (.ad "geti") (.J (.ad "@x") (.J (.ad "getg") (.J (.ad "$x") .N))))))) "get" (.J (.bW 2) .N)) (.J (.fx (.b7 (.bW 2) (.J .cZ (.ad "getl") .N)) (.b0 ar (.b5 43) (.J (.bW 0) (.J (.Z 2) .N))) .bX) .N)))))
 .N)))
noncomputable def CF:dz where
 cJ:="_law_store"
 b9:=1
 cn:=["box","op"]
 c3:=[]
 cR:=b2
 cN:=.cA (.J (.ch 1 (.cL (.b5 46) (.b0 ar (.b5 43) (.J (.bW 0) (.J (.Z 4) .N)))))
 (.J (.cw (.cQ (.J (.bW 1) (.J (.cL (.d4 (.J (.ad "setl") (.J (.Z 0) (.J (.ad "seti") (.J (.ad "@x") (.J (.ad "setg") (.J (.ad "$x") (.J (.ad "setc") (.J (.ad "C") .N))))))))) (.bW 1)) (.J (.fx (.b7 (.bW 1) (.J .cZ (.ad "setl") .N)) (.b0 ar (.b5 43) (.J (.bW 0) (.J (.Z 2) .N))) .bX) .N)))))
 .N))
noncomputable def zX:dz where
 cJ:="_law_branch"
 b9:=2
 cn:=["box","goal"]
 c3:=[]
 cR:=b2
 cN:=.cA (.J (.cw (.cQ (.J (.cL (.b5 47) (.b0 ar (.b5 43) (.J (.bW 0) (.J (.Z 2) .N)))) (.J (.bW 1) (.J .bX .N)))))
 .N)
noncomputable def wZ:dz where
 cJ:="_law_met_pair"
 b9:=2
 cn:=["box","deep","way"]
 c3:=[]
 cR:=b2
 cN:=.cA (.J (.ch 2 (.b0 ar (.b5 43) (.J (.bW 0) (.J (.Z 3) .N))))
 (.J (.cB (.b7 (.bW 2) (.J .cZ (.Z 0) .N)) (.J (.cw (.a3 ar (.J (.b0 ar (.b5 48) (.J (.bW 0) (.J (.bW 1) .N))) (.J (.cQ (.J (.ad "jumpnil") (.J (.Z 3) (.J .bX .N)))) (.J (.b5 49) (.J (.b0 ar (.b5 50) (.J (.bW 0) .N)) (.J (.b5 51) .N)))))))
 .N) .N)
 (.J (.cB (.b7 (.bW 2) (.J .cZ (.Z 1) .N)) (.J (.cw (.a3 ar (.J (.b0 ar (.b5 48) (.J (.bW 0) (.J (.bW 1) .N))) (.J (.cQ (.J (.ad "jumpnil") (.J (.Z 3) (.J .bX .N)))) (.J (.b5 51) (.J (.b0 ar (.b5 48) (.J (.bW 0) (.J (.bW 1) .N))) (.J (.b5 51) .N)))))))
 .N) .N)
 (.J (.cw (.a3 ar (.J (.b0 ar (.b5 48) (.J (.bW 0) (.J (.bW 1) .N))) (.J (.b0 ar (.b5 48) (.J (.bW 0) (.J (.bW 1) .N))) (.J (.cQ (.J (.ad "jumpnil") (.J (.Z 2) (.J .bX .N)))) (.J (.b5 52) (.J (.b5 52) .N)))))))
 .N))))
noncomputable def po:dz where
 cJ:="_law_one"
 b9:=2
 cn:=["box","deep","some"]
 c3:=[]
 cR:=b2
 cN:=.cA (.J (.ch 2 (.a3 b2 .N))
 (.J (.cB (.b7 (.bW 1) (.J .tq (.Z 0) .N)) (.J (.ch 2 (.a3 b2 (.J (.b5 51) (.J (.b0 ar (.b5 50) (.J (.bW 0) .N)) (.J (.b0 ar (.b5 53) (.J (.bW 0) (.J .bX .N))) (.J (.cQ (.J (.ad "jumpnil") (.J .bX (.J .bX .N)))) (.J (.b5 54) .N)))))))
 .N) .N)
 (.J (.cB (.b7 (.bW 1) (.J .tq (.Z 1) .N)) (.J (.df (.eQ (.bW 2) "append" (.J (.b5 52) .N)))
 .N) .N)
 (.J (.cB (.b7 (.bW 1) (.J .jL (.Z 3) .N)) (.J (.ch 2 (.eD b2 .dc (.bW 2) (.a3 ar (.J (.b0 ar (.b5 48) (.J (.bW 0) (.J (.bW 1) .N))) (.J (.cQ (.J (.ad "text") (.J (.ad "t") (.J .bX .N)))) (.J (.cQ (.J (.ad "undef") (.J (.ad "u") (.J .bX .N)))) (.J (.cQ (.J (.ad "lambda") (.J (.Z 0) (.J .bX .N)))) (.J (.b5 55) .N))))))))
 (.J (.df (.eQ (.bW 2) "append" (.J (.cQ (.J (.ad "fail") (.J (.ad "E") (.J (.ad "t") .N)))) .N)))
 .N)) .N)
 (.J (.cw (.cL (.bW 2) (.b0 ar (.b5 43) (.J (.bW 0) (.J (.b0 ar (.b5 12) (.J (.bW 2) .N)) .N)))))
 .N)))))
noncomputable def CG:dz where
 cJ:="_law_piece"
 b9:=3
 cn:=["box","deep","way","three"]
 c3:=[]
 cR:=b2
 cN:=.cA (.J (.cB (.b7 (.bW 2) (.J .cZ (.Z 0) .N)) (.J (.cw (.a3 ar (.J (.b0 ar (.b5 48) (.J (.bW 0) (.J (.bW 1) .N))) (.J (.b0 ar (.b5 48) (.J (.bW 0) (.J (.bW 1) .N))) (.J (.b5 51) (.J (.b5 51) .N))))))
 .N) .N)
 (.J (.cB (.b7 (.bW 2) (.J .cZ (.Z 1) .N)) (.J (.cw (.a3 ar (.J (.b0 ar (.b5 48) (.J (.bW 0) (.J (.bW 1) .N))) (.J (.b0 ar (.b5 53) (.J (.bW 0) (.J (.Z 2) .N))) (.J (.b5 55) (.J (.b5 55) .N))))))
 .N) .N)
 (.J (.cB (.b7 (.bW 2) (.J .cZ (.Z 2) .N)) (.J (.cw (.eD ar .dc (.a3 ar (.J (.b0 ar (.b5 48) (.J (.bW 0) (.J (.bW 1) .N))) (.J (.b0 ar (.b5 48) (.J (.bW 0) (.J (.bW 1) .N))) .N))) (.eD ar .kF (.a3 ar (.J (.b5 52) .N)) (.eD ar .dc (.Z 2) (.b0 ar (.b5 43) (.J (.bW 0) (.J (.Z 2) .N)))))))
 .N) .N)
 (.J (.cB (.b7 (.bW 2) (.J .cZ (.Z 3) .N)) (.J (.cw (.a3 ar (.J (.b0 ar (.b5 48) (.J (.bW 0) (.J (.bW 1) .N))) (.J (.b5 49) (.J (.b5 52) .N)))))
 .N) .N)
 (.J (.cB (.b7 (.bW 2) (.J .cZ (.Z 4) .N)) (.J (.cw (.a3 ar (.J (.b0 ar (.b5 48) (.J (.bW 0) (.J (.bW 1) .N))) (.J (.b5 49) (.J (.b0 ar (.b5 50) (.J (.bW 0) .N)) (.J (.b5 51) .N))))))
 .N) .N)
 (.J (.cB (.b7 (.bW 2) (.J .cZ (.Z 5) .N)) (.J (.cw (.b0 ar (.b5 56) (.J (.bW 0) (.J (.bW 1) .N))))
 .N) .N)
 (.J (.cB (.b7 (.bW 2) (.J .cZ (.Z 6) .N)) (.J (.cw (.a3 ar (.J (.b0 ar (.b5 45) (.J (.bW 0) .N)) (.J (.b0 ar (.b5 53) (.J (.bW 0) (.J .bX .N))) .N))))
 .N) .N)
 (.J (.cB (.b7 (.bW 2) (.J .cZ (.Z 7) .N)) (.J (.cw (.a3 ar (.J (.b0 ar (.b5 45) (.J (.bW 0) .N)) (.J (.b5 55) .N))))
 .N) .N)
 (.J (.cB (.b7 (.bW 2) (.J .cZ (.Z 8) .N)) (.J (.ch 3 (.a3 ar (.J (.a3 ar (.J (.cQ (.J (.ad "jump") (.J (.Z 1) (.J .bX .N)))) .N)) (.J (.a3 ar (.J (.b0 ar (.b5 48) (.J (.bW 0) (.J (.bW 1) .N))) (.J (.b0 ar (.b5 53) (.J (.bW 0) (.J (.Z 1) .N))) .N))) (.J (.a3 ar (.J (.b0 ar (.b5 45) (.J (.bW 0) .N)) (.J (.cQ (.J (.ad "jumpnil") (.J (.Z 1) (.J .bX .N)))) .N))) .N)))))
 (.J (.cw (.cL (.bW 3) (.b0 ar (.b5 43) (.J (.bW 0) (.J (.Z 3) .N)))))
 .N)) .N)
 (.J (.cB (.b7 (.bW 2) (.J .cZ (.Z 9) .N)) (.J (.cw (.a3 ar (.J (.cQ (.J (.ad "jump") (.J (.Z 3) (.J .bX .N)))) (.J (.b0 ar (.b5 48) (.J (.bW 0) (.J (.bW 1) .N))) (.J (.b5 51) .N)))))
 .N) .N)
 (.J (.cw (.a3 ar (.J (.b0 ar (.b5 57) (.J (.bW 0) (.J (.bW 1) .N))) .N)))
 .N)))))))))))
noncomputable def zY:dz where
 cJ:="_law_change"
 b9:=1
 cn:=["op"]
 c3:=[]
 cR:=b2
 cN:=.cA (.J (.cB (.hK (.J (.b7 (.bW 0) (.J .ft (.cQ (.J (.ad "pop") (.J (.ad "leave") .N))) .N)) (.J (.b7 (.bW 0) (.J .ft (.b5 46) .N)) (.J (.b7 (.bW 0) (.J .ft (.b5 47) .N)) .N)))) (.J (.cw (.pQ (.Z 1)))
 .N) .N)
 (.J (.cw (.fx (.b7 (.bW 0) (.J .ft (.cQ (.J (.ad "swap") (.J (.ad "jump") (.J (.ad "jumpnil") (.J (.ad "fail") .N))))) .N)) (.Z 0) (.Z 1)))
 .N))
noncomputable def yH:cW:=(.J (.df (.eQ (.bW 0) "append" (.J (.bW 4) .N)))
 (.J (.df (.eQ (.bW 1) "append" (.J (.bW 3) .N)))
 (.J (.ch 3 (.eD ar .dc (.bW 3) (.b0 ar (.b5 58) (.J (.cL (.bW 4) (.Z 0)) .N))))
 .N)))
def ET:dz where
 cJ:="_law_laid"
 b9:=4
 cn:=["rows","heights","piece","deep","row"]
 c3:=[]
 cR:=b2
 cN:=.cA (.J (.fT [4] b2 (.cE (.bW 2)) yH)
 (.J (.cw (.bW 3))
 .N))
noncomputable def iP:cW:=(.J (.ch 8 (.Z 13))
 (.J (.cB (.ev (.J (.b7 (.bW 2) (.J .cZ (.Z 0) .N)) (.J (.hK (.J (.cL (.bW 0) (.Z 3)) (.J (.b7 (.b0 ar (.b5 43) (.J (.bW 0) (.J (.Z 3) .N))) (.J .tq (.Z 0) .N)) .N))) .N))) (.J (.ch 8 (.Z 6))
 .N) .N)
 (.J (.ch 8 (.fx (.cL (.bW 0) (.Z 3)) (.Z 0) (.b0 ar (.b5 43) (.J (.bW 0) (.J (.bW 8) .N)))))
 (.J (.ch 9 (.b0 ar (.b5 59) (.J (.bW 0) (.J (.bW 7) (.J (.fx (.b7 (.bW 7) (.J .jL (.Z 3) .N)) (.bW 8) (.Z 10)) .N)))))
 (.J (.cB (.b7 (.eD ar .dc (.b0 ar (.b5 12) (.J (.bW 5) .N)) (.b0 ar (.b5 12) (.J (.bW 9) .N))) (.J .gm (.eD ar .fw (.bW 1) (.Z 2)) .N)) (.J (.ch 7 (.b0 ar (.b5 60) (.J (.bW 5) (.J (.bW 6) (.J (.bW 9) (.J (.bW 7) .N))))))
 (.J (.cB (.ev (.J (.b7 (.cL (.cL (.bW 9) (.pQ (.Z 1))) (.Z 0)) (.J .ft (.b5 61) .N)) (.J (.b7 (.cL (.cL (.bW 9) (.pQ (.Z 1))) (.Z 1)) (.J .ne (.Z 1) .N)) .N))) (.J (.ch 7 (.b0 ar (.b5 43) (.J (.bW 0) (.J (.Z 3) .N))))
 .N) .N)
 .N)) .N)
 .N)))))
def jl:dz where
 cJ:="_law_plain"
 b9:=2
 cn:=["box","most","turn","tail","size","rows","heights","deep","way","piece"]
 c3:=[]
 cR:=b2
 cN:=.cA (.J (.eg [5,6,7] (.J (.a3 b2 .N) (.J (.a3 b2 .N) (.J (.Z 0) .N))))
 (.J (.fT [2] b2 (.gb (.fx (.cL (.bW 0) (.Z 3)) (.Z 1) (.Z 4))) iP)
 (.J (.ch 3 (.a3 ar (.J (.fx (.hK (.J (.cL (.bW 0) (.Z 3)) (.J (.b7 (.b0 ar (.b5 43) (.J (.bW 0) (.J (.Z 4) .N))) (.J .tq (.Z 0) .N)) .N))) (.b5 54) (.b5 55)) .N)))
 (.J (.cB (.ev (.J (.b7 (.bW 7) (.J .cZ (.Z 0) .N)) (.J (.b7 (.bW 3) (.J .cZ (.a3 ar (.J (.b5 54) .N)) .N)) .N))) (.J (.ch 3 (.a3 ar (.J (.b0 ar (.b5 48) (.J (.bW 0) (.J (.Z 0) .N))) (.J (.b5 54) .N))))
 .N) .N)
 (.J (.df (.b0 ar (.b5 60) (.J (.bW 5) (.J (.bW 6) (.J (.bW 3) (.J (.bW 7) .N))))))
 (.J (.ch 4 (.b0 ar (.b5 12) (.J (.bW 5) .N)))
 (.J (.cB (.ev (.J (.gn (.cL (.bW 0) (.Z 3))) (.J (.b7 (.eD ar .dc (.bW 4) (.Z 3)) (.J .gm (.bW 1) .N)) (.J (.b7 (.b0 ar (.b5 43) (.J (.bW 0) (.J (.Z 3) .N))) (.J .cZ (.Z 0) .N)) .N)))) (.J (.df (.b0 ar (.b5 60) (.J (.bW 5) (.J (.bW 6) (.J (.a3 ar (.J (.cQ (.J (.ad "jump") (.J (.Z 1) (.J .bX .N)))) (.J (.b0 ar (.b5 45) (.J (.bW 0) .N)) (.J (.b0 ar (.b5 53) (.J (.bW 0) (.J .bX .N))) .N)))) (.J (.Z 0) .N))))))
 .N) .N)
 (.J (.cw (.cQ (.J (.pR (.bW 5)) (.J (.pR (.bW 6)) (.J (.bW 4) .N)))))
 .N))))))))
noncomputable def yI:cv:=.ei ar (.bW 9) (.J [9] b2 (.gb (.bW 4)) (.J (.b7 (.cL (.bW 2) (.bW 9)) (.J .cZ (.bW 5) .N)) .N) .N)
noncomputable def yJ:cv:=.ei ar (.bW 10) (.J [10] b2 (.cE (.bW 6)) (.J (.b7 (.cL (.cL (.bW 1) (.bW 10)) (.Z 0)) (.J .ft (.bW 7) .N)) .N) .N)
def qV:dz where
 cJ:="_law_goal"
 b9:=5
 cn:=["box","rows","heights","at","size","need","some","wish","near","spot","spot"]
 c3:=[]
 cR:=b2
 cN:=.cA (.J (.ch 5 (.eD ar .fw (.cL (.bW 2) (.bW 3)) (.b0 ar (.b5 5) (.J (.b7 (.cL (.cL (.bW 1) (.bW 3)) (.Z 0)) (.J .ft (.b5 47) .N)) .N))))
 (.J (.ch 6 yI)
 (.J (.ch 7 (.cL (.a3 ar (.J (.a3 ar (.J (.ad "jump") .N)) (.J (.b5 47) (.J (.a3 ar (.J (.ad "pop") (.J (.ad "swap") (.J (.ad "leave") .N)))) (.J (.b5 44) .N))))) (.b0 ar (.b5 43) (.J (.bW 0) (.J (.Z 4) .N)))))
 (.J (.ch 8 yJ)
 (.J (.ch 6 (.fx (.b7 (.bW 8) (.J .ne (.a3 ar .N) .N)) (.bW 8) (.bW 6)))
 (.J (.cw (.cL (.bW 6) (.b0 ar (.b5 43) (.J (.bW 0) (.J (.b0 ar (.b5 12) (.J (.bW 6) .N)) .N)))))
 .N))))))
noncomputable def uG:cv:=.ei ar (.bW 10) (.J [10] b2 (.gb (.bW 2)) (.J (.b7 (.cL (.bW 1) (.bW 10)) (.J .tq (.Z 0) .N)) .N) .N)
noncomputable def k2:cW:=(.J (.eg [6,7] (.J (.cL (.bW 5) (.b0 ar (.b5 43) (.J (.bW 0) (.J (.b0 ar (.b5 12) (.J (.bW 5) .N)) .N)))) (.J (.b0 ar (.b5 43) (.J (.bW 0) (.J (.b0 ar (.b5 12) (.J (.bW 1) .N)) .N))) .N)))
 (.J (.eg [8,9] (.J (.eD ar .dc (.eD ar .dc (.bW 7) (.Z 1)) (.b0 ar (.b5 43) (.J (.bW 0) (.J (.eD ar .fw (.b0 ar (.b5 12) (.J (.bW 1) .N)) (.bW 7)) .N)))) (.J (.cL (.a3 ar (.J (.ad "rescue") (.J (.ad "ensure") .N))) (.b0 ar (.b5 43) (.J (.bW 0) (.J (.Z 2) .N)))) .N)))
 (.J (.cB (.b7 (.b0 ar (.b5 62) (.J (.fP ar (.bW 1) (.bW 7) (.bW 8)) .N)) (.J .mC (.eD ar .fw (.cL (.bW 1) (.bW 6)) (.Z 1)) .N)) (.J (.df (.eQ (.bW 4) "append" (.J (.b0 ar (.b5 19) (.J (.bW 9) (.J (.bW 7) (.J (.bW 8) (.J (.bW 6) (.J (.eD ar .fw (.cL (.bW 1) (.bW 6)) (.Z 1)) .N)))))) .N)))
 .N) .N)
 .N)))
def rh:dz where
 cJ:="_law_catches"
 b9:=3
 cn:=["box","heights","size","turn","found","goals","goal","first","last","sort","spot"]
 c3:=[]
 cR:=b2
 cN:=.cA (.J (.eg [4,5] (.J (.a3 b2 .N) (.J uG .N)))
 (.J (.fT [3] b2 (.gb (.fx (.hK (.J (.cL (.bW 0) (.Z 3)) (.J (.b7 (.bW 5) (.J .cZ (.a3 ar .N) .N)) .N))) (.Z 0) (.b0 ar (.b5 43) (.J (.bW 0) (.J (.Z 3) .N))))) k2)
 (.J (.cw (.pR (.bW 4)))
 .N)))
noncomputable def mm:cW:=(.J (.i0 [13,14,15] (.bW 10))
 (.J (.cB (.b7 (.fP ar (.bW 13) .bX (.Z 4)) (.J .cZ (.ad "jump") .N)) (.J (.ch 14 (.fx (.b7 (.bW 14) (.J .wb .bX .N)) (.b0 ar (.b5 64) (.J (.bW 0) (.J (.bW 4) (.J (.bW 5) (.J (.bW 9) (.J (.bW 6) .N)))))) (.eD ar .dc (.bW 9) (.bW 14))))
 .N) .N)
 (.J (.cB (.ev (.J (.b7 (.bW 13) (.J .cZ (.ad "lambda") .N)) (.J (.b7 (.bW 3) (.J .cZ (.a3 ar .N) .N)) .N))) (.J (.eg [13,14] (.J (.ad "text") (.J (.ad "u") .N)))
 .N) .N)
 (.J (.df (.eQ (.bW 7) "append" (.J (.b0 ar (.b5 0) (.J (.bW 13) (.J (.bW 14) (.J (.bW 15) (.J .bX (.J (.eD ar .dc (.bW 9) (.Z 1)) .N)))))) .N)))
 .N))))
noncomputable def w0:cv:=.ei ar (.bW 16) (.J [16] b2 (.gb (.bW 6)) (.J (.b7 (.cL (.bW 5) (.bW 16)) (.J .cZ (.Z 0) .N)) .N) .N)
def uf:dz where
 cJ:="_law_scene"
 b9:=4
 cn:=["box","most","kind","within","rows","heights","size","made","starts","at","row","bare","more","op","a","b","spot"]
 c3:=[]
 cR:=b2
 cN:=.cA (.J (.i0 [4,5,6] (.b0 ar (.b5 63) (.J (.bW 0) (.J (.bW 1) .N))))
 (.J (.eg [7,8] (.J (.a3 b2 .N) (.J (.a3 ar (.J (.Z 0) .N)) .N)))
 (.J (.fT [9,10] ar (.yC (.bW 4)) mm)
 (.J (.cB (.gn (.cL (.bW 0) (.Z 3))) (.J (.ch 11 w0)
 (.J (.ch 12 (.cL (.bW 11) (.b0 ar (.b5 43) (.J (.bW 0) (.J (.b0 ar (.b5 12) (.J (.bW 11) .N)) .N)))))
 (.J (.ch 8 (.cL (.a3 ar (.J (.a3 ar (.J (.Z 0) .N)) (.J (.a3 ar (.J (.Z 0) (.J (.bW 12) .N))) (.J (.a3 ar (.J (.bW 12) .N)) (.J (.a3 ar (.J (.bW 12) (.J (.Z 0) .N))) .N))))) (.b0 ar (.b5 43) (.J (.bW 0) (.J (.Z 4) .N)))))
 .N))) .N)
 (.J (.cw (.cQ (.J (.b0 ar (.b5 1) (.J (.bW 2) (.J (.ad "c") (.J .bX (.J (.a3 ar (.J (.ad "x") (.J (.ad "y") .N))) (.J (.pR (.bW 7)) (.J (.b0 ar (.b5 65) (.J (.bW 0) (.J (.bW 5) (.J (.bW 6) .N)))) (.J (.bW 3) (.J (.bW 8) .N))))))))) (.J (.bW 5) .N))))
 .N)))))
noncomputable def yK:cv:=.ei ar (.cQ (.J (.bY (.bW 4) "op") (.J (.b0 ar (.b5 66) (.J (.bY (.bW 4) "a") .N)) (.J (.bY (.bW 4) "b") (.J (.bY (.bW 4) "c") (.J (.bY (.bW 4) "line") .N)))))) (.J [4] b2 (.cE (.bY (.bW 0) "rows")) .N .N)
noncomputable def yL:cv:=.ei ar (.cQ (.J (.bY (.bW 5) "sort") (.J (.bY (.bW 5) "first") (.J (.bY (.bW 5) "last") (.J (.bY (.bW 5) "target") (.J (.bY (.bW 5) "depth") .N)))))) (.J [5] b2 (.cE (.bY (.bW 0) "catches")) .N .N)
noncomputable def yM:cv:=.ei ar (.b0 ar (.b5 67) (.J (.bW 6) .N)) (.J [6] b2 (.cE (.bY (.bW 0) "children")) .N .N)
def EU:dz where
 cJ:="_law_told"
 b9:=1
 cn:=["code","rows","catches","within","row","one","child"]
 c3:=[]
 cR:=b2
 cN:=.cA (.J (.ch 1 yK)
 (.J (.ch 2 yL)
 (.J (.ch 3 yM)
 (.J (.cw (.a3 ar (.J (.bY (.bW 0) "kind") (.J (.bY (.bW 0) "name") (.J (.bY (.bW 0) "params") (.J (.b0 ar (.b5 9) (.J (.bY (.bW 0) "slots") .N)) (.J (.bW 1) (.J (.bW 2) (.J (.b0 ar (.b5 9) (.J (.bY (.bW 0) "starts") .N)) (.J (.bW 3) .N))))))))))
 .N))))
noncomputable def ni:cv:=(.b7 (.bW 2) (.J .jL (.b0 ar (.b5 12) (.J (.bW 1) .N)) .N))
noncomputable def yN:cv:=.ei ar (.bY (.bW 6) "target") (.J [6] b2 (.cE (.bY (.bW 0) "catches")) (.J (.b7 (.bY (.bW 6) "first") (.J .gm (.bW 3) (.J .jL (.bY (.bW 6) "last") .N))) .N) .N)
noncomputable def ri:cv:=.ei ar (.bW 7) (.J [7] b2 (.cE (.bW 5)) (.J (.b7 (.bW 7) (.J .fY (.bW 1) .N)) .N) .N)
def rj:cW:=(.J (.ch 4 (.cL (.bY (.bW 0) "rows") (.bW 3)))
 (.J (.ch 5 yN)
 (.J (.ch 5 (.eD ar .dc (.eD ar .dc (.bW 5) (.fx (.b7 (.fP ar (.bY (.bW 4) "op") .bX (.Z 4)) (.J .cZ (.ad "jump") .N)) (.a3 ar (.J (.bY (.bW 4) "a") .N)) (.a3 ar .N))) (.fx (.b7 (.bY (.bW 4) "op") (.J .ft (.b5 61) .N)) (.a3 ar .N) (.a3 ar (.J (.eD ar .dc (.bW 3) (.Z 1)) .N)))))
 (.J (.ch 1 (.eD ar .dc (.bW 1) ri))
 .N))))
def nl:cW:=(.J (.ch 2 (.b0 ar (.b5 12) (.J (.bW 1) .N)))
 (.J (.fT [3] b2 (.cE (.b0 ar (.b5 9) (.J (.bW 1) .N))) rj)
 .N))
def EV:dz where
 cJ:="_law_ways"
 b9:=1
 cn:=["code","met","many","spot","row","goals","one","goal"]
 c3:=[]
 cR:=b2
 cN:=.cA (.J (.eg [1,2] (.J (.b0 ar (.b5 9) (.J (.bY (.bW 0) "starts") .N)) (.J (.pQ (.Z 1)) .N)))
 (.J (.p8 1000 ni nl)
 (.J (.cw (.bW 1))
 .N)))
noncomputable def zZ:cv:=(.ev (.J (.b7 (.bY (.cL (.bY (.bW 0) "rows") (.bW 1)) "op") (.J .cZ (.ad "jump") .N)) (.J (.b7 (.bW 1) (.J .fY (.bW 2) .N)) .N)))
noncomputable def z0:cW:=(.J (.df (.eQ (.bW 2) "append" (.J (.bW 1) .N)))
 (.J (.ch 1 (.bY (.cL (.bY (.bW 0) "rows") (.bW 1)) "a"))
 .N))
def HI:dz where
 cJ:="_law_end"
 b9:=2
 cn:=["code","spot","seen"]
 c3:=[]
 cR:=b2
 cN:=.cA (.J (.ch 2 (.a3 b2 .N))
 (.J (.p8 1000 zZ z0)
 (.J (.cw (.fx (.b7 (.bW 1) (.J .ft (.bW 2) .N)) .bX (.bW 1)))
 .N)))
noncomputable def vw:dz where
 cJ:="_law_jump_left"
 b9:=3
 cn:=["code","at","row","stop"]
 c3:=[]
 cR:=b2
 cN:=.cA (.J (.ch 3 (.b0 ar (.b5 68) (.J (.bW 0) (.J (.bY (.bW 2) "a") .N))))
 (.J (.cB (.hK (.J (.b7 (.bY (.bW 2) "a") (.J .cZ (.eD ar .dc (.bW 1) (.Z 1)) .N)) (.J (.ev (.J (.b7 (.bW 3) (.J (.oc ()) .bX .N)) (.J (.b7 (.bW 3) (.J .ne (.bY (.bW 2) "a") .N)) .N))) .N))) (.J (.cw (.b3 ar))
 .N) .N)
 (.J (.cw (.ev (.J (.b7 (.bY (.bW 2) "op") (.J .cZ (.ad "jump") .N)) (.J (.b7 (.bW 3) (.J (.oc ()) .bX .N)) (.J (.b7 (.bY (.cL (.bY (.bW 0) "rows") (.bW 3)) "op") (.J .cZ (.ad "leave") .N)) .N)))))
 .N)))
noncomputable def vx:dz where
 cJ:="_law_pair_left"
 b9:=3
 cn:=["code","at","words","first","later","third"]
 c3:=[]
 cR:=b2
 cN:=.cA (.J (.i0 [3,4,5] (.bW 2))
 (.J (.cB (.hK (.J (.ev (.J (.b7 (.bW 3) (.J .ft (.b5 44) .N)) (.J (.b7 (.bW 4) (.J .cZ (.ad "pop") .N)) .N))) (.J (.ev (.J (.b7 (.bW 3) (.J .ft (.a3 ar (.J (.ad "swap") (.J (.ad "dup") .N))) .N)) (.J (.b7 (.bW 4) (.J .cZ (.ad "swap") .N)) .N))) .N))) (.J (.cw (.b3 ar))
 .N) .N)
 (.J (.cB (.hK (.J (.ev (.J (.b7 (.bW 3) (.J .cZ (.ad "dup") .N)) (.J (.b7 (.bW 4) (.J .ft (.b5 46) .N)) (.J (.b7 (.bW 5) (.J .cZ (.ad "pop") .N)) .N)))) (.J (.ev (.J (.b7 (.bW 3) (.J .cZ (.ad "push") .N)) (.J (.b7 (.bW 4) (.J .ft (.b5 47) .N)) .N))) .N))) (.J (.cw (.b3 ar))
 .N) .N)
 (.J (.cB (.ev (.J (.b7 (.bW 3) (.J .ft (.b5 47) .N)) (.J (.b7 (.bW 4) (.J .cZ (.ad "jump") .N)) (.J (.b7 (.bY (.cL (.bY (.bW 0) "rows") (.bW 1)) "a") (.J .cZ (.eD ar .dc (.bW 1) (.Z 2)) .N)) .N)))) (.J (.cw (.b3 ar))
 .N) .N)
 (.J (.cw (.ev (.J (.b7 (.bW 3) (.J .cZ (.ad "push") .N)) (.J (.b7 (.bW 4) (.J .cZ (.ad "jump") .N)) (.J (.b7 (.bY (.cL (.bY (.bW 0) "rows") (.bY (.cL (.bY (.bW 0) "rows") (.eD ar .dc (.bW 1) (.Z 1))) "a")) "op") (.J .ft (.b5 47) .N)) .N)))))
 .N)))))
noncomputable def uH:cv:=.ei ar (.bY (.bW 6) "a") (.J [6] b2 (.cE (.bY (.bW 0) "rows")) (.J (.b7 (.fP ar (.bY (.bW 6) "op") .bX (.Z 4)) (.J .cZ (.ad "jump") .N)) .N) .N)
noncomputable def uI:cv:=.ei ar (.bY (.bW 7) "target") (.J [7] b2 (.cE (.bY (.bW 0) "catches")) .N .N)
noncomputable def n6:cv:=(.ev (.J (.b7 (.b0 ar (.b5 12) (.J (.bW 5) .N)) (.J .jL (.Z 3) .N)) (.J (.b7 (.eD ar .dc (.bW 3) (.b0 ar (.b5 12) (.J (.bW 5) .N))) (.J .jL (.b0 ar (.b5 12) (.J (.bY (.bW 0) "rows") .N)) .N)) (.J (.b7 (.eD ar .dc (.bW 3) (.b0 ar (.b5 12) (.J (.bW 5) .N))) (.J .fY (.bW 1) .N)) .N))))
noncomputable def n7:cW:=(.J (.df (.eQ (.bW 5) "append" (.J (.bY (.cL (.bY (.bW 0) "rows") (.eD ar .dc (.bW 3) (.b0 ar (.b5 12) (.J (.bW 5) .N)))) "op") .N)))
 .N)
def uJ:cW:=(.J (.ch 5 (.a3 b2 (.J (.bY (.bW 4) "op") .N)))
 (.J (.p8 1000 n6 n7)
 (.J (.cB (.hK (.J (.b7 (.bW 3) (.J .fY (.bW 2) .N)) (.J (.b0 ar (.b5 70) (.J (.bW 0) (.J (.bW 3) (.J (.fP ar (.eD ar .dc (.bW 5) (.a3 ar (.J (.ad "") (.J (.ad "") .N)))) .bX (.Z 3)) .N)))) .N))) (.J (.cw (.b3 b2))
 .N) .N)
 (.J (.cB (.ev (.J (.b7 (.fP ar (.bY (.bW 4) "op") .bX (.Z 4)) (.J .cZ (.ad "jump") .N)) (.J (.b0 ar (.b5 71) (.J (.bW 0) (.J (.bW 3) (.J (.bW 4) .N)))) .N))) (.J (.cw (.b3 b2))
 .N) .N)
 .N))))
def yO:dz where
 cJ:="_law_at_rest"
 b9:=1
 cn:=["code","met","ways","at","row","words","row","one"]
 c3:=[]
 cR:=b2
 cN:=.cA (.J (.ch 1 (.eD ar .dc (.eD ar .dc uH uI) (.bY (.bW 0) "starts")))
 (.J (.ch 2 (.b0 ar (.b5 69) (.J (.bW 0) .N)))
 (.J (.fT [3,4] ar (.yC (.bY (.bW 0) "rows")) uJ)
 (.J (.cw (.b3 ar))
 .N))))
noncomputable def CI:dz where
 cJ:="_law_holds"
 b9:=1
 cn:=["value"]
 c3:=[]
 cR:=b2
 cN:=.cA (.J (.cw (.ev (.J (.b7 (.bW 0) (.J (.oc ()) .bX .N)) (.J (.b7 (.b0 ar (.b5 66) (.J (.bW 0) .N)) (.J .ne (.ad "False") .N)) .N))))
 .N)
noncomputable def z1:cv:=.ei ar (.bW 12) (.J [12] b2 (.cE (.bY (.bW 0) "catches")) (.J (.b7 (.bY (.bW 12) "first") (.J .jL (.bW 4) (.J .gm (.bY (.bW 12) "last") .N))) .N) .N)
def c1:cW:=(.J (.ch 8 (.cL (.bY (.bW 0) "rows") (.bW 4)))
 (.J (.eg [9,4,10] (.J (.bY (.bW 8) "op") (.J (.eD ar .dc (.bW 4) (.Z 1)) (.J (.fx (.b7 (.bY (.bW 8) "op") (.J .ft (.a3 ar (.J (.ad "getl") (.J (.ad "setl") .N))) .N)) (.bY (.bW 8) "b") (.bY (.bW 8) "a")) .N))))
 (.J (.cB (.b7 (.bW 9) (.J .ft (.a3 ar (.J (.ad "text") (.J (.ad "undef") (.J (.ad "lambda") .N)))) .N)) (.J (.df (.eQ (.bW 6) "append" (.J (.bW 9) .N)))
 .N) .N)
 (.J (.cB (.b7 (.bW 9) (.J .ft (.a3 ar (.J (.ad "push") (.J (.ad "self") (.J (.ad "blockgiven") (.J (.ad "text") (.J (.ad "undef") (.J (.ad "lambda") .N))))))) .N)) (.J (.df (.eQ (.bW 5) "append" (.J (.fx (.b7 (.bW 9) (.J .cZ (.ad "push") .N)) (.bW 10) (.fx (.b7 (.bW 9) (.J .cZ (.ad "blockgiven") .N)) (.bW 2) (.bW 9))) .N)))
 .N) .N)
 (.J (.cB (.b7 (.fP ar (.bW 9) .bX (.Z 3)) (.J .cZ (.ad "get") .N)) (.J (.df (.eQ (.bW 5) "append" (.J (.cL (.bW 7) (.bW 10)) .N)))
 .N) .N)
 (.J (.cB (.b7 (.fP ar (.bW 9) .bX (.Z 3)) (.J .cZ (.ad "set") .N)) (.J (.jc (.bW 7) (.bW 10) (.eQ (.bW 5) "pop" .N))
 (.J (.df (.eQ (.bW 6) "append" (.J (.cQ (.J (.bW 9) (.J (.bW 10) (.J (.b0 ar (.b5 66) (.J (.cL (.bW 7) (.bW 10)) .N)) .N)))) .N)))
 .N)) .N)
 (.J (.cB (.b7 (.bW 9) (.J .cZ (.ad "pop") .N)) (.J (.df (.eQ (.bW 5) "pop" .N))
 .N) .N)
 (.J (.cB (.b7 (.bW 9) (.J .cZ (.ad "dup") .N)) (.J (.df (.eQ (.bW 5) "append" (.J (.cL (.bW 5) (.pQ (.Z 1))) .N)))
 .N) .N)
 (.J (.cB (.b7 (.bW 9) (.J .cZ (.ad "swap") .N)) (.J (.df (.eQ (.bW 5) "append" (.J (.eQ (.bW 5) "pop" (.J (.pQ (.Z 2)) .N)) .N)))
 .N) .N)
 (.J (.cB (.b7 (.bW 9) (.J .cZ (.ad "leave") .N)) (.J (.cw (.cQ (.J (.eD ar .dc (.bW 6) (.a3 ar (.J (.cQ (.J (.bW 9) (.J (.b0 ar (.b5 66) (.J (.eQ (.bW 5) "pop" .N) .N)) .N))) .N))) (.J (.b3 ar) .N))))
 .N) .N)
 (.J (.cB (.hK (.J (.b7 (.bW 9) (.J .cZ (.ad "jump") .N)) (.J (.ev (.J (.b7 (.bW 9) (.J .cZ (.ad "jumpnil") .N)) (.J (.b7 (.cL (.bW 5) (.pQ (.Z 1))) (.J .wb .bX .N)) .N))) .N))) (.J (.ch 4 (.bY (.bW 8) "a"))
 .N) .N)
 (.J (.cB (.ev (.J (.b7 (.bW 9) (.J .ft (.b5 47) .N)) (.J (.b7 (.b0 ar (.b5 72) (.J (.eQ (.bW 5) "pop" .N) .N)) (.J .cZ (.b7 (.bW 9) (.J .cZ (.ad "jumpif") .N)) .N)) .N))) (.J (.ch 4 (.bY (.bW 8) "a"))
 .N) .N)
 (.J (.cB (.b7 (.bW 9) (.J .cZ (.ad "fail") .N)) (.J (.ch 11 z1)
 (.J (.df (.eQ (.bW 6) "append" (.J (.bW 9) .N)))
 (.J (.cB (.b7 (.bW 11) (.J .cZ (.a3 ar .N) .N)) (.J (.cw (.cQ (.J (.pR (.bW 6)) (.J (.b3 ar) .N))))
 .N) .N)
 (.J (.eg [5,4] (.J (.eD b2 .dc (.fP ar (.bW 5) .bX (.bY (.cL (.bW 11) (.Z 0)) "depth")) (.a3 ar (.J (.ad "way") .N))) (.J (.bY (.cL (.bW 11) (.Z 0)) "target") .N)))
 .N)))) .N)
 .N)))))))))))))
def x7:dz where
 cJ:="_law_run"
 b9:=3
 cn:=["code","start","is_first","lap","at","stack","deeds","kept","row","op","name","some","one"]
 c3:=[]
 cR:=b2
 cN:=.cA (.J (.eg [4,5,6,7] (.J (.bW 1) (.J (.a3 b2 .N) (.J (.a3 b2 .N) (.J (.d4 (.J (.Z 0) (.J (.bW 2) (.J (.Z 1) (.J (.Z 5) (.J (.ad "@x") (.J (.gn (.bW 2)) (.J (.ad "$x") (.J .bX .N))))))))) .N)))))
 (.J (.fT [3] b2 (.gb (.Z 26)) c1)
 (.J (.cw (.cQ (.J (.pR (.bW 6)) (.J (.b3 b2) .N))))
 .N)))
noncomputable def mD:cW:=(.J (.i0 [5,6] (.b0 ar (.b5 73) (.J (.bW 0) (.J (.bW 3) (.J (.bW 4) .N)))))
 (.J (.i0 [7,8] (.b0 ar (.b5 73) (.J (.bW 1) (.J (.cL (.bY (.bW 1) "starts") (.bW 2)) (.J (.bW 4) .N)))))
 (.J (.cB (.hK (.J (.b7 (.fP ar (.bW 7) .bX (.b0 ar (.b5 12) (.J (.bW 5) .N))) (.J .ne (.bW 5) .N)) (.J (.ev (.J (.bW 6) (.J (.hK (.J (.b7 (.bW 7) (.J .ne (.bW 5) .N)) (.J (.gn (.bW 8)) .N))) .N))) .N))) (.J (.cw (.b3 b2))
 .N) .N)
 .N)))
def sm:cW:=(.J (.fT [4] b2 (.cE (.a3 ar (.J (.b3 b2) (.J (.b3 ar) .N)))) mD)
 .N)
def vy:dz where
 cJ:="_law_does_same"
 b9:=2
 cn:=["code","twin","spot","start","is_first","deeds","is_through","found","ends_here"]
 c3:=[]
 cR:=b2
 cN:=.cA (.J (.cB (.b7 (.b0 ar (.b5 12) (.J (.bY (.bW 0) "starts") .N)) (.J .ne (.b0 ar (.b5 12) (.J (.bY (.bW 1) "starts") .N)) .N)) (.J (.cw (.b3 b2))
 .N) .N)
 (.J (.fT [2,3] ar (.yC (.bY (.bW 0) "starts")) sm)
 (.J (.cw (.b3 ar))
 .N)))
noncomputable def EW:dz where
 cJ:="_law_said"
 b9:=1
 cn:=["code"]
 c3:=[]
 cR:=b2
 cN:=.cA (.J (.vY (.J (.cw (.b0 ar (.b5 23) (.J (.bW 0) .N)))
 .N))
 .N)
noncomputable def Aa:cv:=.ei ar (.fx (.b7 (.bW 12) (.J .ft (.bW 9) .N)) (.cL (.bW 7) (.bW 12)) .bX) (.J [12] b2 (.gb (.b0 ar (.b5 12) (.J (.bW 7) .N))) .N .N)
noncomputable def Ab:cv:=.ei ar (.bW 13) (.J [13,14] ar (.cE (.b5 36)) .N .N)
noncomputable def Ac:cW:=(.J (.cB (.hK (.J (.gn (.b0 ar (.b5 79) (.J (.bW 11) .N))) (.J (.gn (.b0 ar (.b5 80) (.J (.bW 10) (.J (.bW 11) .N)))) .N))) (.J (.cw (.b3 b2))
 .N) .N)
 .N)
noncomputable def Ad:cv:=.ei ar (.bW 15) (.J [15] b2 (.cE (.b5 77)) (.J (.b7 (.b0 ar (.b5 67) (.J (.b0 ar (.b5 40) (.J (.bW 3) (.J (.a3 ar (.J (.bW 15) .N)) .N))) .N)) (.J .ne (.bW 4) .N)) .N) .N)
noncomputable def Ae:cv:=.ei ar (.bW 17) (.J [16] b2 (.cE (.eD ar .dc (.a3 ar (.J (.bW 6) .N)) (.bW 2))) .N (.J [17] b2 (.cE (.bY (.bW 16) "catches")) (.J (.b7 (.bY (.bW 17) "depth") (.J .tq (.Z 0) .N)) .N) .N))
def Fp:dz where
 cJ:="law"
 b9:=1
 cn:=["script","box","within","twin","due","keeps","code","heights","before","ways","one","tidied","spot","name","step","name","some","one"]
 c3:=[]
 cR:=b2
 cN:=.cA (.J (.ch 1 (.b0 ar (.b5 74) (.J (.bW 0) .N)))
 (.J (.ch 2 (.fx (.cL (.bW 1) (.Z 3)) (.a3 ar .N) (.a3 ar (.J (.cL (.b0 ar (.b5 75) (.J (.bW 1) (.J (.Z 6) (.J (.ad "block") (.J (.a3 ar .N) .N))))) (.Z 0)) .N))))
 (.J (.i0 [6,7] (.b0 ar (.b5 75) (.J (.bW 1) (.J (.Z 10) (.J (.ad "method") (.J (.bW 2) .N))))))
 (.J (.eg [8,9] (.J (.b0 ar (.b5 67) (.J (.bW 6) .N)) (.J (.b0 ar (.b5 69) (.J (.bW 6) .N)) .N)))
 (.J (.cB (.b7 (.b0 ar (.b5 76) (.J (.bW 6) .N)) (.J .ne Aa .N)) (.J (.cw (.b3 b2))
 .N) .N)
 (.J (.ch 3 (.b0 ar (.b5 38) (.J (.bW 6) .N)))
 (.J (.cB (.hK (.J (.b7 (.b0 ar (.b5 12) (.J (.bY (.bW 3) "children") .N)) (.J .ne (.b0 ar (.b5 12) (.J (.bW 2) .N)) .N)) (.J (.b7 (.b0 ar (.b5 78) (.J Ab .N)) (.J .ne (.b0 ar (.b5 9) (.J (.b5 77) .N)) .N)) .N))) (.J (.cw (.b3 b2))
 .N) .N)
 (.J (.fT [10,11] ar (.zt (.eD ar .dc (.a3 ar (.J (.bW 6) .N)) (.bW 2)) (.eD ar .dc (.a3 ar (.J (.bW 3) .N)) (.bY (.bW 3) "children"))) Ac)
 (.J (.ch 4 (.b0 ar (.b5 67) (.J (.bW 3) .N)))
 (.J (.cB (.hK (.J (.b7 Ad (.J .ne (.a3 ar .N) .N)) (.J (.b7 (.b0 ar (.b5 67) (.J (.b0 ar (.b5 38) (.J (.bW 3) .N)) .N)) (.J .ne (.bW 4) .N)) .N))) (.J (.cw (.b3 b2))
 .N) .N)
 (.J (.ch 5 Ae)
 (.J (.cB (.ev (.J (.b7 (.bW 5) (.J .cZ (.a3 ar .N) .N)) (.J (.b7 .bX (.J .ft (.b0 ar (.b5 76) (.J (.bW 3) .N)) .N)) .N))) (.J (.cw (.b3 b2))
 .N) .N)
 (.J (.cw (.b7 (.b0 ar (.b5 67) (.J (.bW 6) .N)) (.J .cZ (.bW 8) .N)))
 .N)))))))))))))
def cr:rg where
 p9:=[EL,sO,zM,wS,CB,uC,CC,EM,zN,EN,vn,uD,qq,p4,p5,lB,oF,wT,sD,Oj,Ok,EO,HD,wU,EP,HE,wV,uE,uF,EQ,p6,pe,p7,vt,Ol,wW,Rc,zU,CD,HG,ES,CE,HH,CF,zX,wZ,po,CG,zY,ET,jl,qV,rh,uf,EU,EV,HI,vw,vx,yO,CI,x7,vy,EW,Fp]
 e7:=[
 {cJ:="Row",dj:=["op","a","b","c","line"],gx:=0,ey:=ar,kH:=[("with_target",1)]},
 {cJ:="Catch",dj:=["sort","first","last","target","depth"],gx:=2,ey:=ar,kH:=[("covers",3)]},
 {cJ:="Code",dj:=["kind","name","params","slots","rows","catches","children","starts","number"],gx:=4,ey:=ar,kH:=[("with_rows",5)]},
 {cJ:="RowCheck",dj:=["code","seen","depths","waiting"],gx:=10,ey:=b2,kH:=[("reach",11),("need_form",12),("need_slots",13),("need_child",14),("step",15),("need_catches",16),("run",17)]}]
 pS:=[kv "Row" (.kE 0),
 kv "Code" (.kE 2),
 kv "EFFECTS" (.ob 0),
 kv "isinstance" (.bi 8),
 kv "tuple" (.bi 11),
 kv "int" (.bi 5),
 kv "bool" (.bi 9),
 kv "str" (.bi 10),
 kv "is_whole" (.fn 7),
 kv "list" (.bi 1),
 kv "is_block" (.fn 906),
 kv "is_sort" (.fn 907),
 kv "len" (.bi 0),
 kv "OPERANDS" (.ob 1),
 kv "is_operand" (.fn 8),
 kv "JUMPS" ((.cQ [(.ad "jump"),(.ad "jumpif"),(.ad "jumpunless"),(.ad "jumpnil")])),
 kv "child_of" (.fn 9),
 kv "effect_of" (.fn 6),
 kv "ENDS" ((.cQ [(.ad "jump"),(.ad "leave"),(.ad "out"),(.ad "again"),(.ad "nomatch"),(.ad "fail")])),
 kv "Catch" (.kE 1),
 kv "CATCH_SORTS" ((.cQ [(.ad "rescue"),(.ad "ensure")])),
 kv "CODE_KINDS" ((.cQ [(.ad "method"),(.ad "block"),(.ad "class"),(.ad "program")])),
 kv "RowCheck" (.kE 3),
 kv "check_rows" (.fn 18),
 kv "end_of_jumps" (.fn 23),
 kv "pressed" (.fn 22),
 kv "reached" (.fn 25),
 kv "marks_of" (.fn 21),
 kv "is_op" (.fn 19),
 kv "PLAIN" ((.cQ [(.ad "push"),(.ad "self"),(.ad "getl"),(.ad "geti"),(.ad "getg"),(.ad "dup"),(.ad "blockgiven")])),
 kv "STORES" ((.cQ [(.ad "setl"),(.ad "seti"),(.ad "setg"),(.ad "setc")])),
 kv "truth" (.fn 20),
 kv "BRANCHES" ((.cQ [(.ad "jumpif"),(.ad "jumpunless")])),
 kv "is_taken" (.fn 29),
 kv "MOST_ROUNDS" ((.Z 24)),
 kv "shape" (.fn 34),
 kv "PASSES" ((.a3 [(.cQ [(.ad "threaded"),(.fn 24)]),(.cQ [(.ad "known branches"),(.fn 30)]),(.cQ [(.ad "turned branches"),(.fn 31)]),(.cQ [(.ad "short jumps"),(.fn 32)]),(.cQ [(.ad "dead rows"),(.fn 26)]),(.cQ [(.ad "pushes"),(.fn 27)]),(.cQ [(.ad "copies"),(.fn 28)]),(.cQ [(.ad "swaps"),(.fn 33)])])),
 kv "tidied_alone" (.fn 35),
 kv "tidy" (.fn 36),
 kv "pass_named" (.fn 37),
 kv "passed_by" (.fn 38),
 kv "max" (.bi 2),
 kv "abs" (.bi 4),
 kv "_law_take" (.fn 40),
 kv "_law_puts" ((.cQ [(.ad "push"),(.ad "self"),(.ad "getl"),(.ad "geti"),(.ad "getg"),(.ad "dup"),(.ad "blockgiven")])),
 kv "_law_known" (.fn 41),
 kv "_law_stores" ((.cQ [(.ad "setl"),(.ad "seti"),(.ad "setg"),(.ad "setc")])),
 kv "_law_branches" ((.cQ [(.ad "jumpif"),(.ad "jumpunless")])),
 kv "_law_put" (.fn 42),
 kv "_law_dup" ((.cQ [(.ad "dup"),.bX,.bX])),
 kv "_law_store" (.fn 43),
 kv "_law_pop" ((.cQ [(.ad "pop"),.bX,.bX])),
 kv "_law_swap" ((.cQ [(.ad "swap"),.bX,.bX])),
 kv "_law_branch" (.fn 44),
 kv "_law_leave" ((.cQ [(.ad "leave"),.bX,.bX])),
 kv "_law_jump" ((.cQ [(.ad "jump"),.bX,.bX])),
 kv "_law_met_pair" (.fn 45),
 kv "_law_one" (.fn 46),
 kv "_law_change" (.fn 48),
 kv "_law_piece" (.fn 47),
 kv "_law_laid" (.fn 49),
 kv "_law_ends" ((.cQ [(.ad "jump"),(.ad "leave"),(.ad "fail")])),
 kv "min" (.bi 3),
 kv "_law_plain" (.fn 50),
 kv "_law_goal" (.fn 51),
 kv "_law_catches" (.fn 52),
 kv "repr" (.bi 6),
 kv "_law_told" (.fn 54),
 kv "_law_end" (.fn 56),
 kv "_law_ways" (.fn 55),
 kv "_law_pair_left" (.fn 58),
 kv "_law_jump_left" (.fn 57),
 kv "_law_holds" (.fn 60),
 kv "_law_run" (.fn 61),
 kv "_law_box" (.fn 39),
 kv "_law_scene" (.fn 53),
 kv "_law_said" (.fn 63),
 kv "_law_names" ((.cQ [(.ad "copies"),(.ad "dead rows"),(.ad "known branches"),(.ad "pushes"),(.ad "short jumps"),(.ad "swaps"),(.ad "threaded"),(.ad "turned branches")])),
 kv "sorted" (.bi 7),
 kv "_law_at_rest" (.fn 59),
 kv "_law_does_same" (.fn 62)]
 ll:=[[kv "push" (.cQ [(.Z 0),(.Z 1)]),kv "text" (.cQ [(.Z 0),(.Z 1)]),kv "pop" (.cQ [(.Z 1),(.Z 0)]),kv "dup" (.cQ [(.Z 1),(.Z 2)]),kv "dup2" (.cQ [(.Z 2),(.Z 4)]),kv "swap" (.cQ [(.Z 2),(.Z 2)]),kv "tuck" (.fn 914),kv "self" (.cQ [(.Z 0),(.Z 1)]),kv "getl" (.cQ [(.Z 0),(.Z 1)]),kv "setl" (.cQ [(.Z 1),(.Z 0)]),kv "geti" (.cQ [(.Z 0),(.Z 1)]),kv "seti" (.cQ [(.Z 1),(.Z 0)]),kv "getg" (.cQ [(.Z 0),(.Z 1)]),kv "setg" (.cQ [(.Z 1),(.Z 0)]),kv "getc" (.cQ [(.Z 0),(.Z 1)]),kv "getcin" (.cQ [(.Z 1),(.Z 1)]),kv "setc" (.cQ [(.Z 1),(.Z 0)]),kv "list" (.fn 908),kv "append" (.cQ [(.Z 2),(.Z 1)]),kv "joinlists" (.cQ [(.Z 2),(.Z 1)]),kv "spread" (.cQ [(.Z 1),(.Z 1)]),kv "table" (.fn 913),kv "range" (.cQ [(.Z 2),(.Z 1)]),kv "totext" (.cQ [(.Z 1),(.Z 1)]),kv "texts" (.fn 908),kv "send" (.fn 910),kv "super" (.fn 912),kv "zsuper" (.fn 916),kv "yield" (.fn 915),kv "jump" (.cQ [(.Z 0),(.Z 0)]),kv "jumpif" (.cQ [(.Z 1),(.Z 0)]),kv "jumpunless" (.cQ [(.Z 1),(.Z 0)]),kv "jumpnil" (.cQ [(.Z 1),(.Z 1)]),kv "lambda" (.cQ [(.Z 0),(.Z 1)]),kv "def" (.cQ [(.Z 0),(.Z 1)]),kv "sdef" (.cQ [(.Z 1),(.Z 1)]),kv "class" (.fn 903),kv "module" (.cQ [(.Z 0),(.Z 1)]),kv "sclass" (.cQ [(.Z 1),(.Z 1)]),kv "alias" (.cQ [(.Z 0),(.Z 1)]),kv "undef" (.cQ [(.Z 0),(.Z 1)]),kv "leave" (.cQ [(.Z 1),(.Z 0)]),kv "out" (.cQ [(.Z 1),(.Z 0)]),kv "again" (.cQ [(.Z 1),(.Z 0)]),kv "caught" (.cQ [(.Z 1),(.Z 1)]),kv "setcaught" (.cQ [(.Z 1),(.Z 0)]),kv "defined" (.fn 904),kv "spreadto" (.fn 911),kv "respond" (.cQ [(.Z 1),(.Z 1)]),kv "islist" (.cQ [(.Z 1),(.Z 1)]),kv "istable" (.cQ [(.Z 1),(.Z 1)]),kv "listfits" (.cQ [(.Z 1),(.Z 1)]),kv "listat" (.cQ [(.Z 1),(.Z 1)]),kv "listpart" (.cQ [(.Z 1),(.Z 1)]),kv "tablehas" (.cQ [(.Z 1),(.Z 1)]),kv "tableat" (.cQ [(.Z 1),(.Z 1)]),kv "tablerest" (.cQ [(.Z 1),(.Z 1)]),kv "tableonly" (.cQ [(.Z 1),(.Z 1)]),kv "nomatch" (.cQ [(.Z 1),(.Z 0)]),kv "blockgiven" (.cQ [(.Z 0),(.Z 1)]),kv "fail" (.cQ [(.Z 0),(.Z 0)]),kv "builtin" (.cQ [(.Z 0),(.Z 1)]),kv "needclass" (.cQ [(.Z 1),(.Z 1)]),kv "toblock" (.cQ [(.Z 1),(.Z 1)]),kv "passing" (.cQ [(.Z 1),(.Z 0)])],
 [kv "push" (.ad "v"),kv "text" (.ad "t"),kv "tuck" (.ad "c"),kv "getl" (.ad "cc"),kv "setl" (.ad "cc"),kv "geti" (.ad "n"),kv "seti" (.ad "n"),kv "getg" (.ad "n"),kv "setg" (.ad "n"),kv "getc" (.ad "n"),kv "getcin" (.ad "n"),kv "setc" (.ad "n"),kv "list" (.ad "c"),kv "table" (.ad "c"),kv "range" (.ad "f"),kv "texts" (.ad "c"),kv "send" (.ad "nas"),kv "super" (.ad "ab"),kv "zsuper" (.ad "b"),kv "yield" (.ad "a"),kv "jump" (.ad "p"),kv "jumpif" (.ad "p"),kv "jumpunless" (.ad "p"),kv "jumpnil" (.ad "p"),kv "lambda" (.ad "c"),kv "def" (.ad "nc"),kv "sdef" (.ad "nc"),kv "class" (.ad "ncf"),kv "module" (.ad "nc"),kv "sclass" (.ad "c"),kv "alias" (.ad "nn"),kv "undef" (.ad "n"),kv "out" (.ad "s"),kv "defined" (.ad "sv"),kv "spreadto" (.ad "crc"),kv "respond" (.ad "n"),kv "listfits" (.ad "cf"),kv "listat" (.ad "i"),kv "listpart" (.ad "cc"),kv "tablehas" (.ad "v"),kv "tableat" (.ad "v"),kv "tablerest" (.ad "k"),kv "tableonly" (.ad "k"),kv "fail" (.ad "nt"),kv "builtin" (.ad "n")]]
noncomputable def MR:Nat:=64
abbrev KE:=bZ→bS→Prop
abbrev KS:=ue→cV→bS→Prop
abbrev KL:=List bl→bS→Prop
abbrev cK:=Nat→List bZ→bS→KE→Prop
structure gp where
 T:rg
 C:cK
def lu{a:Type}(b:Option a)(K:a→Prop):Prop:=@LJ a (fun c=>Prop) False K b
def gy(b:Option (bZ×bS))(K:KE):Prop:=@LJ (bZ×bS) (fun a=>Prop) False (fun c=>@Prod.rec bZ bS (fun a=>Prop) K c) b
def pT(c:Bool)(a b:Prop):Prop:=@Gb (fun d=>Prop) b a c
def flw(c:ue)(b a:Prop)(d:bZ→Prop):Prop:=@ue.rec (fun e=>Prop) b a d c
def Vp(b:bZ)(K:bl→Prop):Prop:=@bZ.rec (fun a=>Prop) K (fun a=>False) (fun a=>False) b
noncomputable def uP:List bZ→(List bl→Prop)→Prop
 |[],K=>K []
 |d::c,K=>Vp d fun a=>uP c fun b=>K (a::b)
noncomputable def wf:cV→Nat→bZ→(cV→Prop)→Prop
 |[],_,_,_=>False
 |d::a,b,c,K=>match b with
  | 0=>K (O c::a)
  |b+1=>wf a b c fun a=>K (d::a)
noncomputable def zw:List Nat→List bZ→cV→(cV→Prop)→Prop
 |[],a,b,K=>match a with
  |[] =>K b
  |_::_=>False
 |e::d,a,b,K=>match a with
  |[] =>False
  |c::a=>wf b e c fun b=>zw d a b K
noncomputable def qL:List Nat→List bl→cV→(cV→Prop)→Prop
 |[],a,b,K=>match a with
  |[] =>K b
  |_::_=>False
 |e::d,a,b,K=>match a with
  |[] =>False
  |c::a=>wf b e (.f c) fun b=>qL d a b K
def jP(b:cV)(c:List Nat)(e:Bool)(a:bl)(K:cV→Prop):Prop:=pT e (match a with
 |.cQ d=>qL c d b K
 |_=>False) (qL c [a] b K)
noncomputable def Wq:Nat→(cV→Prop)→Prop
 | 0,K=>K []
 |a+1,K=>Wq a fun b=>K (b1::b)
noncomputable def QQ:List bZ→Nat→(cV→Prop)→Prop
 |[],a,K=>Wq a K
 |c::d,a,K=>QQ d a fun b=>K (O c::b)
def Y5:bl→(Sum Int b4→Prop)→Prop
 |.Z b,K=>K (.inl b)
 |.ad a,K=>K (.inr a)
 |_,_=>False
noncomputable def Fq:List bl→(List (Sum Int b4×bl)→Prop)→Prop
 |[],K=>K []
 |a::b,K=>match b with
  |[] =>False
  |c::b=>Y5 a fun a=>Fq b fun d=>K ((a,c)::d)
noncomputable def sn(a b:Nat):Option Unit:=if a≤b then O () else b1
def qM(b:Bool)(c:bZ):Option (List bl):=if b then b1 else match c with
 |.f (.Z a)=>if a.natAbs≤1000000 then O (dL a) else b1
 |_=>b1
def w1(c:Bool)(d:bZ):Option (List bl):=if c then (match d with
 |.f (.a3 b)=>if b.length≤100000 then O (eV b) else b1
 |.f (.ad a)=>if a.cps.all (·<128)=ar∧a.cps.size≤100000 then O (eV (ld a)) else b1
 |_=>b1) else b1
def G5(e:Bool)(d c:bZ):Option (List bl):=if e then (match d with
 |.f (.a3 a)=>(match c with
  |.f (.a3 b)=>if a.length≤100000 then O (iC a b) else b1
  |_=>b1)
 |_=>b1) else b1
def oe(b:bZ):Option (List bl):=b.f?.bind fun a=>(si a).map (·.2)
def Fr(d:bS):bZ→bZ→Option (bZ×bS)
 |.f a,b=>(oe b).bind fun c=>iI d ar (a::c)
 |_,_=>b1
noncomputable def Vq(a:rg):bl→Bool
 |.fn b=>(a.p9[b]?).isSome
 |.kE c=>(a.e7[c]?).isSome
 |.bi _=>ar
 |_=>b2
def MS(a:rg)(b:bZ):Bool:=b.f?.any (Vq a)
def Vr(d:gp)(fz:Bool)(f:bZ)(b:List bZ)(c:bS)(K:KE):Prop:=match f with
 |.f (.fn a)=>pT (jJ a 1000) (d.C a b c K) False
 |.f (.kE e)=>d.C (1000+e) b c K
 |.f (.bi a)=>gy (eW c fz a b) K
 |_=>False
def Vs(d:gp)(a:oC)(b:bZ)(c:List bZ)(e:bS)(K:KE):Prop:=match a with
 |.fn f=>d.C f (b::c) e K
 |a=>gy (jk d.T e a b c) K
def Vt(c:bS→List bl→KL→Prop)(K:KL)(b:List bl)(a:bS):Prop:=c a b K
noncomputable def og(d:cV→bS→List bl→KL→Prop)(c:cV)(e:List Nat)(f:Bool):List bl→bS→List bl→KL→Prop
 |[],a,b,K=>K b a
 |g::h,a,b,K=>jP c e f g fun i=>d i a b (Vt (og d c e f h) K)
def jQ(c:cV→bS→Prop)(K:KS)(e:ue)(a:cV)(b:bS):Prop:=flw e (c a b) (c a b) fun d=>K (.cw d) a b
noncomputable def jZ(c:cV→bS→KS→Prop)(d:List Nat)(e:Bool)(K:KS):List bl→cV→bS→Prop
 |[],a,b=>K .cc a b
 |f::g,a,b=>jP a d e f fun h=>c h b (jQ (jZ c d e K g) K)
def kWh(c:cV→bS→KS→Prop)(d:cV→bS→Prop)(K:KS)(a:cV)(e:Bool)(b:bS):Prop:=pT e (c a b (jQ d K)) (K .cc a b)
noncomputable def qb(a:cV→bS→(Bool→bS→Prop)→Prop)(c:cV→bS→KS→Prop)(K:KS):Nat→cV→bS→Prop
 | 0,_,_=>False
 |e+1,b,d=>a b d (kWh c (qb a c K e) K b)
section
variable(a:gp)(d b e:bS→KE→Prop)(c:bS→(List bZ→bS→Prop)→Prop)(K:KE)
def ZV(fz:Bool)(f:z8)(i h:bZ)(g:bS):Prop:=gy (pn g fz f i h) K
def abT(fz:Bool)(g:z8)(f:bZ)(h:bS):Prop:=b h (ZV K fz g f)
def abU(h:bZ)(f:bS):Prop:=lu (qa f h) fun g=>K (.f (.b3 (!g))) f
def abV(g:bZ)(h:bS):Prop:=lu (Y2 g) fun f=>K f h
def sp(f:Bool)(g:bS):Prop:=K (.f (.b3 f)) g
def abW(c:bZ→bS→(Bool→bS→Prop)→Prop)(g:bZ)(f:bS):Prop:=c g f (sp K)
def abX(g:bZ)(f:bS):Prop:=lu (qa f g) fun h=>pT h (d f K) (b f K)
def W2(fz:Bool)(f:bZ)(g:List bZ)(h:bS):Prop:=Vr a fz f g h K
def ZW(fz:Bool)(f:bZ)(g:bS):Prop:=pT (MS a.T f) (c g (W2 a K fz f)) False
def W3(f:oC)(g:bZ)(h:List bZ)(i:bS):Prop:=Vs a f g h i K
def ZX(i:b4)(f:bZ)(g:bS):Prop:=lu (jN a.T g f i) fun h=>c g (W3 a K h f)
def ZY(i:b4)(h:bZ)(f:bS):Prop:=lu (zv a.T f h i) fun g=>K g f
def ZZ(h i:bZ)(f:bS):Prop:=lu (jX a.T f h i) fun g=>K (.f g) f
def abY(f:bZ)(g:bS):Prop:=b g (ZZ a K f)
def abZ(fz:Bool)(f h i:bZ)(g:bS):Prop:=gy (jY g fz f h i) K
def ab0(fz:Bool)(f g:bZ)(h:bS):Prop:=b h (abZ K fz f g)
def kSl(fz:Bool)(f:bZ)(g:bS):Prop:=d g (ab0 b K fz f)
def ab1(g:List bZ)(h:bS):Prop:=uP g fun f=>lu (sn f.length 100000) fun i=>K (.f (.cQ f)) h
def Z0(fz:Bool)(g:List bZ)(h:bS):Prop:=uP g fun f=>gy (iI h fz f) K
def W4(f g:bZ)(h:bS):Prop:=gy (Fr h f g) K
def Z1(f:bZ)(g:bS):Prop:=b g (W4 K f)
def Vu(i:List bZ)(g:bS):Prop:=uP i fun h=>Fq h fun f=>pT (dY (f.length≤10∧(f.map (·.1)).Nodup)) (K (.cq g.length) (g++[O (.d4 f)])) False
def Z2(h:List bl)(K:KL)(f:bZ)(g:bS):Prop:=Vp f fun i=>K (h++[i]) g
def JH(g:cV→bS→KE→Prop)(f:cV)(h:bS)(i:List bl)(K:KL):Prop:=g f h (Z2 i K)
def MT(fz:Bool)(f:List bl)(g:bS):Prop:=gy (iI g fz f) K
def ab2(f:bZ)(g:bS):Prop:=gy (Wo g f) K
def Wr(h:bS→KE→Prop)(g:bZ)(f:bS):Prop:=lu (qa f g) fun i=>pT i (h f K) (K g f)
def kOr(h:bS→KE→Prop)(g:bZ)(f:bS):Prop:=lu (qa f g) fun i=>pT i (K g f) (h f K)
end
def Y6(K:List bZ→bS→Prop)(a:bZ)(b:List bZ)(c:bS):Prop:=K (a::b) c
def kEs(b:bS→(List bZ→bS→Prop)→Prop)(K:List bZ→bS→Prop)(a:bZ)(c:bS):Prop:=b c (Y6 K a)
def kCs(d:gp)(c:Fo)(f:bZ)(K:Bool→bS→Prop)(b:bZ)(a:bS):Prop:=lu (fh d.T a c f b) fun e=>K e a
def ab3(e:gp)(d:Fo)(g:bZ)(c:bZ→bS→(Bool→bS→Prop)→Prop)(K:Bool→bS→Prop)(b:bZ)(a:bS):Prop:=lu (fh e.T a d g b) fun f=>pT f (c b a K) (K b2 a)
def Nn(d:Bool)(K:KL)(b:bZ)(c:bS):Prop:=lu (DA d b) fun a=>lu (sn a.length 100000) fun e=>K a c
def W5(d:Bool)(K:KL)(a:bZ)(c:bS):Prop:=lu (qM d a) fun b=>K b c
def Z3(d:Bool)(K:KL)(a:bZ)(c:bS):Prop:=lu (w1 d a) fun b=>K b c
def Z4(e:Bool)(K:KL)(a b:bZ)(c:bS):Prop:=lu (G5 e a b) fun d=>K d c
def ab4(b:bS→KE→Prop)(d:Bool)(K:KL)(a:bZ)(c:bS):Prop:=b c (Z4 d K a)
def lS(K:Bool→bS→Prop)(b:bZ)(a:bS):Prop:=lu (qa a b) fun c=>K c a
def W6(c:bS→(Bool→bS→Prop)→Prop)(K:Bool→bS→Prop)(b:bZ)(a:bS):Prop:=lu (qa a b) fun d=>pT d (c a K) (K b2 a)
def Z5(c:bS→List bl→KL→Prop)(b:List bl)(K:KL)(d:Bool)(a:bS):Prop:=pT d (c a b K) (K b a)
def Af(e:cV→bS→(Bool→bS→Prop)→Prop)(b:cV→bS→List bl→KL→Prop)(a:cV)(c:bS)(d:List bl)(K:KL):Prop:=e a c (Z5 (b a) d K)
def No(c:cV→bS→List bl→KL→Prop)(b:cV)(e:List Nat)(g:Bool)(a:List bl)(K:KL)(d:List bl)(f:bS):Prop:=lu (sn a.length 1000000) fun h=>og c b e g d f a K
mutual
noncomputable def vE(X:gp):cv→cV→bS→KE→Prop
 |.bX,_,σ,K=>K (.f .bX) σ
 |.b3 b,_,σ,K=>K (.f (.b3 b)) σ
 |.Z i,_,σ,K=>K (.f (.Z i)) σ
 |.ad s,_,σ,K=>K (.f (.ad s)) σ
 |.bW x,ρ,σ,K=>lu (ρ[x]?).join fun v=>K v σ
 |.b5 g,_,σ,K=>lu (X.T.pS[g]?) fun p=>K (.f p.2) σ
 |.eD fz op a b,ρ,σ,K=>vE X a ρ σ (abT (vE X b ρ) K fz op)
 |.gn a,ρ,σ,K=>vE X a ρ σ (abU K)
 |.pQ a,ρ,σ,K=>vE X a ρ σ (abV K)
 |.ev xs,ρ,σ,K=>QR X xs ρ σ K
 |.hK xs,ρ,σ,K=>Y7 X xs ρ σ K
 |.b7 a cs,ρ,σ,K=>vE X a ρ σ (abW K (W7 X cs ρ))
 |.fx c a b,ρ,σ,K=>vE X c ρ σ (abX (vE X a ρ) (vE X b ρ) K)
 |.b0 fz f args,ρ,σ,K=>vE X f ρ σ (ZW X (II X args ρ) K fz)
 |.eQ o name args,ρ,σ,K=>vE X o ρ σ (ZX X (II X args ρ) K name)
 |.bY o name,ρ,σ,K=>vE X o ρ σ (ZY X K name)
 |.cL o i,ρ,σ,K=>vE X o ρ σ (abY X (vE X i ρ) K)
 |.fP fz o lo hi,ρ,σ,K=>vE X o ρ σ (kSl (vE X lo ρ) (vE X hi ρ) K fz)
 |.cQ xs,ρ,σ,K=>II X xs ρ σ (ab1 K)
 |.a3 fz xs,ρ,σ,K=>II X xs ρ σ (Z0 K fz)
 |.tr x rest,ρ,σ,K=>vE X x ρ σ (Z1 (vE X rest ρ) K)
 |.d4 kvs,ρ,σ,K=>II X kvs ρ σ (Vu K)
 |.ei fz elt gens,ρ,σ,K=>pT (Vo ρ (h5 gens)) (CJ X gens (JH (vE X elt)) ρ σ [] (MT K fz)) False
 |.pR e,ρ,σ,K=>vE X e ρ σ (ab2 K)
 |.sN,_,_,_=>False
noncomputable def II(X:gp):dS→cV→bS→(List bZ→bS→Prop)→Prop
 |.N,_,σ,K=>K [] σ
 |.J e r,ρ,σ,K=>vE X e ρ σ (kEs (II X r ρ) K)
noncomputable def QR(X:gp):dS→cV→bS→KE→Prop
 |.N,_,_,_=>False
 |.J e r,ρ,σ,K=>match r with
  |.N=>vE X e ρ σ K
  |_=>vE X e ρ σ (Wr K (QR X r ρ))
noncomputable def Y7(X:gp):dS→cV→bS→KE→Prop
 |.N,_,_,_=>False
 |.J e r,ρ,σ,K=>match r with
  |.N=>vE X e ρ σ K
  |_=>vE X e ρ σ (kOr K (Y7 X r ρ))
noncomputable def W7(X:gp):se→cV→bZ→bS→(Bool→bS→Prop)→Prop
 |.N,_,_,_,_=>False
 |.J op e r,ρ,a,σ,K=>vE X e ρ σ (match r with
  |.N=>kCs X op a K
  |_=>ab3 X op a (W7 X r ρ) K)
noncomputable def Y8(X:gp)(tp:Bool):ub→cV→bS→KL→Prop
 |.cE e,ρ,σ,K=>vE X e ρ σ (Nn tp K)
 |.gb e,ρ,σ,K=>vE X e ρ σ (W5 tp K)
 |.yC e,ρ,σ,K=>vE X e ρ σ (Z3 tp K)
 |.zt a b,ρ,σ,K=>vE X a ρ σ (ab4 (vE X b ρ) tp K)
noncomputable def mn(X:gp):dS→cV→bS→(Bool→bS→Prop)→Prop
 |.N,_,σ,K=>K ar σ
 |.J e r,ρ,σ,K=>vE X e ρ σ (W6 (mn X r ρ) K)
noncomputable def CJ(X:gp):kG→(cV→bS→List bl→KL→Prop)→cV→bS→List bl→KL→Prop
 |.N,g,ρ,σ,acc,K=>g ρ σ acc K
 |.J xs tp it ifs r,g,ρ,σ,acc,K=>Y8 X tp it ρ σ (No (Af (mn X ifs) (CJ X r g)) ρ xs tp acc K)
end
def Z6(K:KS)(a:cV)(c:bZ)(b:bS):Prop:=K .cc a b
def Ws(K:KS)(a:cV)(d:Nat)(b:bZ)(c:bS):Prop:=wf a d b fun a=>K .cc a c
def Z7(K:KS)(a:cV)(d:List Nat)(b:List bZ)(c:bS):Prop:=lu (sn b.length 1000) fun e=>zw d b a fun a=>K .cc a c
def ab5(K:KS)(a:cV)(e:List Nat)(b:bZ)(d:bS):Prop:=lu (oe b) fun c=>qL e c a fun a=>K .cc a d
def Z8(K:bS→Prop)(a b c:bZ)(d:bS):Prop:=lu (l4 d b c a) K
def Z9(c:bS→KE→Prop)(K:bS→Prop)(a b:bZ)(d:bS):Prop:=c d (Z8 K a b)
def QS(d b:bS→KE→Prop)(K:bS→Prop)(a:bZ)(c:bS):Prop:=d c (Z9 b K a)
def aaa(i b e f:bS→KE→Prop)(K:bS→Prop)(a c:bZ)(d:bS):Prop:=Vp a fun h=>Vp c fun g=>QS i b (QS e f K (.f g)) (.f h) d
def ab6(c g b e f:bS→KE→Prop)(K:bS→Prop)(a:bZ)(d:bS):Prop:=c d (aaa g b e f K a)
def ab7(K:KS)(b:cV)(a:bZ)(c:bS):Prop:=K (.cw a) b c
def ab8(e b:bS→KS→Prop)(K:KS)(d:bZ)(a:bS):Prop:=lu (qa a d) fun c=>pT c (e a K) (b a K)
def aab(b:cV→bS→KS→Prop)(d:List Nat)(f:Bool)(K:KS)(a:cV)(c:List bl)(e:bS):Prop:=jZ b d f K c a e
def zx(b:cV→bS→KE→Prop)(a:cV)(c:bS)(K:Bool→bS→Prop):Prop:=b a c (lS K)
def Dl(d:cV→bS→KS→Prop)(K:KS)(e:ue)(a:cV)(b:bS):Prop:=flw e (d a b K) (K .gX a b) fun c=>K (.cw c) a b
mutual
noncomputable def vS(X:gp):Cy→cV→bS→KS→Prop
 |.df e,ρ,σ,K=>vE X e ρ σ (Z6 K ρ)
 |.ch x e,ρ,σ,K=>vE X e ρ σ (Ws K ρ x)
 |.eg xs es,ρ,σ,K=>II X es ρ σ (Z7 K ρ xs)
 |.i0 xs e,ρ,σ,K=>vE X e ρ σ (ab5 K ρ xs)
 |.jc o i e,ρ,σ,K=>vE X e ρ σ (QS (vE X o ρ) (vE X i ρ) (K .cc ρ))
 |.oW o i o' i' a b,ρ,σ,K=>vE X a ρ σ (ab6 (vE X b ρ) (vE X o ρ) (vE X i ρ) (vE X o' ρ) (vE X i' ρ) (K .cc ρ))
 |.cw e,ρ,σ,K=>vE X e ρ σ (ab7 K ρ)
 |.cB c a b,ρ,σ,K=>vE X c ρ σ (ab8 (fG X a ρ) (fG X b ρ) K)
 |.p8 n c b,ρ,σ,K=>qb (zx (vE X c)) (fG X b) K n ρ σ
 |.fT xs tp it b,ρ,σ,K=>Y8 X tp it ρ σ (aab (fG X b) xs tp K ρ)
 |.gX,ρ,σ,K=>K .gX ρ σ
 |.vY b,ρ,σ,K=>fG X b ρ σ K
 |.sN,_,_,_=>False
noncomputable def fG(X:gp):cW→cV→bS→KS→Prop
 |.N,ρ,σ,K=>K .cc ρ σ
 |.J s r,ρ,σ,K=>vS X s ρ σ (Dl (fG X r) K)
end
def aac(b:cV→bS→(List bZ→bS→Prop)→Prop)(c:cV)(K:List bZ→bS→Prop)(a:bZ)(d:bS):Prop:=b c d (Y6 K a)
noncomputable def G6(c:gp):List (b4×cv)→cV→bS→(List bZ→bS→Prop)→Prop
 |[],_,a,K=>K [] a
 |d::e,b,a,K=>vE c d.2 b a (aac (G6 c e) b K)
noncomputable def l5(a:dz)(b:List bZ):Option (List bZ):=
 if b.length=a.b9 then O b else if b.length+a.c3.length=a.b9 then O (b++a.c3.map .f) else b1
def lG(g:Bool)(d:Nat)(b:KE)(e:ue)(h:cV)(a:bS):Prop:=flw e (b (.f .bX) (a.take d)) False fun c=>pT g (b c a) (Vp c fun f=>b (.f f) (a.take d))
def Ag(e:gp)(a:dz)(f:cW)(c:List bZ)(b:bS)(g:KE):Prop:=QQ c (a.cn.length-a.b9) fun d=>fG e f d b (lG a.cR b.length g)
def Wt(fz:Bool)(c e:Nat)(d:KE)(a:List bZ)(b:bS):Prop:=pT fz (uP a fun a=>d (.f (.gJ c a)) (b.take e)) (d (.fK b.length) (b++[O (.jW c a)]))
def Y9(f:gp)(h:lb)(b:Nat)(c:List (b4×cv))(d:List bZ)(a:bS)(g:KE):Prop:=QQ d 0 fun e=>G6 f c (b1::e) a (Wt h.ey b a.length g)
noncomputable def vC(a:rg):Nat→cK
 | 0,_,_,_,_=>False
 |i+1,c,d,h,j=>pT (jJ c 1000)
  (lu (a.p9[c]?) fun b=>match b.cN with
   |.cA k=>lu (l5 b d) fun l=>Ag ⟨a,vC a i⟩ b k l h j
   |.tu _ _=>False)
  (lu (a.e7[c-1000]?) fun e=>lu (a.p9[e.gx]?) fun b=>match b.cN with
   |.tu f g=>pT (dY (f=c-1000∧d.length=b.b9∧g.map (·.1)=e.dj)) (Y9 ⟨a,vC a i⟩ e f g d h j) False
   |.cA _=>False)
inductive Op where
 |d0|iQ|kB|uQ|uR|kq|g9|kC|uS|uT|uU|hV|e5|eL|cI|gA|dt|ew|nv|sq|j0|gz (u:Unit)
noncomputable def Op.cT:Op→b4
 |.d0=>"push" |.iQ=>"self" |.kB=>"getl" |.uQ=>"geti" |.uR=>"getg" |.kq=>"dup" |.g9=>"blockgiven" |.kC=>"setl" |.uS=>"seti" |.uT=>"setg" |.uU=>"setc"
 |.hV=>"jumpif" |.e5=>"jumpunless" |.eL=>"jumpnil" |.cI=>"jump" |.gA=>"pop" |.dt=>"swap" |.ew=>"leave" |.nv=>"text" |.sq=>"undef" |.j0=>"lambda" |.gz _=>"fail"
def Op.tb{a:Type}(l h p b k r q n e g v c i m u w y x s o d f:a)(t:Op):a:=@Op.rec (fun j=>a) l h p b k r q n e g v c i m u w y x s o d (fun j=>f) t
def Op.ctorIdx:Op→Nat:=Op.tb 0 1 2 3 4 5 6 7 8 9 10 11 12 13 14 15 16 17 18 19 20 21
noncomputable def fu:List Op:=[.d0,.iQ,.kB,.uQ,.uR,.kq,.g9,.kC,.uS,.uT,.uU,.hV,.e5,.eL,.cI,.gA,.dt,.ew,.nv,.sq,.j0,.gz ()]
def Op.eI(a:Nat):Op:=fu[a]?.getD (.gz ())
def Op.Vv(a:Op):Op.eI a.ctorIdx=a:=by induction a<;>rfl
noncomputable instance:DecidableEq Op:=fun a b=>decidable_of_iff (a.ctorIdx=b.ctorIdx) ⟨fun c=>(Op.Vv a).symm.trans ((congrArg Op.eI c).trans (Op.Vv b)),congrArg Op.ctorIdx⟩
def Op.b8:Op→Bool:=Op.tb b2 b2 b2 b2 b2 b2 b2 b2 b2 b2 b2 ar ar ar ar b2 b2 b2 b2 b2 b2 b2
def Op.cg:Op→Bool:=Op.tb b2 b2 b2 b2 b2 b2 b2 b2 b2 b2 b2 ar ar b2 b2 b2 b2 b2 b2 b2 b2 b2
def Op.dR:Op→Bool:=Op.tb b2 b2 b2 b2 b2 b2 b2 b2 b2 b2 b2 b2 b2 b2 ar b2 b2 ar b2 b2 b2 ar
def Op.i6:Op→Bool:=Op.tb ar ar ar ar ar ar ar b2 b2 b2 b2 b2 b2 b2 b2 b2 b2 b2 b2 b2 b2 b2
def Op.fQ:Op→Bool:=Op.tb b2 b2 b2 b2 b2 b2 b2 ar ar ar ar b2 b2 b2 b2 b2 b2 b2 b2 b2 b2 b2
def Op.c0:Op→Nat:=Op.tb 0 0 0 0 0 1 0 1 1 1 1 1 1 1 0 1 2 1 0 0 0 0
def Op.fS:Op→Nat:=Op.tb 1 1 1 1 1 2 1 0 0 0 0 0 0 1 0 0 2 0 1 1 1 0
structure R where
 bV:Op
 t:Nat
 a:bl
 b:bl
 c:bl
 e6:Int
structure Ct where
 mF:bl
 d1:Nat
 iz:Nat
 cP:Nat
 dG:Nat
noncomputable def Ct.c4(a:Ct)(b:Nat):Bool:=dY (a.d1≤b)&&dY (b<a.iz)
noncomputable def gZ:bl→Bool
 |.bX|.b3 _=>ar
 |.Z a=>a==0||a==5
 |.ad b=>(["s","self","text","undef","lambda","way"] :List b4).contains b
 |_=>b2
def sr(b:bl):Bool:=b.kA.any fun a=>a==0||a==1
noncomputable def dW:bl→Bool
 |.bX=>ar
 |_=>b2
def lv(b:b4)(a:bl):Bool:=a.tv.any fun c=>c==b
def rP(b:Int)(a:bl):Bool:=a.kA.any fun c=>c==b
def R.cF(f:Bool)(a:R):Bool:=
 have b:=dW a.a&&dW a.b&&dW a.c
 have e:=rP 0 a.a&&sr a.b&&dW a.c
 have d:=lv "@x" a.a&&dW a.b&&dW a.c
 have c:=lv "$x" a.a&&dW a.b&&dW a.c
 a.bV.tb (gZ a.a&&dW a.b&&dW a.c) b e d c b b e d c (lv "C" a.a&&dW a.b&&dW a.c) b b b b b b b
  ((lv "t" a.a||lv "u" a.a)&&dW a.b&&dW a.c) (lv "u" a.a&&dW a.b&&dW a.c) (f&&rP 0 a.a&&dW a.b&&dW a.c) (lv "E" a.a&&lv "t" a.b&&dW a.c)
abbrev Kd:=List (Sum Int b4×bl)
structure ek where
 pc:Nat
 jm:List bl
 fU:Kd
 en:List bl
noncomputable def dI:bl→Bool
 |.bX=>b2
 |.b3 a=>a
 |_=>ar
def oG(a:R):bl:=a.bV.tb a.a a.a a.b a.a a.a a.a a.a a.b a.a a.a a.a a.a a.a a.a a.a a.a a.a a.a a.a a.a a.a a.a
inductive nw where
 |cc (jm:List bl) (kd:Kd) (d:Option bl)|cI (jm:List bl) (b:Bool)|gG (d:bl)|gz
def ql(e:List bl)(c:bl→List bl→Option nw):Option nw:=@List.rec bl (fun a=>Option nw) b1 (fun b d a=>c b d) e
noncomputable def Wu(c:List bl)(b:Kd)(a:b4):Option nw:=O (.cc (.ad a::c) b (O (.ad a)))
def yP(d:R)(e:List bl)(a:Kd):Option nw:=(jM (oG d)).bind fun c=>(fA c a).map fun b=>.cc (b::e) a b1
def wg(a:R)(g:List bl)(f:Kd):Option nw:=ql g fun b e=>(jM (oG a)).bind fun d=>(gY b).map fun c=>.cc e (gF f d b) (O (.cQ [.ad a.bV.cT,oG a,.ad c]))
def Ah(g:Bool)(e:R)(a:List bl)(b:Kd):Option nw:=e.bV.tb
 (O (.cc (e.a::a) b b1)) (O (.cc (.ad "self"::a) b b1)) (yP e a b) (yP e a b) (yP e a b)
 (ql a fun c d=>O (.cc (c::c::d) b b1)) (O (.cc (.b3 g::a) b b1)) (wg e a b) (wg e a b) (wg e a b) (wg e a b)
 (ql a fun c d=>O (.cI d (dI c))) (ql a fun c d=>O (.cI d (!dI c))) (ql a fun c d=>O (.cI (c::d) (dW c))) (O (.cI a ar))
 (ql a fun f d=>O (.cc d b b1)) (ql a fun c d=>ql d fun h d=>O (.cc (h::c::d) b b1)) (ql a fun c f=>(gY c).map fun i=>.gG (.cQ [.ad "leave",.ad i]))
 (Wu a b "text") (Wu a b "undef") (Wu a b "lambda") (O .gz)
noncomputable def G7(a:List bl)(b:Option bl):List bl:=b.elim a fun c=>a++[c]
noncomputable def zy(b:List bl)(c:List bl)(e:Kd)(d:Option Ct):Sum (List bl) ek:=d.elim (.inl (b++[.ad "fail"])) fun a=>.inr ⟨a.cP,.ad "way"::c.drop (c.length-a.dG),e,b++[.ad "fail"]⟩
def rQ(g:List Ct)(b i:Nat)(j:List bl)(e:Kd)(a:List bl):nw→Sum (List bl) ek
 |.cc d f c=>.inr ⟨b+1,d,f,G7 a c⟩
 |.cI d h=>.inr ⟨cond h i (b+1),d,e,a⟩
 |.gG c=>.inl (a++[c])
 |.gz=>zy a j e (g.find? (·.c4 b))
def eT(d:List Ct)(e:Bool)(c:Nat)(b:R)(a:ek):Option (Sum (List bl) ek):=(Ah e b a.jm a.fU).map (rQ d c b.t a.jm a.fU a.en)
structure Nc where
 a2:List (Option R)
 f6:List Ct
 cp:List Nat
noncomputable def MU:List (Option R)→Nat→Option (Nat×R)
 |[],_=>b1
 |b::c,a=>b.elim (MU c (a+1)) fun d=>O (a,d)
def G8(b:List (Option R))(a:Nat):Option (Nat×R):=MU (b.drop a) a
inductive NP(a2:List (Option R)):Nat→Nat→Prop
 |cy (a:Nat):NP a2 a a
 |ea {a b:Nat} (h:a2[a]? =O b1) (k:NP a2 (a+1) b):NP a2 a b
def NP.o9{b:List (Option R)}{a:Nat}(c:b[a]? =O b1):NP b a (a+1):=.ea c (.cy _)
def IJ{c:Type}{b:List c}{a:Nat}{d:c}(f:b[a]? =O d):b.drop a=d::b.drop (a+1):=by
 obtain ⟨e,rfl⟩:=fJ.mp f
 exact TS e
def DB{d:Type}{b g:List d}{a:Nat}{c:d}(f:b.drop a=c::g):b[a]? =O c∧b.drop (a+1)=g:=by
 have e:(b.drop a)[0]? =O c:=by refine bT f ?_;rfl
 rw [L9] at e
 exact ⟨e,by (refine gT Uk ?_;refine bT f ?_);rfl⟩
def JI{b:List (Option R)}{a:Nat}{c:R}(d:b[a]? =O (O c)):G8 b a=O (a,c):=by
 unfold G8
 refine bT (IJ d) ?_;rfl
def Rd{a:List (Option R)}{c b:Nat}(f:NP a c b):G8 a c=G8 a b:=by
 induction f with
 |cy=>rfl
 |ea e _ d=>
  refine gT d ?_
  unfold G8
  refine bT (IJ e) ?_;rfl
theorem DC{e:List (Option R)}{b:Nat×R}:∀{c:List (Option R)}{a:Nat},e.drop a=c→MU c a=O b→NP e a b.1∧e[b.1]? =O (O b.2)
 |some i::c,a,d,f=>dg f▸⟨.cy _,(DB d).1⟩
 |none::c,a,d,f=>
  have g:=DB d
  have h:=DC g.2 f
  ⟨.ea g.1 h.1,h.2⟩
noncomputable def kZ(b:Nc)(c:Bool):Nat→ek→Option (List bl×Bool)
 | 0,a=>O (a.en,b2)
 |g+1,a=>(G8 b.a2 a.pc).bind fun d=>(eT b.f6 c d.1 d.2 a).bind fun e=>match e with
  |.inl h=>O (h,ar)
  |.inr f=>kZ b c g f
def Lq(a b:List bl×Bool):Prop:=a.1 <+: b.1∧(a.2=ar→b.1=a.1∧b.2=ar)
def Lq.cy(a:List bl×Bool):Lq a a:=⟨jU _,fun b=>⟨rfl,b⟩⟩
def Lq.ci{f e d:List bl×Bool}(a:Lq f e)(b:Lq e d):Lq f d:=⟨a.1.trans b.1,fun c=>⟨(b.2 (a.2 c).2).1.trans (a.2 c).1,(b.2 (a.2 c).2).2⟩⟩
def lf{d g:Type}{b:Option d}{e:d→Option g}{h:g}{c:Prop}(f:b.bind e=O h)(i:∀a,b=O a→e a=O h→c):c:=by
 induction b with
 |none=>exact cG f
 |some a=>exact i a rfl f
def fV{e c:Type}{b:Option e}{f:e→c}{h:c}{d:c→Prop}(g:b.map f=O h)(i:∀a,b=O a→d (f a)):d h:=by
 induction b with
 |none=>exact cG g
 |some a=>exact dg g▸i a rfl
def qN{b:Nc}{c:Bool}{a e d:Nat}{h g:List bl}{f:Kd}(j:NP b.a2 e d):kZ b c a ⟨e,h,f,g⟩=kZ b c a ⟨d,h,f,g⟩:=by
 induction a with
 |zero=>rfl
 |succ a=>exact congrArg (fun i=>jG i _) (Rd j)
def rk{a:Nc}{d:Bool}{e:Nat}{b:ek}{f:R}(h:a.a2[b.pc]? =O (O f)):kZ a d (e+1) b=(eT a.f6 d b.pc f b).bind fun c=>match c with
 |.inl i=>O (i,ar)
 |.inr g=>kZ a d e g:=congrArg (fun c=>jG c _) (JI h)
def xr{c:Nc}{i:Bool}{p l:Nat}{o j:List bl}{m:Kd}{g:List bl×Bool}{k:Prop}(a:kZ c i (p+1) ⟨l,o,m,j⟩=O g)
  (q:∀b n d,NP c.a2 l b→c.a2[b]? =O (O n)→eT c.f6 i b n ⟨b,o,m,j⟩=O d→(∀h,d=.inl h→g=(h,ar))→(∀f,d=.inr f→kZ c i p f=O g)→k):k:=
 lf a fun b s a=>lf a fun d u a=>by
  obtain ⟨r,t⟩:=DC rfl s
  refine q b.1 b.2 d r t u (fun h e=>?_) fun f e=>?_
  ·rw [e] at a;exact (dg a).symm
  ·rw [e] at a;exact a
def nW{d e:List bl}{f:Kd}{b:Option Ct}{c:Sum (List bl) ek→Prop}(g:b=b1→c (.inl (d++[.ad "fail"])))(h:∀a,b=O a→c (.inr ⟨a.cP,.ad "way"::e.drop (e.length-a.dG),f,d++[.ad "fail"]⟩)):c (zy d e f b):=by
 induction b with
 |none=>exact g rfl
 |some a=>exact h a rfl
def Om(a:List bl):∀b,a <+: G7 a b
 |none=>jU _
 |some c=>vP _ _
noncomputable def By:Sum (List bl) ek→List bl
 |.inl b=>b
 |.inr a=>a.en
def EX{f:List Ct}{g:Bool}{e:Nat}{j:R}{b:ek}{a:Sum (List bl) ek}(h:eT f g e j b=O a):b.en <+: By a:=
 fV (d:=fun a=>b.en <+: By a) h fun i c=>by
  induction i with
  |cc k m d=>exact Om _ d
  |cI k l=>exact jU _
  |gG d=>exact vP _ _
  |gz=>exact nW (c:=fun a=>b.en <+: By a) (fun c=>vP _ _) fun c c=>vP _ _
def HJ{j:Nc}{i:Bool}:∀{b:Nat}{a:ek}{c:List bl×Bool},kZ j i b a=O c→a.en <+: c.1:=by
 intro b
 induction b with
 |zero=>
  intro a c d
  exact dg d▸jU _
 |succ b f=>
  intro a c d
  exact xr d fun o p g e e l h k=>(EX l).trans (by
  induction g with
  |inl n=>refine bT (h n rfl) ?_;exact jU _
  |inr m=>exact f (k m rfl))
def dT{b:Type}{a:b→Prop}{d c:b}(f:O d=O c)(e:a d):a c:=dg f▸e
def fc{c:List bl}{e:bl→List bl→Option nw}{g:nw}{d:Prop}(f:ql c e=O g)(h:∀a b,c=a::b→e a b=O g→d):d:=by
 induction c with
 |nil=>exact cG f
 |cons a b=>exact h a b rfl f
def JJ(a:Op)(e:List bl)(g:Kd):nw→Prop
 |.cc b f d=>a.dR=b2∧b.length+a.c0=e.length+a.fS
 |.cI b c=>a.b8=ar∧(c=b2→a.dR=b2)
 |.gG d=>True
 |.gz=>a=.gz ()
def MV{g:R}{h:List bl}{d:Kd}{f:nw}{e:nw→Prop}(c:yP g h d=O f)(i:∀b a,jM (oG g)=O b→fA b d=O a→e (.cc (a::h) d b1)):e f:=
 lf c fun b j c=>fV c fun a k=>i b a j k
def MW{f:R}{j:List bl}{i:Kd}{h:nw}{g:nw→Prop}(b:wg f j i=O h)(m:∀a d e c,j=a::d→jM (oG f)=O e→gY a=O c→g (.cc d (gF i e a) (O (.cQ [.ad f.bV.cT,oG f,.ad c])))):g h:=
 fc b fun a d l b=>lf b fun e n b=>fV b fun c k=>m a d e c l n k
def On{a:R}{d:List bl}{c:Kd}{b:nw}(f:a.bV.dR=b2)(g:a.bV.c0=0)(h:a.bV.fS=1)(i:yP a d c=O b):JJ a.bV d c b:=MV i fun k j e e=>⟨f,by (refine bT g ?_;refine bT h ?_);rfl⟩
def Oo{a:R}{d:List bl}{c:Kd}{b:nw}(f:a.bV.dR=b2)(g:a.bV.c0=1)(i:a.bV.fS=0)(j:wg a d c=O b):JJ a.bV d c b:=MW j fun k m n l h e e=>⟨f,by (refine bT g ?_;refine bT i ?_;refine bT h ?_);rfl⟩
def Oq{c:Op}{g:List bl}{m h:Kd}{l:Option bl}{e:nw}{f:bl→List bl→List bl}(i:c.dR=b2)(j:∀a b,(f a b).length+c.c0=(a::b).length+c.fS)(d:(ql g fun a b=>O (.cc (f a b) h l))=O e):JJ c g m e:=fc d fun a b k d=>dT d ⟨i,k▸j a b⟩
def DD{b:Op}{f:List bl}{k:Kd}{d:nw}{h:bl→List bl→List bl}{j:bl→Bool}(g:b.dR=b2)(i:b.b8=ar)(c:(ql f fun a e=>O (.cI (h a e) (j a)))=O d):JJ b f k d:=fc c fun a e m c=>dT c ⟨i,fun l=>g⟩
def xt{m:Bool}{e:R}{j:List bl}{i:Kd}{f:nw}:Ah m e j i=O f→JJ e.bV j i f:=by
 refine bU fun h=>?_
 obtain ⟨l,q,r,p,s,o⟩:=e
 refine h ?_;try clear h
 induction l
 case kB|uQ|uR=>exact On rfl rfl rfl
 case kC|uS|uT|uU=>exact Oo rfl rfl rfl
 case kq|gA=>exact Oq rfl fun c c=>rfl
 case dt=>exact fun a=>fc a fun d b g a=>fc a fun v t k a=>dT a ⟨rfl,by (refine bT g ?_;refine bT k ?_);rfl⟩
 case hV|e5=>exact DD (h:=fun c b=>b) rfl rfl
 case eL=>exact DD (h:=fun d b=>d::b) rfl rfl
 case cI=>exact fun a=>dT a ⟨rfl,fun n=>dy n⟩
 case ew=>exact fun a=>fc a fun d b g a=>fV a fun u c=>trivial
 case gz=>exact fun a=>dT a rfl
 all_goals exact fun a=>dT a ⟨rfl,rfl⟩
inductive cx(X:Nc):Nat→Prop
 |dH {p:Nat} (h:p∈X.cp):cx X p
 |lg {p:Nat} (h:cx X p) (e:X.a2[p]? =O b1):cx X (p+1)
 |eK {p:Nat} {r:R} (h:cx X p) (e:X.a2[p]? =O (O r)) (k:r.bV.dR=b2):cx X (p+1)
 |cI {p:Nat} {r:R} (h:cx X p) (e:X.a2[p]? =O (O r)) (k:r.bV.b8=ar):cx X r.t
 |dJ {p:Nat} {r:R} {c:Ct} (h:cx X p) (e:X.a2[p]? =O (O r)) (hc:c∈X.f6) (k:c.c4 p=ar):cx X c.cP
structure yQ(X:Nc)(h:Nat→Nat)(p:Nat)(r:R):Prop where
 c0:r.bV.c0≤h p
 eK:r.bV.dR=b2→h (p+1)+r.bV.c0=h p+r.bV.fS
 cI:r.bV.b8=ar→h r.t+r.bV.c0=h p+r.bV.fS
 dJ:∀c∈X.f6,c.c4 p=ar→h c.cP=c.dG+1
 gz:r.bV=.gz ()→∀c∈X.f6,c.c4 p=ar→c.dG≤h p
structure ed(X:Nc)(h:Nat→Nat):Prop where
 dH:∀p∈X.cp,h p=0
 kJ:∀p,cx X p→p<X.a2.length
 lg:∀p,cx X p→X.a2[p]? =O b1→h (p+1)=h p
 dh:∀p r,cx X p→X.a2[p]? =O (O r)→yQ X h p r
def fm(b:Nc)(c:Bool):Prop:=∀(d:Nat)(a:R),b.a2[d]? =O (O a)→a.cF c=ar
noncomputable def MX:List (Sum Int b4):=[.inl 0,.inl 1,.inr "@x",.inr "$x"]
def DE(c:Kd):Prop:=∀(b:Sum Int b4),b∈MX→∃a,fA b c=O a∧gZ a=ar
def ug(g:Kd)(c b:Sum Int b4)(e:bl):fA b (gF g c e)=if b=c then O e else fA b g:=by
 unfold fA gF
 by_cases i:g.any (fun a=>dY (a.1=c))=ar
 ·rw [if_pos i,List.find?_map,show ((fun a:Sum Int b4×bl=>dY (a.1=b)) ∘ fun a=>if a.1=c then (a.1,e) else a)=fun a=>dY (a.1=b) from funext fun a=>by
   show dY ((if a.1=c then (a.1,e) else a).1=b)=_
   split<;>rfl]
  cases k:g.find? fun a=>dY (a.1=b) with
  |none=>
   refine bU fun l=>?_
   obtain ⟨d,j,h⟩:=tS.mp i
   refine l ?_;try clear l
   by_cases f:b=c
   ·exact absurd (f▸h) (T9.mp k d j)
   ·refine bT (if_neg f) ?_;rfl
  |some d=>
   obtain rfl:d.1=b:=of_decide_eq_true (Me (p:=fun a:Sum Int b4×bl=>dY (a.1=b)) k)
   show O (if d.1=c then (d.1,e) else d).2=_
   split<;>rfl
 ·(refine bT (if_neg i) ?_;rw [List.find?_append])
  by_cases f:b=c
  ·subst f
   (rewrite [T9.mpr fun d j h=>i (tS.mpr ⟨d,j,h⟩)];refine bT (if_pos rfl) ?_;rewrite [tT];refine bT (decide_eq_true (rfl:(b,e).1=b)) ?_)
   rfl
  ·(refine bT (if_neg f) ?_;rewrite [tT];refine bT (decide_eq_false (show¬(c,e).1=b from fun h=>f h.symm)) ?_)
   show ((g.find? _).or b1).map _=_
   (refine bT Option.or_none ?_;rfl)
def DE.fS{b:Kd}(e:DE b)(g:Sum Int b4){a:bl}(f:gZ a=ar):DE (gF b g a):=fun d c=>by
 rw [ug]
 split
 ·exact ⟨a,rfl,f⟩
 ·exact e d c
def oX{c b:Bool}{a:Prop}(f:(c||b)=ar)(d:c=ar→a)(e:b=ar→a):a:=(nR.mp f).elim d e
def eE{d b:Bool}{a:Prop}(c:(d&&b)=ar)(e:d=ar→b=ar→a):a:=e (iX.mp c).1 (iX.mp c).2
def G9{d:Type}{b:Option d}{e:d→Bool}{c:Prop}(f:b.any e=ar)(g:∀a,b=O a→e a=ar→c):c:=by
 induction b with
 |none=>exact dy f
 |some a=>exact g a rfl f
def Np{a:bl}{c:Int}{b:bl→Prop}(d:a.kA=O c)(e:b (.Z c)):b a:=by
 cases a<;>first|exact dg d▸e|exact cG d
def W8{a:bl}{c:b4}{b:bl→Prop}(d:a.tv=O c)(e:b (.ad c)):b a:=by
 cases a<;>first|exact dg d▸e|exact cG d
def j1{c:b4}{a:bl}(b:lv c a=ar):a=.ad c:=G9 b fun e d b=>W8 (b:=fun a=>a=.ad c) d (congrArg _ (dr b))
def mG{c:Int}{a:bl}(b:rP c a=ar):a=.Z c:=G9 b fun e d b=>Np (b:=fun a=>a=.Z c) d (congrArg _ (dr b))
def tw{a:bl}(b:sr a=ar):a=.Z 0∨a=.Z 1:=G9 b fun e d b=>Np (b:=fun a=>a=.Z 0∨a=.Z 1) d (oX b (fun c=>.inl (congrArg _ (dr c))) fun c=>.inr (congrArg _ (dr c)))
def iA{a:bl}(b:dW a=ar):a=.bX:=by
 cases a<;>first|rfl|exact dy b
def W9{a:bl→Prop}(j:a .bX)(f:∀h,a (.b3 h))(g:∀c,(c==0||c==5)=ar→a (.Z c))(i:∀e,e∈(["s","self","text","undef","lambda","way"] :List b4)→a (.ad e)){b:bl}(d:gZ b=ar):a b:=by
 cases b<;>first|exact j|exact f _|exact g _ d|exact i _ (rb.mp d)|exact dy d
def uV{a:bl}(c:gZ a=ar):∃b,gY a=O b:=
 W9 (a:=fun a=>∃b,gY a=O b) ⟨_,rfl⟩ (fun f=>by induction f<;>exact ⟨_,rfl⟩) (fun h c=>oX c (fun d=>by refine bT (dr d) ?_;exact ⟨_,rfl⟩) fun d=>by refine bT (dr d) ?_;exact ⟨_,rfl⟩)
  (fun e g=>⟨_,if_pos (of_decide_eq_true (lD.mp (show (["s","self","text","undef","lambda","way"] :List b4).all (fun e=>dY ((GK e).length≤100000))=ar by decide+kernel) e g))⟩) c
def kK(b:List bl):Prop:=∀a∈b,gZ a=ar
def kK.J{a:bl}{b:List bl}(d:gZ a=ar)(c:kK b):kK (a::b):=lY.mpr ⟨d,c⟩
def kK.head{a:bl}{c:List bl}(b:kK (a::c)):gZ a=ar:=b a (fD ..)
def kK.w2{b:bl}{a:List bl}(d:kK (b::a)):kK a:=fun e c=>d e (ia _ c)
structure Dm(X:Nc)(h:Nat→Nat)(s:ek):Prop where
 mH:cx X s.pc
 cC:s.jm.length=h s.pc
 hM:∀v∈s.jm,gZ v=ar
 fU:DE s.fU
def zz(d:List bl)(b:Op):nw→Prop
 |.cc a c f=>kK a∧DE c
 |.cI a e=>kK a∧a.length+b.c0=d.length+b.fS
 |_=>True
def ab9(d:Bool)(b:R)(c:List bl)(e:Kd):Prop:=∃a,Ah d b c e=O a∧zz c b.bV a
section
variable{d e:Bool}{b:R}{a:List bl}{c:Kd}
def xu(l:kK a)(h:DE c){f:Sum Int b4}(j:jM (oG b)=O f)(k:f∈MX):∃g,yP b a c=O g∧zz a b.bV g:=by
 obtain ⟨i,n,m⟩:=h f k
 exact ⟨.cc (i::a) c b1,by unfold yP;refine bT j ?_;exact congrArg (nG _) n,l.J m,h⟩
def tx(i:kK a)(l:DE c){f:Sum Int b4}(m:jM (oG b)=O f)(n:1≤a.length):∃j,wg b a c=O j∧zz a b.bV j:=by
 induction a with
 |nil=>cases n
 |cons g k=>
  obtain ⟨h,o⟩:=uV i.head
  exact ⟨.cc k (gF c f g) (O (.cQ [.ad b.bV.cT,oG b,.ad h])),by
   show ((jM (oG b)).bind fun f=>(gY g).map fun h=>nw.cc k (gF c f g) (O (.cQ [.ad b.bV.cT,oG b,.ad h])))=_
   (refine bT m ?_;refine bT o ?_);rfl,i.w2,l.fS f i.head⟩
def qr{j:bl→List bl→Option nw}{i:Op}(k:kK a)(l:1≤a.length)(m:∀f h,gZ f=ar→kK h→∃g,j f h=O g∧zz (f::h) i g):∃g,ql a j=O g∧zz a i g:=by
 induction a with
 |nil=>cases l
 |cons f h=>exact m f h k.head k.w2
def uh{f g:Bool}(h:(f&&g)=ar):f=ar:=(iX.mp h).1
def DF{g:bl}(i:sr g=ar):∃h,jM g=O h∧h∈MX:=by
 rcases tw i with f|f
 ·exact ⟨.inl 0,by refine bT f ?_;rfl,fD ..⟩
 ·exact ⟨.inl 1,by refine bT f ?_;rfl,ia _ (fD ..)⟩
def xv{f:bl}{k:Option bl}{i:Op}(j:kK a)(h:DE c)(l:gZ f=ar):∃g,O (nw.cc (f::a) c k)=O g∧zz a i g:=⟨_,rfl,j.J l,h⟩
def sV{g:b4}{f:bl}{i h:Bool}(j:(lv g f&&i&&h)=ar):jM f=O (.inr g):=by refine bT (j1 (uh (uh j))) ?_;rfl
def Os(j:b.cF e=ar)(f:kK a)(g:DE c)(h:b.bV.c0≤a.length):ab9 d b a c:=by
 refine bU fun t=>?_
 obtain ⟨x,n,o,i,p,l⟩:=b
 refine t ?_;try clear t
 induction x
 case d0=>exact xv f g (uh (uh j))
 case iQ|nv|sq|j0=>exact xv f g (by decide+kernel)
 case g9=>exact xv f g rfl
 case kB=>obtain ⟨u,s,y⟩:=DF (g:=i) (iX.mp (uh j)).2;exact xu (b:=⟨.kB,n,o,i,p,l⟩) f g s y
 case uQ=>exact xu (b:=⟨.uQ,n,o,i,p,l⟩) f g (sV j) (gj (i:=2) rfl)
 case uR=>exact xu (b:=⟨.uR,n,o,i,p,l⟩) f g (sV j) (gj (i:=3) rfl)
 case kC=>obtain ⟨u,s,_⟩:=DF (g:=i) (iX.mp (uh j)).2;exact tx (b:=⟨.kC,n,o,i,p,l⟩) f g s h
 case uS=>exact tx (b:=⟨.uS,n,o,i,p,l⟩) f g (sV j) h
 case uT=>exact tx (b:=⟨.uT,n,o,i,p,l⟩) f g (sV j) h
 case uU=>exact tx (b:=⟨.uU,n,o,i,p,l⟩) f g (sV j) h
 case gA=>exact qr f h fun r m v k=>⟨_,rfl,k,g⟩
 case kq=>exact qr f h fun r m q k=>⟨_,rfl,(k.J q).J q,g⟩
 case dt=>
  induction a with
  |nil=>cases h
  |cons r m=>
   induction m with
   |nil=>cases yz h
   |cons A m=>exact ⟨_,rfl,(f.w2.w2.J f.head).J f.w2.head,g⟩
 case ew=>exact qr f h fun r m q v=>by obtain ⟨z,w⟩:=uV q;exact ⟨.gG _,by refine bT w ?_;rfl,trivial⟩
 case cI=>exact ⟨_,rfl,f,rfl⟩
 case eL=>exact qr f h fun r m q k=>⟨_,rfl,k.J q,rfl⟩
 case hV|e5=>exact qr f h fun r m q k=>⟨_,rfl,k,rfl⟩
 case gz=>exact ⟨_,rfl,trivial⟩
end
section
variable{a:Nc}{d c:Bool}{b:Nat→Nat}
def Ai(I:ed a b)(L:fm a d){l:ek}{v:R}(s:Dm a b l)(h:a.a2[l.pc]? =O (O v)):
  ∃o,eT a.f6 c l.pc v l=O o∧∀k,o=.inr k→Dm a b k:=by
 have j:=I.dh _ _ s.mH h
 refine bU fun u=>?_
 obtain ⟨t,C,X,Q⟩:=l
 obtain ⟨p,m,w,n⟩:=s
 obtain ⟨z,x,g⟩:=Os (d:=c) (L _ _ h) w n (m.symm▸j.c0)
 refine u ?_;try clear u
 have f:=xt x
 refine ⟨_,congrArg (nG _) x,fun k e=>?_⟩
 induction z with
 |cc A W K=>exact t9 e▸⟨.eK p h f.1,vL (f.2.trans (m▸(j.eK f.1).symm)),g.1,g.2⟩
 |cI A G=>
  induction G with
  |true=>exact t9 e▸⟨.cI p h f.1,vL (g.2.trans (m▸(j.cI f.1).symm)),g.1,n⟩
  |false=>exact t9 e▸⟨.eK p h (f.2 rfl),vL (g.2.trans (m▸(j.eK (f.2 rfl)).symm)),g.1,n⟩
 |gG K=>cases e
 |gz=>
  revert e
  refine nW (c:=fun o=>o=.inr k→Dm a b k) (fun T e=>nomatch e) fun i y e=>t9 e▸ ?_
  have r:=TT y
  have q:i.c4 t=ar:=Me (p:=fun i:Ct=>i.c4 t) y
  refine ⟨.dJ p h r q,?_,kK.J (by decide+kernel) fun P F=>w P (T6 F),n⟩
  show (C.drop _).length+1=b i.cP
  (refine bT zc ?_;refine bT (j.dJ i r q) ?_;refine bT (TF (m▸j.gz f i r q)) ?_;rfl)
def x8(l:ed a b):∀(i:Nat){e:Nat},a.a2.length≤e+i→cx a e→∃f j,NP a.a2 e f∧a.a2[f]? =O (O j)∧cx a f∧b f=b e:=by
 intro i
 induction i with
 |zero=>
  intro e k g
  exact absurd (l.kJ e g) (jI.mpr k)
 |succ i o=>
  intro e k g
  cases h:a.a2[e]? with
  |none=>exact absurd (l.kJ e g) (jI.mpr (TU.mp h))
  |some p=>
   induction p with
   |some j=>exact ⟨e,j,.cy _,h,g,rfl⟩
   |none=>
    refine bU fun m=>?_
    obtain ⟨f,j,q,r,s,n⟩:=o (y4 e i▸k) (.lg g h)
    refine m ?_;try clear m
    exact ⟨f,j,.ea h q,r,s,n.trans (l.lg e g h)⟩
def xw(h:ed a b)(x:fm a d):∀(f:Nat){g:ek},Dm a b g→∃n,kZ a c f g=O n:=by
 intro f
 induction f with
 |zero=>
  intro g e
  exact ⟨_,rfl⟩
 |succ f l=>
  intro t e
  obtain ⟨z,p,s,o⟩:=t
  refine bU fun j=>?_
  obtain ⟨v,C,q,i,y,k⟩:=x8 h a.a2.length (B8 _ _) e.mH
  obtain ⟨r,u,w⟩:=Ai (c:=c) (l:=⟨v,p,s,o⟩) h x ⟨y,e.cC.trans k.symm,e.hM,e.fU⟩ i
  refine j ?_;try clear j
  (refine bT (qN q) ?_;refine bT (rk i) ?_;refine bT u ?_)
  induction r with
  |inl A=>exact ⟨_,rfl⟩
  |inr m=>exact l (w m rfl)
end
def NP.ci{a:List (Option R)}{e c b:Nat}(h:NP a e c)(d:NP a c b):NP a e b:=by
 induction h with
 |cy=>exact d
 |ea g _ f=>exact .ea g (f d)
inductive IK(Y:Nc)(Nq:Bool)(Rl:ek→ek→Prop)(s2:ek):Sum (List bl) ek→Prop
 |gG {q:Nat} {r:R} {d:List bl} (np:NP Y.a2 s2.pc q) (hr:Y.a2[q]? =O (O r)) (ho:eT Y.f6 Nq q r s2=O (.inl d)):IK Y Nq Rl s2 (.inl d)
 |ea {q q':Nat} {r:R} {a b:ek} (np:NP Y.a2 s2.pc q) (hr:Y.a2[q]? =O (O r)) (ho:eT Y.f6 Nq q r s2=O (.inr b)) (np':NP Y.a2 b.pc q') (hR:Rl a {b with pc:=q'}):IK Y Nq Rl s2 (.inr a)
 |gi {q:Nat} {a:ek} (np:NP Y.a2 s2.pc q) (hR:Rl a {s2 with pc:=q}):IK Y Nq Rl s2 (.inr a)
structure Q7(X Y:Nc)(Nq:Bool)(Rl:ek→ek→Prop):Prop where
 en:∀{s1 s2},Rl s1 s2→s1.en=s2.en
 lg:∀{s1 s2},Rl s1 s2→X.a2[s1.pc]? =O b1→∃q,NP Y.a2 s2.pc q∧Rl {s1 with pc:=s1.pc+1} {s2 with pc:=q}
 dh:∀{s1 s2 r o},Rl s1 s2→X.a2[s1.pc]? =O (O r)→eT X.f6 Nq s1.pc r s1=O o→IK Y Nq Rl s2 o
section
variable{c b:Nc}{a:Bool}{d:ek→ek→Prop}
def Q7.aca(s:Q7 c b a d){k l:Nat}(g:NP c.a2 k l):∀{f e:ek},f.pc=k→d f e→∃j,NP b.a2 e.pc j∧d {f with pc:=l} {e with pc:=j}:=by
 induction g with
 |cy k=>exact fun {f e} h i=>⟨e.pc,.cy _,h▸i⟩
 |ea h _ o=>
  intro f e g i
  refine bU fun m=>?_
  obtain ⟨j,p,t⟩:=s.lg i (g▸h)
  obtain ⟨q,n,r⟩:=o (congrArg pI g) t
  refine m ?_;try clear m
  exact ⟨q,p.ci n,r⟩
def IL(o:Q7 c b a d):∀(j:Nat){t g:ek}{f:Nat}{k:List bl×Bool},j≤f→d t g→(∀e,∃h,kZ b a e g=O h)→kZ c a j t=O k→∃h,kZ b a f g=O h∧Lq k h:=by
 intro j
 induction j with
 |zero=>
  intro t g f k _ u n s
  obtain ⟨h,w⟩:=n f
  exact ⟨h,w,dg s▸⟨by refine bT (o.en u) ?_;exact HJ w,fun F=>dy F⟩⟩
 |succ j v=>
  intro T g f k l u n s
  obtain ⟨ag,ae,ah,ac⟩:=T
  exact xr s fun ak ai m aa L X I x=>by
   refine bU fun z=>?_
   obtain ⟨W,G,R⟩:=o.aca aa rfl u
   refine z ?_;try clear z
   have q:∀e,kZ b a e g=kZ b a e {g with pc:=W}:=fun e=>qN G
   cases o.dh R L X with
   |gi i C=>
    have y:∀e,kZ b a e g=_:=fun e=>(q e).trans (qN i)
    rw [y]
    exact v (lC l) C (fun e=>y e▸n e) (x _ rfl)
   |gG i r p=>
    induction f with
    |zero=>cases l
    |succ f=>
    (rewrite [q];refine bT (qN i) ?_;refine bT (rk r) ?_)
    refine ⟨_,congrArg (fun m=>jG m _) p,?_⟩
    refine bT (I _ rfl) ?_
    exact Lq.cy _
   |@ea af Y al ab P i r p Q K=>
    induction f with
    |zero=>cases l
    |succ f=>
    have A:∀e,kZ b a (e+1) g=kZ b a e {P with pc:=Y}:=fun e=>by
     (rewrite [q];refine bT (qN i) ?_;refine bT (rk r) ?_)
     exact (congrArg (fun m=>jG m _) p).trans (qN Q)
    rw [A]
    exact v (yz l) K (fun e=>A e▸n (e+1)) (x _ rfl)
def fH(c b:Nc):Prop:=c.cp.length=b.cp.length∧∀(g f h:Nat),c.cp[g]? =O f→b.cp[g]? =O h→∀(a:Bool)(e:Kd)(i:Nat)(k:List bl×Bool),DE e→kZ c a i ⟨f,[],e,[]⟩=O k→∃j,kZ b a i ⟨h,[],e,[]⟩=O j∧Lq k j
def fH.cy(c:Nc):fH c c:=⟨rfl,fun k j l h f a n m e i g=>by
 obtain rfl:=dg (h.symm.trans f)
 exact ⟨e,g,Lq.cy e⟩⟩
def fH.ci{c b k:Nc}(e:fH c b)(h:fH b k):fH c k:=⟨e.1.trans h.1,fun g s v l p a i m o f r=>by
 have j:=gS (l:=b.cp) (e.1▸(fJ.mp l).1)
 obtain ⟨x,n,q⟩:=e.2 g s _ l j a i m o f r
 obtain ⟨w,u,t⟩:=h.2 g _ v j p a i m x f n
 exact ⟨w,u,q.ci t⟩⟩
def n8{o:Bool}{u:Nat→Nat}{d:Bool→ek→ek→Prop}(g:b.cp=c.cp)(k:ed b u)(t:fm b o)(q:∀a,Q7 c b a (d a))(v:∀a e f,e∈c.cp→DE f→d a ⟨e,[],f,[]⟩ ⟨e,[],f,[]⟩):fH c b:=
 ⟨congrArg qE g.symm,fun w e z j m a f n x h r=>by
  rw [g,j] at m
  obtain rfl:=dg m
  have l:=gj j
  have i:e∈b.cp:=g▸l
  exact IL (q a) n (dX n) (v a e f l h) (fun p=>xw k t p ⟨.dH i,(k.dH e i).symm,(fun y s=>absurd s gD),h⟩) r⟩
def DG{g:List Ct}{f:Nat}{e:Ct}(h:g.find? (·.c4 f)=O e):e∈g∧e.c4 f=ar:=⟨TT h,Me (p:=fun e:Ct=>e.c4 f) h⟩
def IM{m:List Ct}{j:Nat}{i:R}{o e:ek}{g:Nat→Prop}(n:eT m a j i o=O (.inr e))(p:i.bV.dR=b2→g (j+1))(v:i.bV.b8=ar→g i.t)(s:∀k∈m,k.c4 j=ar→g k.cP):g e.pc:=by
 suffices y:∀h,eT m a j i o=O h→∀e,h=.inr e→g e.pc from y _ n e rfl
 refine fun h n=>fV (d:=fun h=>∀e,h=.inr e→g e.pc) n fun r x e=>?_
 have l:=xt x
 induction r with
 |cc t A w=>exact fun f=>t9 f▸p l.1
 |cI t u=>induction u with
  |true=>exact fun f=>t9 f▸v l.1
  |false=>exact fun f=>t9 f▸p (l.2 rfl)
 |gG w=>exact fun f=>nomatch f
 |gz=>exact nW (c:=fun h=>h=.inr e→g e.pc) (fun z f=>nomatch f) fun k q f=>t9 f▸s k (DG q).1 (DG q).2
def HK{e h:ek}{i:R}(g:cx c e.pc)(f:c.a2[e.pc]? =O (O i))(j:eT c.f6 a e.pc i e=O (.inr h)):cx c h.pc:=IM j (.eK g f) (.cI g f) fun m k l=>.dJ g f k l
end
def l6(a:Nc)(c:Nat):Prop:=(c∉a.cp)∧(∀(e:Nat)(b:R),a.a2[e]? =O (O b)→b.bV.b8=ar→b.t≠c)∧(∀d∈a.f6,d.cP≠c)
section
variable{a:Nc}{b:Nat}(c:l6 a b)
include c
def l6.Ha:b∉a.cp:=c.1
def l6.Vw:∀(e:Nat)(d:R),a.a2[e]? =O (O d)→d.bV.b8=ar→d.t≠b:=c.2.1
def l6.ct:∀d∈a.f6,d.cP≠b:=c.2.2
end
structure IN(X Y:Nc)(p k:Nat):Prop where
 cC:Y.a2.length=X.a2.length
 f6:Y.f6=X.f6
 cp:Y.cp=X.cp
 je:∀q,(q<p∨p+k≤q)→Y.a2[q]? =X.a2[q]?
 lT:∀m,p<m→m<p+k→l6 X m
section
variable{d f:Nc}{a b:Nat}{g h:Nat→Nat}
structure Nr(d f:Nc)(h:Nat→Nat)(q:Nat)(r:R):Prop where
 t:yQ f h q r
 eK:r.bV.dR=b2→cx d (q+1)
 cI:r.bV.b8=ar→cx d r.t
 dJ:∀c∈f.f6,c.c4 q=ar→cx d c.cP
inductive uW(d f:Nc)(h:Nat→Nat)(q:Nat):Prop
 |lg (e:f.a2[q]? =O b1) (z:cx d (q+1)) (b:h (q+1)=h q)
 |dh (r:R) (e:f.a2[q]? =O (O r)) (b:Nr d f h q r)
def oH(a b c:Nat):(c<a∨a+b≤c)∨(a≤c∧c<a+b):=(TL c a).elim (fun e=>.inl (.inl e)) fun e=>(TL c (a+b)).elim (fun i=>.inr ⟨e,i⟩) fun i=>.inl (.inr i)
def Nt{a b c:Nat}(g:c<a∨a+b≤c):¬(a<c∧c<a+b):=fun e=>g.elim (Nat.lt_asymm e.1) fun i=>jI.mpr i e.2
def wh{a b c:Nat}(g:c<a∨a+b≤c):¬(a<c+1∧c+1<a+b):=fun i=>g.elim (fun e=>jI.mpr (qk i.1) e) fun e=>jI.mpr (uL e) i.2
def uW.Nu{c:Nat}(j:uW d f h c)(i:f.a2[c]? =O b1):cx d (c+1)∧h (c+1)=h c:=by
 induction j with
 |lg _ k b=>exact ⟨k,b⟩
 |dh l e _=>rw [i] at e;cases e
def uW.Aj{e:Nat}{j:R}(k:uW d f h e)(i:f.a2[e]? =O (O j)):Nr d f h e j:=by
 induction k with
 |lg c _ _=>rw [i] at c;cases c
 |dh l c b=>rw [i] at c;cases c;exact b
def IN.gK(j:IN d f a b)(w:ed d g)(p:∀c,¬(a<c∧c<a+b)→h c=g c)(q:∀c,a≤c→c<a+b→cx d c→uW d f h c):ed f h:=by
 have t:∀c,cx f c→cx d c:=fun c k=>by
  induction k with
  |dH z=>exact .dH (j.cp▸z)
  |@lg c _ i l=>exact (oH a b c).elim (fun e=>.lg l (j.je c e▸i)) fun e=>((q c e.1 e.2 l).Nu i).1
  |@eK c r _ i n l=>exact (oH a b c).elim (fun e=>.eK l (j.je c e▸i) n) fun e=>((q c e.1 e.2 l).Aj i).eK n
  |@cI c r _ i n l=>exact (oH a b c).elim (fun e=>.cI l (j.je c e▸i) n) fun e=>((q c e.1 e.2 l).Aj i).cI n
  |@dJ c r s _ i o n l=>exact (oH a b c).elim (fun e=>.dJ l (j.je c e▸i) (j.f6▸o) n) fun e=>((q c e.1 e.2 l).Aj i).dJ s o n
 refine ⟨fun c k=>?_,fun c k=>j.cC▸w.kJ c (t c k),fun c k i=>(oH a b c).elim (fun e=>?_) fun e=>((q c e.1 e.2 (t c k)).Nu i).2,fun c r k i=>(oH a b c).elim (fun e=>?_) fun e=>((q c e.1 e.2 (t c k)).Aj i).t⟩
 ·rw [j.cp] at k
  exact (p c fun m=>(j.lT c m.1 m.2).Ha k).trans (w.dH c k)
 ·(refine bT (p _ (wh e)) ?_;refine bT (p c (Nt e)) ?_)
  exact w.lg c (t c k) (j.je c e▸i)
 ·have y:d.a2[c]? =O (O r):=j.je c e▸i
  have u:=w.dh c r (t c k) y
  have x:=p c (Nt e)
  refine ⟨x.symm▸u.c0,fun m=>?_,fun m=>?_,fun s o m=>?_,fun m s o A=>x.symm▸u.gz m s (j.f6▸o) A⟩
  ·(refine bT (p _ (wh e)) ?_;refine bT x ?_);exact u.eK m
  ·(refine bT x ?_;refine bT (p _ fun v=>(j.lT _ v.1 v.2).Vw c r y m rfl) ?_);exact u.cI m
  ·rw [j.f6] at o
   exact (p _ fun v=>(j.lT _ v.1 v.2).ct s o rfl).trans (u.dJ s o m)
inductive wi(a b:Nat)(Mid:ek→ek→Prop)(s1 s2:ek):Prop
 |cZ (e:s1=s2) (g:¬(a<s1.pc∧s1.pc<a+b))
 |lT (g:Mid s1 s2)
def IN.sim(s:IN d f a b){n:Bool}{m:ek→ek→Prop}{z:R}(A:d.a2[a]? =O (O z))(Q:∀{c i},m c i→c.en=i.en)(W:∀{c i},m c i→d.a2[c.pc]? ≠O b1)
  (aa:∀{u v t k},eT d.f6 n a z ⟨a,u,v,t⟩=O k→IK f n (wi a b m) ⟨a,u,v,t⟩ k)
  (Y:∀{c i q k},m c i→d.a2[c.pc]? =O (O q)→eT d.f6 n c.pc q c=O k→IK f n (wi a b m) i k):Q7 d f n (wi a b m):=by
 have K:∀{j},¬(a<j∧j<a+b)→j≠a→j<a∨a+b≤j:=fun g o=>(oH a b _).elim id fun l=>absurd ⟨y5 l.1 o.symm,l.2⟩ g
 refine ⟨fun r=>?_,fun {c i} r e=>?_,fun {c i q k} r e w=>?_⟩
 ·induction r with
  |cZ e _=>exact congrArg ek.en e
  |lT g=>exact Q g
 ·induction r with
  |lT g=>exact absurd e (W g)
  |cZ x y=>
   subst x
   have p:=K y fun o=>by rw [o,A] at e;cases e
   exact ⟨_,.o9 (s.je _ p▸e),.cZ rfl (wh p)⟩
 ·induction r with
  |lT g=>exact Y g e w
  |cZ x y=>
   subst x
   refine bU fun G=>?_
   obtain ⟨j,u,v,t⟩:=c
   refine G ?_;try clear G
   by_cases o:j=a
   ·subst o
    rw [A] at e;cases e
    exact aa w
   ·have p:=K y o
    have F:=(s.je _ p).trans e
    have I:eT f.f6 n j q ⟨j,u,v,t⟩=O k:=by refine bT s.f6 ?_;exact w
    induction k with
    |inl ac=>exact .gG (.cy _) F I
    |inr ab=>exact .ea (.cy _) F I (.cy _) (.cZ rfl (IM (g:=fun C=>¬(a<C∧C<a+b)) w (fun P=>wh p) (fun T l=>(s.lT _ l.1 l.2).Vw _ q e T rfl) fun X L P l=>(s.lT _ l.1 l.2).ct X L rfl))
def IN.w3{l:Bool}(c:IN d f a b)(m:ed f h)(k:fm f l){j:ek→ek→Prop}(n:∀e,Q7 d f e (wi a b j)):fH d f:=
 n8 c.cp m k n fun e q r o p=>.cZ rfl fun i=>(c.lT _ i.1 i.2).Ha o
end
def su(c a:Nc)(d:Bool):Prop:=(∃b,ed a b)∧fm a d∧fH c a
noncomputable def Nc.qm(a:Nc)(c:Nat)(b:Option R):Nc:={a with a2:=a.a2.set c b}
def Nc.fb(c:Nc)(a:Nat)(b d:Option R):Nc:=(c.qm a b).qm (a+1) d
def Nc.sv(c:Nc)(a:Nat)(e d b:Option R):Nc:=(c.fb a e d).qm (a+2) b
def Ak{a c:Nat}{b:Nat→Prop}(d:a≤c)(e:c<a+2)(h:b a)(f:b (a+1)):b c:=
 (TB d).elim (fun g=>g▸h) fun i=>r6 i (qk e)▸f
def DH{a c:Nat}{b:Nat→Prop}(d:a≤c)(e:c<a+3)(i:b a)(f:b (a+1))(g:b (a+2)):b c:=
 (TB d).elim (fun h=>h▸i) fun j=>Ak j e f g
def rl(a:Nat):a≠a+1:=kW (h9 a)
def QT(a:Nat):a≠a+2:=kW (qA (h9 a))
def qc(a b:Nat):¬(a<a+b∧a+b<a+b):=fun c=>B9 _ c.2
section
variable{c:Nc}{b h:Nat}{f j k:R}{i:Bool}{d:Nat→Nat}
def gC{a:Nat}{g:Option R}(e:c.a2[a]? =O g):a<c.a2.length:=(fJ.mp e).1
def hO{e:Option R}{a:Nat}(g:b≠a):(c.qm b e).a2[a]? =c.a2[a]? :=pi g
def w4(a:Option R)(e:b<c.a2.length):(c.qm b a).a2[b]? =O a:=Gj e
def jz{a:Option R}:(c.qm b a).a2.length=c.a2.length:=m9
def oI(a e:Option R)(g:b<c.a2.length):(c.fb b a e).a2[b]? =O a:=(hO (rl b).symm).trans (w4 a g)
def oJ(e a:Option R)(g:b+1<c.a2.length):(c.fb b e a).a2[b+1]? =O a:=w4 a (jz.symm▸g)
def Al(a e g:Option R)(l:b<c.a2.length):(c.sv b a e g).a2[b]? =O a:=(hO (QT b).symm).trans (oI a e l)
def Nv(e a g:Option R)(l:b+1<c.a2.length):(c.sv b e a g).a2[b+1]? =O a:=(hO (rl _).symm).trans (oJ e a l)
def Nw(e g a:Option R)(l:b+2<c.a2.length):(c.sv b e g a).a2[b+2]? =O a:=w4 a (Eq.mpr (congrArg (b+2< ·) (jz.trans jz)) l)
def oK{l a h:Nat}(o:a<b∨b+l≤a)(m:b≤h)(n:h<b+l):h≠a:=fun g=>o.elim (fun e=>jI.mpr m (g.symm▸e)) fun e=>jI.mpr e (g▸n)
def Ot(g:Option R):IN c (c.qm b g) b 1:=⟨jz,rfl,rfl,fun m l=>hO (oK l (dX b) (h9 b)),fun h a e=>absurd a (jI.mpr (qk e))⟩
def xx(n m:Option R)(e:l6 c (b+1)):IN c (c.fb b n m) b 2:=⟨jz.trans jz,rfl,rfl,fun o a=>(hO (oK a (fM b) (h9 _))).trans (hO (oK a (dX b) (qA (h9 b)))),fun h g l=>r6 g (qk l)▸e⟩
def Ou(p o g:Option R)(e:l6 c (b+1))(n:l6 c (b+2)):IN c (c.sv b p o g) b 3:=⟨jz.trans (jz.trans jz),rfl,rfl,fun q a=>(hO (oK a (fg b 2) (h9 _))).trans ((hO (oK a (fM b) (qA (h9 _)))).trans (hO (oK a (dX b) (B7 (nI 2))))),fun h l m=>Ak l m e n⟩
def sW{a:Option R}(n:fm c i)(m:∀f,a=O f→f.cF i=ar):fm (c.qm b a) i:=fun g f e=>by
 by_cases l:b=g
 ·subst l
  have o:b<c.a2.length:=jz (c:=c) (a:=a)▸gC e
  exact m f (dg ((w4 a o).symm.trans e))
 ·exact n g f ((hO l).symm.trans e)
def Bz{e a:Option R}(m:fm c i)(g:∀f,e=O f→f.cF i=ar)(l:∀f,a=O f→f.cF i=ar):fm (c.fb b e a) i:=sW (sW m g) l
def kr:∀f:R,b1=O f→f.cF i=ar:=fun e a=>cG a
def sX(d:f.cF i=ar):∀j,O f=O j→j.cF i=ar:=fun e a=>dg a▸d
noncomputable def rR(d:Nat→Nat)(h e:Nat):Nat→Nat:=fun a=>if a=h then e else d a
def jA(d:Nat→Nat)(h a:Nat):rR d h a h=a:=if_pos rfl
def j2(d:Nat→Nat){h a:Nat}(e:Nat)(g:a≠h):rR d h e a=d a:=if_neg g
def ui(d:Nat→Nat)(h a:Nat):rR d h (d h) a=d a:=by
 by_cases e:a=h
 ·(refine bT e ?_;rw [jA])
 ·exact j2 d _ e
def l6.Hb(l:l6 c (b+1))(n:cx c (b+1)):cx c b:=by
 generalize a:b+1=h at n
 induction n with
 |dH p=>exact absurd (a▸p) l.Ha
 |lg e g=>exact mB a▸e
 |eK e g m=>exact mB a▸e
 |cI e g m=>exact absurd a.symm (l.Vw _ _ g m)
 |dJ e g o m=>exact absurd a.symm (l.ct _ o)
inductive Dn(G:Nat→Nat→List bl→List bl→Prop):ek→ek→Prop
 |mk {h q:Nat} {sk st:List bl} {kd:Kd} {ds:List bl} (g:G h q sk st):Dn G ⟨h,sk,kd,ds⟩ ⟨q,st,kd,ds⟩
def Xa{e:Nc}{g:Nat}{A:Nat→Nat}(w:IN c e b g)(t:ed e A)(v:fm e i)(C:c.a2[b]? =O (O f)){r:Nat→Nat→List bl→List bl→Prop}(G:∀{a m p l n},eT c.f6 a b f ⟨b,m,p,l⟩=O n→IK e a (wi b g (Dn r)) ⟨b,m,p,l⟩ n)
  (x:∀{a h y m u p l},r h y m u→∃f,c.a2[h]? =O (O f)∧∀{n},eT c.f6 a h f ⟨h,m,p,l⟩=O n→IK e a (wi b g (Dn r)) ⟨y,u,p,l⟩ n):su c e i:=by
 refine ⟨⟨_,t⟩,v,w.w3 t v (j:=Dn r) fun a=>w.sim C (fun d=>?_) (fun d=>?_) G (fun d q F=>?_)⟩
 ·induction d;rfl
 ·induction d with|mk s=>
  refine bU fun o=>?_
  obtain ⟨f,q,_⟩:=x (a:=a) (p:=[]) (l:=[]) s
  refine o ?_;try clear o
  refine bT q ?_;exact fun I=>nomatch I
 ·induction d with|mk s=>
  refine bU fun o=>?_
  obtain ⟨f,z,g⟩:=x s
  refine o ?_;try clear o
  rw [z] at q
  cases q
  exact g F
inductive Za(h q:Nat)(G:List bl→List bl→Prop):Nat→Nat→List bl→List bl→Prop
 |mk {sk st:List bl} (g:G sk st):Za h q G h q sk st
def w5{h g p:Nat}{a:List bl→List bl→Prop}{e l:List bl}{m:Kd}{n:List bl}(o:a e l):wi b p (Dn (Za h g a)) ⟨h,e,m,n⟩ ⟨g,l,m,n⟩:=.lT (.mk (.mk o))
def Nx{e a:Option R}(q:ed c d)(n:l6 c (b+1)){g:Nat}(r:cx c b→uW c (c.fb b e a) (rR d (b+1) g) b)(o:cx c b→cx c (b+1)→uW c (c.fb b e a) (rR d (b+1) g) (b+1)):ed (c.fb b e a) (rR d (b+1) g):=
 (xx e a n).gK q (fun l t=>j2 _ _ fun m=>t (m▸⟨h9 b,h9 _⟩)) fun l p s=>Ak (b:=fun l=>cx c l→uW c (c.fb b e a) (rR d (b+1) g) l) p s r fun m=>o (n.Hb m) m
def Xb{e a:Option R}(x:ed c d)(F:fm c i)(w:c.a2[b]? =O (O f))(y:c.a2[b+1]? =O (O j))(t:l6 c (b+1))(I:∀f,e=O f→f.cF i=ar)(v:∀f,a=O f→f.cF i=ar){u:Nat}
  (C:cx c b→uW c (c.fb b e a) (rR d (b+1) u) b) (z:cx c b→cx c (b+1)→uW c (c.fb b e a) (rR d (b+1) u) (b+1)) {r:Nat} {q:List bl→List bl→Prop}
  (G:∀{o l n g m},eT c.f6 o b f ⟨b,l,n,g⟩=O m→IK (c.fb b e a) o (wi b 2 (Dn (Za (b+1) r q))) ⟨b,l,n,g⟩ m)
  (A:∀{o l s n g m},q l s→eT c.f6 o (b+1) j ⟨b+1,l,n,g⟩=O m→IK (c.fb b e a) o (wi b 2 (Dn (Za (b+1) r q))) ⟨r,s,n,g⟩ m):su c (c.fb b e a) i:=
 Xa (xx e a t) (Nx x t C z) (Bz F I v) w G fun p=>by
  induction p with|mk p=>exact ⟨j,y,A p⟩
section
variable{q:List Ct}{r:Bool}{s p:Nat}{n:List bl}{g:Kd}{m:List bl}{o:Sum (List bl) ek}{l:Sum (List bl) ek→Prop}
def Fs{u:bl→List bl→List bl}{w:List bl}(d:(ql n fun a e=>O (.cc (u a e) g b1)).map (rQ q b p w g m)=O o)(y:∀a e,n=a::e→l (.inr ⟨b+1,u a e,g,m⟩)):l o:=
 fV d fun v t=>fc t fun a e x t=>dT (a:=fun v=>l (rQ q b p w g m v)) t (y a e x)
def MY{u:bl→List bl→List bl}{v:bl→Bool}{x:List bl}(d:(ql n fun a e=>O (.cI (u a e) (v a))).map (rQ q b p x g m)=O o)(z:∀a e,n=a::e→l (.inr ⟨cond (v a) p (b+1),u a e,g,m⟩)):l o:=
 fV d fun w t=>fc t fun a e y t=>dT (a:=fun w=>l (rQ q b p x g m w)) t (z a e y)
def Vx{a:bl}{t:List bl}(d:(O (nw.cc (a::n) g b1)).map (rQ q b p t g m)=O o)(e:l (.inr ⟨b+1,a::n,g,m⟩)):l o:=dT d e
def Xc{u:List bl}(d:(yP f n g).map (rQ q b p u g m)=O o)(v:∀a,l (.inr ⟨b+1,a::n,g,m⟩)):l o:=
 fV d fun t w=>MV (e:=fun t=>l (rQ q b p u g m t)) w fun e a e e=>v a
def Vy(u:f.bV=.kq)(d:eT q r b f ⟨s,n,g,m⟩=O o)(w:∀a e,n=a::e→l (.inr ⟨b+1,a::a::e,g,m⟩)):l o:=by
 refine bU fun t=>?_
 obtain ⟨v,p,x,y,A,z⟩:=f
 obtain rfl:v=.kq:=u
 refine t ?_;try clear t
 exact Fs (u:=fun a e=>a::a::e) d w
def Ny(u:f.bV=.gA)(d:eT q r b f ⟨s,n,g,m⟩=O o)(w:∀e a,n=e::a→l (.inr ⟨b+1,a,g,m⟩)):l o:=by
 refine bU fun t=>?_
 obtain ⟨v,p,x,y,A,z⟩:=f
 obtain rfl:v=.gA:=u
 refine t ?_;try clear t
 exact Fs (u:=fun e a=>a) d w
def Ft(x:f.bV=.dt)(d:eT q r b f ⟨s,n,g,m⟩=O o)(C:∀e t u,n=e::t::u→l (.inr ⟨b+1,t::e::u,g,m⟩)):l o:=by
 refine bU fun v=>?_
 obtain ⟨y,p,G,I,L,K⟩:=f
 obtain rfl:y=.dt:=x
 refine v ?_;try clear v
 exact fV d fun w a=>fc a fun e u z a=>fc a fun t A F a=>dT (a:=fun w=>l (rQ q b p n g m w)) a (C e t A (F▸z))
def Nz(e:f.bV=.d0)(d:eT q r b f ⟨s,n,g,m⟩=O o)(u:l (.inr ⟨b+1,f.a::n,g,m⟩)):l o:=by
 refine bU fun a=>?_
 obtain ⟨t,p,x,v,y,w⟩:=f
 obtain rfl:t=.d0:=e
 refine a ?_;try clear a
 exact Vx d u
def w6(e:f.bV=.cI)(d:eT q r b f ⟨s,n,g,m⟩=O o)(u:l (.inr ⟨f.t,n,g,m⟩)):l o:=by
 refine bU fun a=>?_
 obtain ⟨t,p,x,v,y,w⟩:=f
 obtain rfl:t=.cI:=e
 refine a ?_;try clear a
 exact dT d u
def Re(v:f.bV.i6=ar)(d:eT q r b f ⟨s,n,g,m⟩=O o)(e:∀a,l (.inr ⟨b+1,a::n,g,m⟩)):l o:=by
 refine bU fun u=>?_
 obtain ⟨w,p,A,y,C,z⟩:=f
 refine u ?_;try clear u
 induction w<;>first|exact dy v|exact Vx d (e _)|exact Xc d e|exact Fs (u:=fun a t=>a::a::t) d fun a t x=>x▸e a
structure Rf(op:Op):Prop where
 e:op.dR=b2
 t:op.fS=op.c0+1
def DI{a:Op}(e:a.i6=ar):Rf a:=by
 induction a<;>first|exact dy e|exact ⟨rfl,rfl⟩
end
def oh{a:Op→Prop}{e:Op}(g:f.bV=e)(d:a f.bV):a e:=g▸d
def JK(l:ed c d)(F:fm c i)(a:c.a2[b]? =O (O f))(g:c.a2[b+1]? =O (O j))(s:f.bV.i6=ar)(q:j.bV=.gA)(A:l6 c (b+1)):su c (c.fb b b1 b1) i:=by
 have w:=oI (c:=c) b1 b1 (gC a)
 have x:=oJ (c:=c) b1 b1 (gC g)
 have m:=DI s
 refine Xb l F a g A kr kr (u:=d b) (r:=b+2) (q:=fun C r=>∃e,C=e::r) (fun p=>.lg w (.eK p a m.e) ((jA ..).trans (j2 _ _ (rl b)).symm)) (fun p u=>.lg x (.eK u g (by refine bT q ?_;rfl)) ?_) (fun o=>Re s o fun e=>.gi (.ea w (.o9 x)) (w5 ⟨e,rfl⟩)) (fun y o=>Ny q o fun G r z=>?_)
 ·have v:=(l.dh _ _ p a).eK m.e
  rw [m.t,← nH,nS] at v
  (rewrite [jA];refine bT (j2 _ _ (rl _).symm) ?_)
  exact mB ((oh (a:=fun n=>n.dR=b2→d (b+2)+n.c0=d (b+1)+n.fS) q (l.dh _ _ u g).eK rfl).trans (vL v))
 ·refine bU fun t=>?_
  obtain ⟨e,rfl⟩:=y
  refine t ?_;try clear t
  exact (GY z).2▸ .gi (.cy _) (.cZ rfl (qc b 2))
def Ov(w:ed c d)(K:fm c i)(o:c.a2[b]? =O (O f))(q:c.a2[b+1]? =O (O j))(s:f.bV=.dt)(v:j.bV=.dt)(G:l6 c (b+1)):su c (c.fb b b1 b1) i:=by
 have A:=oI (c:=c) b1 b1 (gC o)
 have C:=oJ (c:=c) b1 b1 (gC q)
 have p:∀{l:Nat}{f:R},cx c l→c.a2[l]? =O (O f)→f.bV=.dt→cx c (l+1)∧d (l+1)=d l:=fun e a z=>⟨.eK e a (by refine bT z ?_;rfl),vL (oh (a:=fun t=>t.dR=b2→d _+t.c0=d _+t.fS) z (w.dh _ _ e a).eK rfl)⟩
 refine Xb w K o q G kr kr (u:=d (b+1)) (r:=b+2) (q:=fun I n=>∃m g r,I=m::g::r∧n=g::m::r) (fun e=>.lg A (p e o s).1 ?_) (fun e y=>.lg C (p y q v).1 ?_) (fun u=>Ft s u fun g m n a=>.gi (.ea A (.o9 C)) (w5 ⟨m,g,n,rfl,a⟩)) (fun F u=>Ft v u fun m g n a=>?_)
 ·rw [ui,ui];exact (p e o s).2
 ·rw [ui,ui];exact (p y q v).2
 ·refine bU fun x=>?_
  obtain ⟨L,P,r,rfl,rfl⟩:=F
  refine x ?_;try clear x
  cases a
  exact .gi (.cy _) (.cZ rfl (qc b 2))
def HL(q:ed c d)(z:fm c i)(a:c.a2[b]? =O (O f))(n:c.a2[b+1]? =O (O j))(K:f.bV=.kq)(s:j.bV=.dt)(G:l6 c (b+1)):su c (c.fb b (O f) b1) i:=by
 have y:=oI (c:=c) (O f) b1 (gC a)
 have A:=oJ (c:=c) (O f) b1 (gC n)
 have v:rR d (b+1) (d (b+1))=d:=funext (ui d _)
 refine Xb q z a n G (sX (z _ _ a)) kr (u:=d (b+1)) (r:=b+2) (q:=fun p g=>(∃e u,p=e::e::u)∧p=g) (fun m=>v.symm▸ .dh f y ⟨let l:=q.dh _ _ m a;⟨l.c0,l.eK,l.cI,l.dJ,l.gz⟩,.eK m a,.cI m a,fun R=>.dJ m a⟩) (fun m x=>v.symm▸ .lg A (.eK x n (by refine bT s ?_;rfl)) ?_)
  (fun {W p P F L} o=>Vy (l:=fun Q=>Q=L→_) K o (fun e g t I=>?_) rfl) (fun C o=>Ft s o fun X e g t=>?_)
 ·exact vL (oh (a:=fun r=>r.dR=b2→d _+r.c0=d _+r.fS) s (q.dh _ _ x n).eK rfl)
 ·subst I
  exact .ea (b:=⟨b+1,e::e::g,P,F⟩) (.cy _) y o (.o9 A) (w5 ⟨⟨e,g,rfl⟩,rfl⟩)
 ·refine bU fun w=>?_
  obtain ⟨⟨T,u,rfl⟩,rfl⟩:=C
  refine w ?_;try clear w
  cases t
  exact .gi (.cy _) (.cZ rfl (qc b 2))
end
def Op.eM(b:Op)(a:Bool):Bool:=a==(b== .hV)
noncomputable def Op.fN:Op→Op
 |.hV=>.e5
 |_=>.hV
noncomputable def R.cE(c:Op)(a:Nat)(b:Int):R:=⟨c,a,.bX,.bX,.bX,b⟩
def lU{b:Op}{a:Op→Prop}(c:b.cg=ar)(d:a .hV)(e:a .e5):a b:=by
 induction b<;>first|exact dy c|exact d|exact e
def xy{b:Op}{a:Op→Prop}(d:b.fQ=ar)(e:a .kC)(f:a .uS)(g:a .uT)(c:a .uU):a b:=by
 induction b<;>first|exact dy d|exact e|exact f|exact g|exact c
def MZ{b:Op}{a:Op→Prop}(d:b.b8=ar)(e:a .hV)(f:a .e5)(g:a .eL)(c:a .cI):a b:=by
 induction b<;>first|exact dy d|exact e|exact f|exact g|exact c
def JL{a:Op}(b:a.cg=ar):a.dR=b2:=lU (a:=fun a=>a.dR=b2) b rfl rfl
def rm{a:Op}(b:a.cg=ar):a.b8=ar:=lU (a:=fun a=>a.b8=ar) b rfl rfl
def aad{a:Op}(c:a.cg=ar):a≠ .gz ():=lU (a:=fun a=>a≠ .gz ()) c (fun b=>nomatch b) fun b=>nomatch b
def xz{b a:Nat}(d:a≠b+1):¬(b<a∧a<b+2):=fun c=>d (r6 (qk c.2) c.1)
section
variable{f:Nc}{b:Nat}{d e h:R}{g:Bool}{c:Nat→Nat}
def yQ.br(n:yQ f c b d)(i:d.bV.cg=ar):1≤c b∧c (b+1)+1=c b∧c d.t+1=c b:=by
 refine bU fun m=>?_
 obtain ⟨p,q,o,_,_⟩:=n
 obtain ⟨a,l,k,j,s,r⟩:=d
 refine m ?_;try clear m
 exact lU (a:=fun a=>a.c0≤c b→(a.dR=b2→c (b+1)+a.c0=c b+a.fS)→(a.b8=ar→c l+a.c0=c b+a.fS)→1≤c b∧c (b+1)+1=c b∧c l+1=c b) i (fun k j i=>⟨k,j rfl,i rfl⟩) (fun k j i=>⟨k,j rfl,i rfl⟩) p q o
def Xd{f m:Nc}{c a:Nat→Nat}{i:Nat}(y:yQ f c b d)(k:e.bV.cg=ar)(n:1≤a i)(l:a (i+1)+1=a i)(o:a e.t+1=a i)(q:∀k∈m.f6,k.c4 i=ar→a k.cP=k.dG+1):yQ m a i e:=by
 refine bU fun p=>?_
 obtain ⟨j,s,x,w,v,u⟩:=e
 refine p ?_;try clear p
 exact ⟨lU (a:=fun j=>j.c0≤a i) k n n,fun r=>lU (a:=fun j=>a (i+1)+j.c0=a i+j.fS) k l l,fun r=>lU (a:=fun j=>a s+j.c0=a i+j.fS) k o o,q,fun t=>absurd t (aad k)⟩
section
variable{n:List Ct}{l:Bool}{o j:Nat}{m:List bl}{a:Kd}{i:List bl}{p:Sum (List bl) ek}{k:Sum (List bl) ek→Prop}
def xA(q:Bool):Op.eM .hV q=q:=by induction q<;>rfl
def xB(q:Bool):Op.eM .e5 q= !q:=by induction q<;>rfl
def tz(x:d.bV.cg=ar)(c:eT n l b d ⟨o,m,a,i⟩=O p)(s:∀q r,m=q::r→k (.inr ⟨cond (d.bV.eM (dI q)) d.t (b+1),r,a,i⟩)):k p:=by
 refine bU fun v=>?_
 obtain ⟨t,j,y,z,C,A⟩:=d
 refine v ?_;try clear v
 refine lU (a:=fun t=>eT n l b ⟨t,j,y,z,C,A⟩ ⟨o,m,a,i⟩=O p→(∀q r,m=q::r→k (.inr ⟨cond (t.eM (dI q)) j (b+1),r,a,i⟩))→k p) x (fun c s=>?_) (fun c s=>?_) c s
 ·exact MY (u:=fun w r=>r) (v:=dI) c fun q r u=>xA (dI q)▸s q r u
 ·exact MY (u:=fun w r=>r) (v:=fun q=>!dI q) c fun q r u=>xB (dI q)▸s q r u
def EY{q:bl}{r:List bl}(u:d.bV.cg=ar):eT n l b d ⟨o,q::r,a,i⟩=O (.inr ⟨cond (d.bV.eM (dI q)) d.t (b+1),r,a,i⟩):=by
 refine bU fun t=>?_
 obtain ⟨s,j,v,w,y,x⟩:=d
 refine t ?_;try clear t
 exact lU (a:=fun s=>eT n l b ⟨s,j,v,w,y,x⟩ ⟨o,q::r,a,i⟩=O (.inr ⟨cond (s.eM (dI q)) j (b+1),r,a,i⟩)) u (by rw [xA];rfl) (by rw [xB];rfl)
def Xe{r:bl}{L:Nat}(c:eT n l b d ⟨o,r::m,a,i⟩=O p)(Q:d.bV.fQ=ar)(q:∀C y,(∀t,eT n l b d ⟨L,r::t,a,i⟩=O (.inr ⟨b+1,t,C,y⟩))→k (.inr ⟨b+1,m,C,y⟩)):k p:=by
 have x:∀s,Ah l d s a=wg d s a:=fun s=>by
  refine bU fun I=>?_
  obtain ⟨w,j,G,F,A,z⟩:=d
  refine I ?_;try clear I
  exact xy (a:=fun w=>Ah l ⟨w,j,G,F,A,z⟩ s a=wg ⟨w,j,G,F,A,z⟩ s a) Q rfl rfl rfl rfl
 unfold eT at c q
 dsimp only at c q
 rw [x] at c
 refine fV (d:=k) c fun u v=>MW (g:=fun u=>k (rQ n b d.t (r::m) a i u)) v fun W R u T P v K=>?_
 cases P
 refine q _ _ fun t=>?_
 rw [x]
 show nG _ ((jM (oG d)).bind fun q=>(gY r).map fun o=>nw.cc t (gF a q r) (O (.cQ [.ad d.bV.cT,oG d,.ad o])))=_
 (refine bT v ?_;refine bT K ?_);rfl
end
def JM(q:ed f c)(ac:fm f g)(k:f.a2[b]? =O (O d))(o:f.a2[b+1]? =O (O e))(l:d.bV.cg=ar)(v:e.bV=.cI)(u:d.t=b+2)(x:l6 f (b+1)):su f (f.fb b (O (.cE d.bV.fN e.t d.e6)) b1) g:=by
 have K:=oI (c:=f) (O (.cE d.bV.fN e.t d.e6)) b1 (gC k)
 have L:=oJ (c:=f) (O (.cE d.bV.fN e.t d.e6)) b1 (gC o)
 have w:(R.cE d.bV.fN e.t d.e6).bV.cg=ar:=lU (a:=fun j=>j.fN.cg=ar) l rfl rfl
 have ab:∀a,d.bV.fN.eM a= !(d.bV.eM a):=fun a=>lU (a:=fun j=>j.fN.eM a= !(j.eM a)) l (by induction a<;>rfl) (by induction a<;>rfl)
 have A:rR c (b+1) (c (b+1))=c:=funext (ui c _)
 have C:e.bV.b8=ar:=by refine bT v ?_;rfl
 have T:=x.Vw _ _ o C
 have Y:cx f b→cx f e.t:=fun i=>.cI (.eK i k (JL l)) o C
 have F:∀i:cx f b,1≤c b∧c (b+1)+1=c b∧c (b+2)+1=c b∧c e.t=c (b+1):=fun i=>by
  refine bU fun m=>?_
  obtain ⟨r,a,p⟩:=(q.dh _ _ i k).br l
  refine m ?_;try clear m
  rw [u] at p
  exact ⟨r,a,p,oh (a:=fun j=>j.b8=ar→c e.t+j.c0=c (b+1)+j.fS) v (q.dh _ _ (.eK i k (JL l)) o).cI rfl⟩
 refine Xb q ac k o x (sX (lU (a:=fun j=>R.cF g (R.cE j.fN e.t d.e6)=ar) l rfl rfl)) kr (u:=c (b+1)) (r:=e.t) (q:=fun z s=>z=s) (fun i=>A.symm▸ .dh _ K ⟨?_,fun y=>.eK i k (JL l),fun y=>Y i,fun y=>.dJ i k⟩) (fun i af=>A.symm▸ .lg L (u▸ .cI i k (rm l)) ?_)
  (fun {ag z aa X ae} t=>tz l t fun n s P=>?_) (fun Q t=>w6 v t (.gi (.cy _) (.cZ (congrArg (fun W=>ek.mk _ W _ _) Q) (xz T))))
 ·subst P
  refine .ea (.cy _) K (EY w) (q':=cond (d.bV.fN.eM (dI n)) e.t (b+2)) ?_ ?_
  ·show NP _ (cond (d.bV.fN.eM (dI n)) e.t (b+1)) _
   cases d.bV.fN.eM (dI n)
   ·exact .o9 L
   ·exact .cy _
  ·show wi b 2 _ _ ⟨cond (d.bV.fN.eM (dI n)) e.t (b+2),s,aa,X⟩
   (rewrite [ab];refine bT u ?_)
   cases d.bV.eM (dI n)
   ·exact w5 rfl
   ·exact .cZ rfl (qc b 2)
 ·refine bU fun m=>?_
  obtain ⟨r,a,p,G⟩:=F i
  refine m ?_;try clear m
  have I:=q.dh _ _ i k
  exact Xd I w r a (show c e.t+1=c b by refine bT G ?_;exact a) I.dJ
 ·refine bU fun m=>?_
  obtain ⟨r,a,p,G⟩:=F i
  refine m ?_;try clear m
  exact mB (p.trans a.symm)
def Ow(q:ed f c)(ab:fm f g)(o:f.a2[b]? =O (O d))(k:f.a2[b+1]? =O (O e))(w:d.bV=.d0)(n:e.bV.cg=ar)(u:l6 f (b+1)):
  su f (f.fb b b1 (if e.bV.eM (dI d.a) then O (.cE .cI e.t e.e6) else b1)) g:=by
 have C:=u.Vw _ _ k (rm n)
 have Y:cx f (b+1)→cx f e.t:=fun a=>.cI a k (rm n)
 have I:∀a:cx f b,cx f (b+1)∧c (b+2)=c b∧c e.t=c b:=fun a=>by
  have l:cx f (b+1):=.eK a o (by refine bT w ?_;rfl)
  have K:c (b+1)=c b+1:=oh (a:=fun x=>x.dR=b2→c (b+1)+x.c0=c b+x.fS) w (q.dh _ _ a o).eK rfl
  refine bU fun m=>?_
  obtain ⟨ah,j,r⟩:=(q.dh _ _ l k).br n
  refine m ?_;try clear m
  exact ⟨l,mB (j.trans K),mB (r.trans K)⟩
 have G:∀j,(e.bV.eM (dI d.a)=ar→j=O (.cE .cI e.t e.e6))→(e.bV.eM (dI d.a)=b2→j=b1)→su f (f.fb b b1 j) g:=fun j y v=>by
  have L:=oI (c:=f) b1 j (gC o)
  have s:=oJ (c:=f) b1 j (gC k)
  have X:∀d,j=O d→d.cF g=ar:=fun af a=>by
   cases i:e.bV.eM (dI d.a) with
   |true=>rw [y i] at a;exact dg a▸rfl
   |false=>rw [v i] at a;exact cG a
  refine Xb q ab o k u kr X (u:=c b) (r:=b+1) (q:=fun F t=>F=d.a::t) (fun a=>.lg L (I a).1 ((jA ..).trans (j2 _ _ (rl b)).symm)) (fun a l=>?_) (fun z=>Nz w z (.gi (.o9 L) (w5 rfl))) (fun {ai F t aa W ag} P z=>tz n z fun ae ak Q=>?_)
  ·refine bU fun m=>?_
   obtain ⟨_,ac,R⟩:=I a
   refine m ?_;try clear m
   cases i:e.bV.eM (dI d.a) with
   |true=>
    obtain rfl:=y i
    refine .dh _ s ⟨⟨fy _,(fun a=>dy a),fun p=>?_,fun r A T=>(j2 _ _ (u.ct r A)).trans ((q.dh _ _ l k).dJ r A T),(fun a=>nomatch a)⟩,(fun a=>dy a),fun p=>Y l,fun p=>.dJ l k⟩
    exact ((j2 _ _ C).trans R).trans (jA ..).symm
   |false=>
    obtain rfl:=v i
    exact .lg s (.eK l k (JL n)) ((j2 _ _ (rl _).symm).trans (ac.trans (jA ..).symm))
  ·subst P
   cases Q
   cases i:e.bV.eM (dI d.a) with
   |true=>
    obtain rfl:=y i
    exact .ea (b:=⟨e.t,t,aa,W⟩) (.cy _) s rfl (.cy _) (.cZ rfl (xz C))
   |false=>
    obtain rfl:=v i
    exact .gi (.o9 s) (.cZ rfl (qc b 2))
 split
 ·rename_i i;exact G _ (fun p=>rfl) fun a=>dy (a.symm.trans i)
 ·rename_i i;exact G _ (fun a=>absurd a i) fun p=>rfl
end
section
variable{d:Nc}{b:Nat}{g h k:R}{i:Bool}{c:Nat→Nat}
def Vz{a:Op→Prop}{f e:Op}(j:e=f)(c:a f):a e:=j▸c
inductive G2(b t tt:Nat)(a:bl):Nat→Nat→List bl→List bl→Prop
 |mq {st:List bl}:G2 b t tt a (b+1) (b+1) (a::st) st
 |DJ {st:List bl}:G2 b t tt a t tt (a::st) st
def JN{f:R}(s:ed d c)(X:fm d i)(r:d.a2[b]? =O (O g))(p:d.a2[b+1]? =O (O h))(o:d.a2[h.t]? =O (O f))(y:g.bV=.d0)(m:h.bV=.cI)(n:f.bV.cg=ar)(x:l6 d (b+1)):
  su d (d.fb b b1 (O {h with t:=if f.bV.eM (dI g.a) then f.t else h.t+1})) i:=by
 have ah:h.bV.b8=ar:=by refine bT m ?_;rfl
 have Q:∀a,a=(if f.bV.eM (dI g.a) then f.t else h.t+1)→(cx d b→cx d (b+1)∧cx d a∧c a=c b)∧a≠b+1:=fun a w=>by
  refine ⟨fun l=>?_,?_⟩
  ·have q:cx d (b+1):=.eK l r (by refine bT y ?_;rfl)
   have A:cx d h.t:=.cI q p ah
   have T:c (b+1)=c b+1:=oh (a:=fun e=>e.dR=b2→c (b+1)+e.c0=c b+e.fS) y (s.dh _ _ l r).eK rfl
   have aa:c h.t=c (b+1):=oh (a:=fun e=>e.b8=ar→c h.t+e.c0=c (b+1)+e.fS) m (s.dh _ _ q p).cI rfl
   refine bU fun u=>?_
   obtain ⟨_,L,z⟩:=(s.dh _ _ A o).br n
   refine u ?_;try clear u
   refine bT w ?_
   split
   ·exact ⟨q,.cI A o (rm n),mB (z.trans (aa.trans T))⟩
   ·exact ⟨q,.eK A o (JL n),mB (L.trans (aa.trans T))⟩
  ·refine bT w ?_
   split
   ·exact x.Vw _ _ o (rm n)
   ·intro l
    rw [mB l,r] at o
    cases o
    rw [y] at n
    exact dy n
 have C:cond (f.bV.eM (dI g.a)) f.t (h.t+1)=if f.bV.eM (dI g.a) then f.t else h.t+1:=by cases f.bV.eM (dI g.a)<;>rfl
 generalize (if f.bV.eM (dI g.a) then f.t else h.t+1)=a at Q C⊢
 obtain ⟨F,I⟩:=Q a rfl
 have W:=oI (c:=d) b1 (O {h with t:=a}) (gC r)
 have Y:=oJ (c:=d) b1 (O {h with t:=a}) (gC p)
 have ak:({h with t:=a}:R).cF i=ar:=(show h.cF i=ar from X _ _ p)
 have ae:=Nx (e:=b1) (a:=O {h with t:=a}) (g:=c b) s x (fun l=>.lg W (F l).1 ((jA ..).trans (j2 _ _ (rl b)).symm)) fun l q=>.dh _ Y ⟨⟨Vz (a:=fun e=>e.c0≤_) m (fy _),fun j=>?_,fun K=>?_,fun z G ac=>(j2 _ _ (x.ct z G)).trans ((s.dh _ _ q p).dJ z G ac),fun j=>?_⟩,fun j=>?_,fun K=>(F l).2.1,fun K=>.dJ q p⟩
 ·refine Xa (xx b1 (O {h with t:=a}) x) ae (Bz X kr (sX ak)) r (r:=G2 b h.t a g.a) (fun v=>Nz y v (.gi (.o9 W) (.lT (.mk .mq)))) fun {av aq j an af ai ag} ab=>?_
  cases ab with
  |mq=>exact ⟨h,p,fun v=>w6 m v (.ea (b:=⟨a,af,ai,ag⟩) (.cy _) Y (by
    refine bU fun u=>?_
    obtain ⟨e,P,au,L,am,al⟩:=h
    obtain rfl:e=.cI:=m
    refine u ?_;try clear u
    rfl) (.cy _) (.lT (.mk .DJ)))⟩
  |DJ=>exact ⟨f,o,fun v=>tz n v fun ao aw w=>by
    cases w
    exact .gi (.cy _) (.cZ (congrArg (fun P=>ek.mk P _ _ _) C) (C▸xz I))⟩
 ·rw [m] at j;exact dy j
 ·refine Vz (a:=fun e=>rR c (b+1) (c b) a+e.c0=rR c (b+1) (c b) (b+1)+e.fS) m ?_
  (rewrite [jA];refine bT (j2 _ _ I) ?_)
  exact (F l).2.2
 ·rw [m] at j;cases j
 ·rw [m] at j;exact dy j
inductive G3(b:Nat):Nat→Nat→List bl→List bl→Prop
 |mq {v:bl} {st:List bl}:G3 b (b+1) (b+1) (v::v::st) (v::st)
 |DJ {v:bl} {st:List bl}:G3 b (b+2) (b+3) (v::st) st
structure Rg(op:Op):Prop where
 e:op.dR=b2
 j:op.b8=b2
 p:op.fS=0
 t:op.c0=1
 f:op≠ .gz ()
def DK{e:Op}(f:e.fQ=ar):Rg e:=xy f ⟨rfl,rfl,rfl,rfl,fun a=>nomatch a⟩ ⟨rfl,rfl,rfl,rfl,fun a=>nomatch a⟩ ⟨rfl,rfl,rfl,rfl,fun a=>nomatch a⟩ ⟨rfl,rfl,rfl,rfl,fun a=>nomatch a⟩
def JO(n:ed d c)(W:fm d i)(r:d.a2[b]? =O (O g))(j:d.a2[b+1]? =O (O h))(q:d.a2[b+2]? =O (O k))(z:g.bV=.kq)(aa:h.bV.fQ=ar)(A:k.bV=.gA)(s:l6 d (b+1))(v:l6 d (b+2)):
  su d (d.sv b b1 (O h) b1) i:=by
 have T:=Al (c:=d) b1 (O h) b1 (gC r)
 have X:=Nv (c:=d) b1 (O h) b1 (gC j)
 have P:=Nw (c:=d) b1 (O h) b1 (gC q)
 have e:=DK aa
 have C:cx d b→(cx d (b+1)∧cx d (b+2)∧cx d (b+3))∧c (b+3)+1=c b:=fun f=>by
  have x:cx d (b+1):=.eK f r (by refine bT z ?_;rfl)
  have o:cx d (b+2):=.eK x j e.e
  have an:c (b+1)+1=c b+2:=oh (a:=fun l=>l.dR=b2→c (b+1)+l.c0=c b+l.fS) z (n.dh _ _ f r).eK rfl
  have Y:=(n.dh _ _ x j).eK e.e
  rw [e.p,e.t] at Y
  have af:c (b+3)+1=c (b+2):=oh (a:=fun l=>l.dR=b2→c (b+3)+l.c0=c (b+2)+l.fS) A (n.dh _ _ o q).eK rfl
  exact ⟨⟨x,o,.eK o q (by refine bT A ?_;rfl)⟩,af.trans (mB (mB ((congrArg pI Y).trans an)))⟩
 have ao:b+1≠b+2:=rl _
 have t:∀{a:Nat},a≠b+1→a≠b+2→rR (rR c (b+1) (c b)) (b+2) (c (b+3)) a=c a:=fun am ak=>(j2 _ _ ak).trans (j2 _ _ am)
 have y:rR (rR c (b+1) (c b)) (b+2) (c (b+3)) (b+1)=c b:=(j2 _ _ ao).trans (jA ..)
 have I:rR (rR c (b+1) (c b)) (b+2) (c (b+3)) (b+2)=c (b+3):=jA ..
 have R:=Ou b1 (O h) b1 s v
 have ag:=R.gK n (h:=rR (rR c (b+1) (c b)) (b+2) (c (b+3))) (fun a L=>t (fun f=>L (f▸⟨h9 b,qA (h9 _)⟩)) fun f=>L (f▸⟨qA (h9 b),h9 _⟩)) fun a ab al=>DH (b:=fun a=>cx d a→uW d (d.sv b b1 (O h) b1) (rR (rR c (b+1) (c b)) (b+2) (c (b+3))) a) ab al
  (fun f=>.lg T (C f).1.1 (y.trans (t (rl b) (QT b)).symm)) (fun F=>?_) fun ac=>.lg P (C (s.Hb (v.Hb ac))).1.2.2 ((t (QT _).symm (rl _).symm).trans I.symm)
 ·refine Xa R ag (sW (Bz W kr (sX (W _ _ j))) kr) r (r:=G3 b) (fun p=>Vy z p fun ai ah u=>by
   subst u
   exact .gi (.o9 T) (.lT (.mk .mq))) fun {aA ay a av ah az au} ae=>?_
  induction ae with
  |mq=>exact ⟨h,j,fun p=>Xe (L:=b+1) p aa fun aw aq m=>.ea (.cy _) X (m _) (.o9 P) (.lT (.mk .DJ))⟩
  |DJ=>exact ⟨k,q,fun p=>Ny A p fun ai aB u=>by
    cases u
    exact .gi (.cy _) (.cZ rfl (qc b 3))⟩
 ·refine bU fun Q=>?_
  obtain ⟨⟨_,o,_⟩,m⟩:=C (s.Hb F)
  refine Q ?_;try clear Q
  refine .dh _ X ⟨⟨?_,fun K=>?_,fun a=>absurd (e.j.symm.trans a) kx,fun G w m=>(t (s.ct G w) (v.ct G w)).trans ((n.dh _ _ F j).dJ G w m),fun a=>absurd a e.f⟩,fun K=>o,fun a=>absurd (e.j.symm.trans a) kx,fun K=>.dJ F j⟩
  ·(refine bT y ?_;refine bT e.t ?_;refine gT m ?_);exact iF (fy _)
  ·(refine bT y ?_;refine bT e.t ?_;refine bT e.p ?_)
   exact (congrArg (· +1) I).trans m
def i7(g:R):Option R:=if g.bV.cg then O (.cE .gA 0 g.e6) else b1
def Rh(a:g.bV.cg=ar):i7 g=O (.cE .gA 0 g.e6):=if_pos a
def Ri(a:g.bV.cg=b2):i7 g=b1:=if_neg (by refine bT a ?_;exact kx)
def Xf{r:List Ct}{t:Bool}{u:Nat}{l:List bl}{n:Kd}{e:List bl}{a:Sum (List bl) ek}{f:Sum (List bl) ek→Prop}(G:g.bV.b8=ar)(z:g.bV.cg=b2)(I:g.t=b+1)(c:eT r t b g ⟨u,l,n,e⟩=O a)(p:f (.inr ⟨b+1,l,n,e⟩)):f a:=by
 refine bU fun s=>?_
 obtain ⟨m,A,F,C,x,w⟩:=g
 obtain rfl:A=b+1:=I
 refine s ?_;try clear s
 refine MZ (a:=fun m=>m.cg=b2→eT r t b ⟨m,b+1,F,C,x,w⟩ ⟨u,l,n,e⟩=O a→f a) G (fun o=>dy o) (fun o=>dy o) (fun y c=>?_) (fun y c=>dT c p) z c
 refine MY (u:=fun j q=>j::q) (v:=dW) c fun j q v=>?_
 refine gT v ?_
 cases dW j<;>exact p
def Ox(o:ed d c)(z:fm d i)(f:d.a2[b]? =O (O g))(q:g.bV.b8=ar)(p:g.t=b+1):su d (d.qm b (i7 g)) i:=by
 have n:=w4 (c:=d) (i7 g) (gC f)
 have m:=Ot (c:=d) (b:=b) (i7 g)
 have y:cx d b→cx d (b+1):=fun a=>p▸ .cI a f q
 cases j:g.bV.cg with
 |true=>
  rw [Rh j] at n m⊢
  have t:=m.gK o (h:=c) (fun e e=>rfl) fun G r u=>r6 r (qk u)▸fun a=>.dh _ n (let ⟨F,C,_⟩:=(o.dh _ _ a f).br j;⟨⟨F,fun e=>C,(fun a=>dy a),(o.dh _ _ a f).dJ,(fun a=>nomatch a)⟩,fun e=>y a,(fun a=>dy a),fun e=>.dJ a f⟩)
  refine Xa m t (sW z (sX rfl)) f (r:=fun e e e e=>False) (fun w=>tz j w fun x I A=>?_) fun s=>s.elim
  subst A
  refine .ea (.cy _) n rfl (.cy _) (.cZ ?_ ?_)
  ·refine bT p ?_;cases g.bV.eM (dI x)<;>rfl
  ·refine bT p ?_;cases g.bV.eM (dI x)<;>exact qc b 1
 |false=>
  rw [Ri j] at n m⊢
  have t:=m.gK o (h:=c) (fun e e=>rfl) fun G r u=>r6 r (qk u)▸fun a=>.lg n (y a) (by
   have l:=(o.dh _ _ a f).cI q
   rw [p] at l
   exact MZ (a:=fun v=>v.cg=b2→c (b+1)+v.c0=c b+v.fS→c (b+1)=c b) q (fun a=>dy a) (fun a=>dy a) (fun e l=>mB l) (fun e l=>l) j l)
  exact Xa m t (sW z kr) f (r:=fun e e e e=>False) (fun w=>Xf q j p w (.gi (.o9 n) (.cZ rfl (qc b 1)))) fun s=>s.elim
end
inductive lm(X:Nc):Nat→Nat→Prop
 |cy (a:Nat):lm X a a
 |ea {a b:Nat} {r:R} (e:X.a2[a]? =O (O r)) (c:r.bV=.cI) (k:lm X r.t b):lm X a b
def lm.ci{a:Nc}{e c b:Nat}(h:lm a e c)(d:lm a c b):lm a e b:=by
 induction h with
 |cy=>exact d
 |ea g i _ f=>exact .ea g i (f d)
inductive VA(X:Nc)(r:R):R→Prop
 |je (c:r.bV.b8=b2):VA X r r
 |to {t:Nat} (c:r.bV.b8=ar) (k:lm X r.t t):VA X r {r with t:=t}
 |ew {e:Nat} {re:R} (c:r.bV=.cI) (k:lm X r.t e) (he:X.a2[e]? =O (O re)) (hre:re.bV=.ew):VA X r (.cE .ew 0 r.e6)
inductive Wv(X Y:Nc):ek→ek→Prop
 |mq {a b:Nat} {sk ds:List bl} {kd:Kd} (k:lm X a b):Wv X Y ⟨a,sk,kd,ds⟩ ⟨b,sk,kd,ds⟩
 |DJ {a b e:Nat} {sk ds:List bl} {kd:Kd} {r2 re:R} (y:Y.a2[b]? =O (O r2)) (y2:r2.bV=.ew) (k:lm X a e) (x:X.a2[e]? =O (O re)) (x2:re.bV=.ew):Wv X Y ⟨a,sk,kd,ds⟩ ⟨b,sk,kd,ds⟩
section
variable{l j:List Ct}{f:Bool}{h i o n g:Nat}{c m:R}{b:List bl}{a:Kd}{e:List bl}{k:Sum (List bl) ek}{d:Sum (List bl) ek→Prop}
def Rj(G:c.bV=.ew)(z:m.bV=.ew)(I:eT l f h c ⟨o,b,a,e⟩=O k)(u:∀s,eT j f i m ⟨n,b,a,e⟩=O (.inl s)→d (.inl s)):d k:=by
 refine bU fun t=>?_
 obtain ⟨A,g,aa,Y,R,P⟩:=c
 obtain ⟨x,q,C,w,F,y⟩:=m
 obtain rfl:A=.ew:=G
 obtain rfl:x=.ew:=z
 refine t ?_;try clear t
 exact fV I fun p r=>fc r fun W Q L v=>fV (d:=fun p=>Ah f ⟨.ew,q,C,w,F,y⟩ b a=O p→d (rQ l h g b a e p)) v (fun X T K=>u _ (congrArg (nG (rQ j i q b a e)) K)) r
def Oy{s:nw}{d:nw→Prop}(y:c.bV.b8=ar)(p:Ah f c b a=O s)(q:∀r t,d (.cI r t)):d s:=by
 refine bU fun x=>?_
 obtain ⟨w,g,z,t,C,A⟩:=c
 refine x ?_;try clear x
 exact MZ (a:=fun w=>Ah f ⟨w,g,z,t,C,A⟩ b a=O s→d s) y (fun p=>fc p fun u r v p=>dT p (q _ _)) (fun p=>fc p fun u r v p=>dT p (q _ _)) (fun p=>fc p fun u r v p=>dT p (q _ _)) (fun p=>dT p (q _ _)) p
def Xg(u:c.bV.b8=ar)(w:eT l f h c ⟨o,b,a,e⟩=O k)(v:∀p q,eT j f i {c with t:=g} ⟨n,b,a,e⟩=O (.inr ⟨cond p g (i+1),q,a,e⟩)→d (.inr ⟨cond p c.t (h+1),q,a,e⟩)):d k:=
 fV w fun r s=>Oy (d:=fun r=>Ah f c b a=O r→d (rQ l h c.t b a e r)) u s (fun q p x=>v p q (congrArg (nG (rQ j i g b a e)) x)) s
end
section
variable{a b:Nc}{d:Bool}{c:Nat→Nat}
def lm.mH(o:ed a c){e f:Nat}(n:lm a e f)(h:cx a e):cx a f∧c f=c e:=by
 induction n with
 |cy=>exact ⟨h,rfl⟩
 |@ea e f p j i _ k=>
  obtain ⟨l,m⟩:=k (.cI h j (by refine bT i ?_;rfl))
  exact ⟨l,m.trans (oh (a:=fun g=>g.b8=ar→c p.t+g.c0=c e+g.fS) i (o.dh _ _ h j).cI rfl)⟩
def yQ.eI{g:Nat}{f:R}(h:b.f6=a.f6)(e:yQ a c g f):yQ b c g f:=⟨e.c0,e.eK,e.cI,h▸e.dJ,h▸e.gz⟩
def JP(r:ed a c)(ac:fm a d)(ab:b.a2.length=a.a2.length)(x:b.f6=a.f6)(I:b.cp=a.cp)(Y:∀h:Nat,a.a2[h]? ≠O b1)(X:∀(h:Nat)(i:R),a.a2[h]? =O (O i)→∃l,b.a2[h]? =O (O l)∧VA a i l):ed b c∧fm b d∧fH a b:=by
 have p:∀{h:Nat}{u:Option R}{F:Prop},b.a2[h]? =O u→(∀i l,u=O l→a.a2[h]? =O (O i)→VA a i l→F)→F:=fun {h u F} e f=>by
  cases g:a.a2[h]? with
  |none=>exact absurd (ab▸gC e) (jI.mpr (TU.mp g))
  |some au=>induction au with
   |none=>exact absurd g (Y h)
   |some i=>
    refine bU fun w=>?_
    obtain ⟨ay,aw,af⟩:=X h i g
    refine w ?_;try clear w
    exact f i ay (dg (e.symm.trans aw)) g af
 have A:∀{h:Nat},cx b h→cx a h:=fun {h:Nat} (ak:cx b h)=>by
  induction ak with
  |dH m=>exact .dH (I▸m)
  |lg _ e t=>exact p e fun q q g=>cG g
  |eK _ e f t=>
   refine p e fun i l g k K=>?_
   obtain rfl:=dg g
   induction K with
   |ew=>exact dy f
   |_=>exact .eK t k f
  |cI _ e f t=>
   refine p e fun i l g k K=>?_
   obtain rfl:=dg g
   induction K with
   |je j=>exact absurd (j.symm.trans f) kx
   |to j ag=>exact (ag.mH r (.cI t k j)).1
   |ew=>exact dy f
  |dJ _ e al f t=>exact p e fun i l g k z=>.dJ t k (x▸al) f
 have Q:ed b c:=⟨fun n m=>r.dH n (I▸m),fun n m=>ab▸r.kJ n (A m),fun n m e=>p e (fun q q g=>cG g),fun n l m e=>p e fun i q g k z=>by
  obtain rfl:=dg g
  have o:=(r.dh n i (A m) k).eI x
  induction z with
  |je j=>exact o
  |to j f=>exact ⟨o.c0,o.eK,fun h=>(congrArg (· +i.bV.c0) (f.mH r (.cI (A m) k j)).2).trans (o.cI j),o.dJ,o.gz⟩
  |ew j f G L=>
   have P:=f.mH r (.cI (A m) k (by refine bT j ?_;rfl))
   have h:c _=c n:=P.2.trans (oh (a:=fun v=>v.b8=ar→c i.t+v.c0=c n+v.fS) j o.cI rfl)
   exact ⟨h▸oh (a:=fun v=>v.c0≤c _) L (r.dh _ _ P.1 G).c0,(fun g=>dy g),(fun g=>dy g),o.dJ,(fun g=>nomatch g)⟩⟩
 have T:fm b d:=fun h l e=>p e fun i q g k z=>by
  obtain rfl:=dg g
  induction z with
  |ew=>rfl
  |je=>exact ac h _ k
  |to=>exact (show i.cF d=ar from ac h i k)
 refine ⟨Q,T,n8 (d:=fun q=>Wv a b) I Q T (fun av=>⟨fun c=>?_,fun q e=>absurd e (Y _),fun {aB aC i u} ao C s=>?_⟩) fun av n aD m az=>.mq (.cy _)⟩
 ·induction c<;>rfl
 ·induction ao with
  |mq f=>induction f with
   |ea e j f=>
    rw [C] at e;cases e
    exact w6 j s (.gi (.cy _) (.mq f))
   |cy=>
    refine bU fun w=>?_
    obtain ⟨l,y,am⟩:=X _ i C
    refine w ?_;try clear w
    induction am with
    |je j=>induction u with
     |inl an=>exact .gG (.cy _) y (x.symm▸s)
     |inr ah=>obtain ⟨_,_,_,_⟩:=ah;exact .ea (.cy _) y (x.symm▸s) (.cy _) (.mq (.cy _))
    |to j f=>exact Xg j s fun ai aA e=>.ea (.cy _) y e (.cy _) (.mq (by induction ai;exact .cy _;exact f))
    |ew j f G L=>exact w6 j s (.gi (.cy _) (.DJ y rfl f G L))
  |DJ ae aa f k W=>induction f with
   |ea e j f=>
    rw [C] at e;cases e
    exact w6 j s (.gi (.cy _) (.DJ ae aa f k W))
   |cy=>
    rw [C] at k;cases k
    exact Rj W aa s fun an aq=>.gG (.cy _) ae aq
def Rk(q:ed a c)(L:fm a d)(K:b.a2.length=a.a2.length)(p:b.f6=a.f6)(s:b.cp=a.cp)(i:∀f:Nat,cx a f→b.a2[f]? =a.a2[f]?)(G:∀f:Nat,¬cx a f→∀l,b.a2[f]? ≠O (O l)):ed b c∧fm b d∧fH a b∧(∀f,cx b f↔cx a f):=by
 have n:∀f,cx b f→cx a f:=fun f t=>by
  induction t with
  |dH g=>exact .dH (s▸g)
  |lg _ e h=>exact .lg h (i _ h▸e)
  |eK _ e k h=>exact .eK h (i _ h▸e) k
  |cI _ e k h=>exact .cI h (i _ h▸e) k
  |dJ _ e u k h=>exact .dJ h (i _ h▸e) (p▸u) k
 have C:∀f,cx a f→cx b f:=fun f t=>by
  induction t with
  |dH g=>exact .dH (s▸g)
  |lg g e h=>exact .lg h ((i _ g).trans e)
  |eK g e k h=>exact .eK h ((i _ g).trans e) k
  |cI g e k h=>exact .cI h ((i _ g).trans e) k
  |dJ g e u k h=>exact .dJ h ((i _ g).trans e) (p▸u) k
 have y:ed b c:=⟨fun j g=>q.dH j (s▸g),fun j g=>K▸q.kJ j (n j g),fun j g e=>q.lg j (n j g) (i _ (n j g)▸e),fun j l g e=>(q.dh j l (n j g) (i _ (n j g)▸e)).eI p⟩
 have z:fm b d:=fun f l e=>(UY (cx a f)).elim (fun m=>L f l (i f m▸e)) fun m=>absurd e (G f m l)
 refine ⟨y,z,n8 (d:=fun P r v=>r=v∧cx a r.pc) s y z (fun I=>⟨fun c=>c.1▸rfl,fun {r v} o e=>⟨_,.o9 (o.1▸(i _ o.2).trans e),o.1▸rfl,.lg o.2 e⟩,fun {r v l F} o x w=>?_⟩) fun I j T g i=>⟨rfl,.dH g⟩,fun f=>⟨n f,C f⟩⟩
 refine bU fun A=>?_
 obtain ⟨rfl,m⟩:=o
 refine A ?_;try clear A
 induction F with
 |inl R=>exact .gG (.cy _) ((i _ m).trans x) (p.symm▸w)
 |inr Q=>exact .ea (.cy _) ((i _ m).trans x) (p.symm▸w) (.cy _) ⟨rfl,HK m x w⟩
end
noncomputable def c6(a:List (Option R))(b:Nat):Nat:=((a.take b).filterMap id).length
def R.iY(b:Nat→Nat)(a:R):R:=if a.bV.b8 then {a with t:=b a.t} else a
noncomputable def Ct.fI(b:Nat→Nat)(a:Ct):Option Ct:=if b a.d1<b a.iz then O {a with d1:=b a.d1,iz:=b a.iz,cP:=b a.cP} else b1
def Nc.fI(a:Nc):Nc:=⟨((a.a2.filterMap id).map (R.iY (c6 a.a2))).map O,a.f6.filterMap (Ct.fI (c6 a.a2)),a.cp.map (c6 a.a2)⟩
def VC{c:List (Option R)}{b:Nat}{a:Option R}(d:c[b]? =O a):c6 c (b+1)=c6 c b+(a.elim 0 fun e=>1):=by
 unfold c6
 (refine bT qC ?_;refine bT d ?_;refine bT L2 ?_;refine bT dZ ?_)
 induction a<;>rfl
def BA{a:List (Option R)}{b:Nat}(c:a[b]? =O b1):c6 a (b+1)=c6 a b:=VC c
def oY{a:List (Option R)}{b:Nat}{d:R}(c:a[b]? =O (O d)):c6 a (b+1)=c6 a b+1:=VC c
def aae{a:List (Option R)}{b c:Nat}(f:NP a b c):c6 a b=c6 a c:=by
 induction f with
 |cy=>rfl
 |ea e _ d=>exact (BA e).symm.trans d
def wj(a:List (Option R)){b c:Nat}(d:b≤c):c6 a b≤c6 a c:=by
 obtain ⟨f,e⟩:a.take b <+: a.take c:=List.take_prefix_take_left d
 unfold c6
 (refine gT e ?_;refine bT L2 ?_;refine bT dZ ?_)
 exact fg _ _
def Xh{b:List (Option R)}:∀{a:Nat}{d:R},b[a]? =O (O d)→(b.filterMap id)[c6 b a]? =O d:=by
 induction b with
 |nil=>exact fun c=>cG c
 |cons e g f=>
  intro a d c
  induction a with
  |zero=>
   obtain rfl:e=O d:=dg c
   rfl
  |succ a=>induction e<;>exact f (a:=a) c
def VD{e:List (Option R)}:∀{b:Nat}{f:R},(e.filterMap id)[b]? =O f→∃a,e[a]? =O (O f)∧c6 e a=b:=by
 induction e with
 |nil=>exact fun c=>cG c
 |cons h i g=>
  intro b f c
  induction h with
  |none=>exact (g c).elim fun a d=>⟨a+1,d⟩
  |some j=>induction b with
   |zero=>exact ⟨0,congrArg O c,rfl⟩
   |succ b=>exact (g (b:=b) c).elim fun a d=>⟨a+1,d.1,congrArg pI d.2⟩
def Hc{a:List (Option R)}{b c:Nat}{f:R}(e:a[b]? =O (O f))(d:b<c):c6 a b<c6 a c:=hH (oY e▸h9 _:c6 a b<c6 a (b+1)) (wj a d)
def Xi{a:List (Option R)}{b c:Nat}{i h:R}(g:a[b]? =O (O i))(f:a[c]? =O (O h))(e:c6 a b=c6 a c):b=c:=
 r6 (ra fun d=>kW (Hc f d) e.symm) (ra fun d=>kW (Hc g d) e)
def uX{a:List (Option R)}{b c:Nat}{g:R}(e:a[b]? =O (O g)):c6 a c≤c6 a b↔c≤b:=⟨fun d=>ra fun f=>jI.mpr d (Hc e f),wj a⟩
def JQ{b:List (Option R)}{a c:Nat}{e:R}(d:b[a]? =O (O e)):c6 b a<c6 b c↔a<c:=by
 rw [← Nat.not_le,← Nat.not_le,uX d]
section
variable{a:Nc}{c:Bool}{b:Nat→Nat}
def DL(d:Nat):a.fI.a2[d]? =((a.a2.filterMap id)[d]?).map fun e=>O (e.iY (c6 a.a2)):=by
 show (((a.a2.filterMap id).map (R.iY (c6 a.a2))).map O)[d]? =_
 (refine bT lO ?_;rw [i4]);rfl
def iK{e:Nat}{d:R}(f:a.a2[e]? =O (O d)):a.fI.a2[c6 a.a2 e]? =O (O (d.iY (c6 a.a2))):=by (rewrite [DL];refine bT (Xh f) ?_);rfl
def rn{g:Nat}{f:Option R}(h:a.fI.a2[g]? =O f):∃d e,a.a2[d]? =O (O e)∧c6 a.a2 d=g∧f=O (e.iY (c6 a.a2)):=by
 rw [DL] at h
 exact fV (d:=fun f=>∃d e,a.a2[d]? =O (O e)∧c6 a.a2 d=g∧f=O (e.iY (c6 a.a2))) h fun e b=>have ⟨d,i,j⟩:=VD b;⟨d,e,i,j,rfl⟩
def x9(e:Nat):a.fI.a2[e]? ≠O b1:=fun d=>by
 obtain ⟨g,h,_,_,f⟩:=rn d
 exact cG f
def iL(e:Nat→Nat)(d:R):(d.iY e).bV=d.bV:=by unfold R.iY;split<;>rfl
def Rm(f:Nat→Nat)(e:R)(d:Bool):(e.iY f).cF d=e.cF d:=by unfold R.iY;split<;>rfl
def rS(e:Nat→Nat){d:R}(f:d.bV.b8=ar):(d.iY e).t=e d.t:=by unfold R.iY;(refine bT (if_pos f) ?_;rfl)
def Oz(d:Bool)(h:Nat→Nat)(f:R)(g:List bl)(e:Kd):Ah d (f.iY h) g e=Ah d f g e:=by unfold R.iY;split<;>rfl
noncomputable def Ct.He(e:Nat→Nat)(d:Ct):Ct:={d with d1:=e d.d1,iz:=e d.iz,cP:=e d.cP}
def IO{d:Nat→Nat}{f e:Ct}(b:f.fI d=O e):e=f.He d:=by
 unfold Ct.fI at b
 split at b
 ·exact (dg b).symm
 ·exact cG b
def qW{d:Nat}{g:R}(f:a.a2[d]? =O (O g))(e:Ct):(e.He (c6 a.a2)).c4 (c6 a.a2 d)=e.c4 d:=by
 show (dY (c6 a.a2 e.d1≤c6 a.a2 d)&&dY (c6 a.a2 d<c6 a.a2 e.iz))=(dY (e.d1≤d)&&dY (d<e.iz))
 rw [decide_eq_decide.mpr (uX f),decide_eq_decide.mpr (JQ f)]
def uk{e:Nat}{i:R}{d f:Ct}(g:a.a2[e]? =O (O i))(h:d.fI (c6 a.a2)=O f):f.c4 (c6 a.a2 e)=d.c4 e:=IO h▸qW g d
def ya{e:Nat}{j:R}{d:Ct}(f:a.a2[e]? =O (O j))(i:d.c4 e=ar):d.fI (c6 a.a2)=O (d.He (c6 a.a2)):=
 eE i fun g h=>if_pos (kT ((uX f).mpr (of_decide_eq_true g)) (Hc f (of_decide_eq_true h)))
def HM{e:Nat}{k:R}(f:a.a2[e]? =O (O k)):∀(d:List Ct),(d.filterMap (Ct.fI (c6 a.a2))).find? (·.c4 (c6 a.a2 e))=(d.find? (·.c4 e)).map (Ct.He (c6 a.a2)):=by
 intro d
 induction d with
 |nil=>
  exact rfl
 |cons h d i=>
  (refine bT Ce ?_;rw [tT])
  cases g:h.c4 e with
  |true=>(refine bT (ya f g) ?_;rewrite [tT,qW f];refine bT g ?_);rfl
  |false=>
   refine gT (i) ?_
   cases j:h.fI (c6 a.a2) with
   |none=>rfl
   |some l=>(rewrite [tT];refine bT (uk f j) ?_;refine bT g ?_;rfl)
def uY{f:Nat}{n:R}{e:Ct}{g:Prop}(j:a.a2[f]? =O (O n))(k:e∈a.fI.f6)(l:e.c4 (c6 a.a2 f)=ar)(m:∀d,d∈a.f6→d.c4 f=ar→e=d.He (c6 a.a2)→g):g:=by
 obtain ⟨d,i,h⟩:=Gn.mp k
 exact m d i ((uk j h).symm.trans l) (IO h)
def Am(l:ed a b){e:Nat}(k:cx a e):∃d f,a.a2[d]? =O (O f)∧c6 a.a2 d=c6 a.a2 e∧cx a d∧b d=b e:=by
 refine bU fun g=>?_
 obtain ⟨d,f,h,i,j⟩:=x8 l _ (B8 _ e) k
 refine g ?_;try clear g
 exact ⟨d,f,i,(aae h).symm,j⟩
open Classical in
def w7(a:Nc)(b:Nat→Nat)(i:Nat):Nat:=if e:∃p r,a.a2[p]? =some (some r)∧c6 a.a2 p=i then b e.choose else 0
def yb{d:Nat}{i:R}(g:a.a2[d]? =O (O i)):w7 a b (c6 a.a2 d)=b d:=by
 have e:∃f h,a.a2[f]? =O (O h)∧c6 a.a2 f=c6 a.a2 d:=⟨d,i,g,rfl⟩
 unfold w7
 refine bT (dif_pos e) ?_
 obtain ⟨h,j,k⟩:=e.choose_spec
 (refine bT (Xi j g k) ?_;rfl)
def mI(i:ed a b){d:Nat}(h:cx a d):w7 a b (c6 a.a2 d)=b d:=by
 obtain ⟨j,l,f,g,k,e⟩:=Am i h
 (refine gT g ?_;refine bT (yb f) ?_;refine bT e ?_;rfl)
def vz(s:ed a b){p:Nat}(y:cx a.fI p):∃i j,a.a2[i]? =O (O j)∧c6 a.a2 i=p∧cx a i:=by
 have m:∀{o n},cx a o→c6 a.a2 o=n→∃i j,a.a2[i]? =O (O j)∧c6 a.a2 i=n∧cx a i:=fun {o n} u d=>
  have ⟨w,j,e,v,k,_⟩:=Am s u
  ⟨w,j,e,v.trans d,k⟩
 induction y with
 |dH r=>
  refine bU fun f=>?_
  obtain ⟨A,x,d⟩:=hJ.mp r
  refine f ?_;try clear f
  exact m (.dH x) d
 |lg _ d _=>exact absurd d (x9 _)
 |eK _ d g l=>
  refine bU fun f=>?_
  obtain ⟨i,j,e,rfl,k⟩:=l
  refine f ?_;try clear f
  rw [iK e] at d;cases d
  exact m (.eK k e (iL (c6 a.a2) j▸g)) (oY e)
 |cI _ d g l=>
  refine bU fun f=>?_
  obtain ⟨i,j,e,rfl,k⟩:=l
  refine f ?_;try clear f
  rw [iK e] at d;cases d
  have g:=iL (c6 a.a2) j▸g
  exact m (.cI k e g) (rS _ g).symm
 |dJ _ d q g l=>
  refine bU fun f=>?_
  obtain ⟨i,j,e,rfl,k⟩:=l
  refine f ?_;try clear f
  exact uY e q g fun z t g d=>d▸m (.dJ k e t g) rfl
def EZ(m:ed a b){g:Nat}(l:cx a g):cx a.fI (c6 a.a2 g):=by
 induction l with
 |dH k=>exact .dH (Cf k)
 |lg _ d e=>exact BA d▸e
 |@eK g h _ d f e=>exact oY d▸ .eK e (iK d) ((congrArg Op.dR (iL _ h)).trans f)
 |@cI g h _ d f e=>exact rS (c6 a.a2) f▸ .cI e (iK d) ((congrArg Op.b8 (iL _ h)).trans f)
 |@dJ g h i _ d j f e=>exact .dJ (c:=i.He (c6 a.a2)) e (iK d) (Gn.mpr ⟨i,j,ya d f⟩) ((qW d i).trans f)
noncomputable def Fu(e:Nat→Nat):Sum (List bl) ek→Sum (List bl) ek
 |.inl f=>.inl f
 |.inr d=>.inr {d with pc:=e d.pc}
def HN{i:Bool}{e:Nat}{g:R}{d:ek}{h:Sum (List bl) ek}(k:a.a2[e]? =O (O g))(p:eT a.f6 i e g d=O h)(l:Nat):
  eT a.fI.f6 i (c6 a.a2 e) (g.iY (c6 a.a2)) {d with pc:=l}=O (Fu (c6 a.a2) h):=
 fV (d:=fun h=>eT a.fI.f6 i (c6 a.a2 e) (g.iY (c6 a.a2)) {d with pc:=l}=O (Fu (c6 a.a2) h)) p fun s m=>by
  show (Ah i (g.iY (c6 a.a2)) d.jm d.fU).map _=_
  (rewrite [Oz];refine bT m ?_)
  refine congrArg O ?_
  have o:=xt m
  induction s with
  |cc j r n=>exact congrArg (fun f=>G1 (ek.mk f j r (G7 d.en n))) (oY k).symm
  |cI j q=>induction q with
   |true=>exact congrArg (fun f=>G1 (ek.mk f j d.fU d.en)) (rS _ o.1)
   |false=>exact congrArg (fun f=>G1 (ek.mk f j d.fU d.en)) (oY k).symm
  |gG n=>rfl
  |gz=>
   refine (congrArg (zy d.en d.jm d.fU) (HM k a.f6)).trans ?_
   show _=Fu _ (zy d.en d.jm d.fU (a.f6.find? (·.c4 e)))
   cases a.f6.find? (·.c4 e)<;>rfl
def E0(g:ed a b):ed a.fI (w7 a b):=by
 refine ⟨fun q t=>?_,fun n i=>?_,fun n w f=>absurd f (x9 n),fun n x i f=>?_⟩
 ·refine bU fun h=>?_
  obtain ⟨u,s,rfl⟩:=hJ.mp t
  refine h ?_;try clear h
  exact (mI g (.dH s)).trans (g.dH u s)
 ·refine bU fun h=>?_
  obtain ⟨q,r,e,rfl,_⟩:=vz g i
  refine h ?_;try clear h
  exact gC (iK e)
 ·refine bU fun h=>?_
  obtain ⟨q,r,e,rfl,m⟩:=vz g i
  refine h ?_;try clear h
  rw [iK e] at f;cases f
  have j:=g.dh q r m e
  have k:=yb (b:=b) e
  refine ⟨by (rewrite [iL];refine bT k ?_);exact j.c0,fun d=>?_,fun d=>?_,fun v o d=>uY e o d fun p l d f=>?_,fun i v o d=>uY e o d fun p l d f=>?_⟩
  ·rw [iL] at d⊢
   (refine gT (oY e) ?_;refine bT (mI g (.eK m e d)) ?_;refine bT k ?_);exact j.eK d
  ·rw [iL] at d⊢
   (refine bT (rS _ d) ?_;refine bT (mI g (.cI m e d)) ?_;refine bT k ?_);exact j.cI d
  ·exact f▸(mI g (.dJ m e l d)).trans (j.dJ p l d)
  ·rw [iL] at i
   exact k▸f▸j.gz i p l d
def JR{i:Bool}:Q7 a a.fI i fun d f=>f={d with pc:=c6 a.a2 d.pc} where
 en b:=by (refine bT b ?_;rfl)
 lg {d f} b e:=⟨f.pc,.cy _,by (refine bT b ?_;refine bT (BA e) ?_;rfl)⟩
 dh {d f m h} b e j:=by
  subst b
  have g:=HN e j (c6 a.a2 d.pc)
  induction h with
  |inl l=>exact .gG (.cy _) (iK e) g
  |inr k=>exact .ea (.cy _) (iK e) g (.cy _) rfl
def OA(p:ed a b)(t:fm a c):ed a.fI (w7 a b)∧fm a.fI c∧fH a a.fI:=by
 have f:=E0 p
 have h:fm a.fI c:=fun g z m=>by
  obtain ⟨d,j,e,_,u⟩:=rn m
  exact dg u▸(Rm _ j c).trans (t d j e)
 refine ⟨f,h,(et ..).symm,fun g d s e q y x k v l o=>?_⟩
 obtain rfl:c6 a.a2 d=s:=dg ((show (a.cp.map (c6 a.a2))[g]? =O (c6 a.a2 d) by (rewrite [i4];refine bT e ?_);rfl).symm.trans q)
 have i:c6 a.a2 d∈a.fI.cp:=Cf (gj e)
 exact IL JR k (dX k) rfl (fun n=>xw f h n ⟨.dH i,(f.dH _ i).symm,(fun w r=>absurd r gD),l⟩) o
end
structure Cd where
 a2:List R
 b6:List Ct
 cp:List Nat
noncomputable def Cd.nc(a:Cd):Nc:=⟨a.a2.map O,a.b6,a.cp⟩
def Cd.c2(a:Cd)(b:Nat):Bool:=a.a2.any (fun c=>c.bV.b8&&c.t==b)||a.b6.any (fun d=>d.cP==b)||a.cp.contains b
def Cd.cX(b:Cd)(a:List (Option R)):Cd:=⟨(a.filterMap id).map (R.iY (c6 a)),b.b6.filterMap (Ct.fI (c6 a)),b.cp.map (c6 a)⟩
noncomputable def Cd.j3(a:Cd)(b:List (Option R)):Nc:=⟨b,a.b6,a.cp⟩
noncomputable abbrev cb:=List (Option R)
noncomputable def fb(d:cb)(a:Nat)(b c:Option R):cb:=(d.set a b).set (a+1) c
noncomputable def sv(d:cb)(a:Nat)(e c b:Option R):cb:=((d.set a e).set (a+1) c).set (a+2) b
def j4(c:Cd)(a:cb)(b:Nat)(d:R→R→Option cb):cb:=match a[b]?.join,a[b+1]?.join with
 |some f,O e=>if c.c2 (b+1) then a else (d f e).getD a
 |_,_=>a
def gM(c:Cd)(b:cb)(a:Nat):cb:=j4 c b a fun e d=>if e.bV.i6&&d.bV== .gA then O (fb b a b1 b1) else b1
def gN(d:Cd)(b:cb)(a:Nat):cb:=j4 d b a fun c e=>if e.bV== .dt then (if c.bV== .dt then O (fb b a b1 b1) else if c.bV== .kq then O (fb b a (O c) b1) else b1) else b1
def gO(e:Cd)(c:cb)(b:Nat):cb:=j4 e c b fun a d=>if a.bV.cg&&d.bV== .cI&&a.t==b+2 then O (fb c b (O (.cE a.bV.fN d.t a.e6)) b1) else b1
def fv(f:Cd)(d:cb)(b:Nat):cb:=j4 f d b fun e a=>if e.bV== .d0 then
 (if a.bV.cg then O (fb d b b1 (if a.bV.eM (dI e.a) then O (.cE .cI a.t a.e6) else b1))
  else if a.bV== .cI then (match f.a2[a.t]? with
   |some c=>if c.bV.cg then O (fb d b b1 (O {a with t:=if c.bV.eM (dI e.a) then c.t else a.t+1})) else b1
   |none=>b1) else b1) else b1
def fW(c:Cd)(b:cb)(a:Nat):cb:=match b[a]?.join,b[a+1]?.join,b[a+2]?.join with
 |some f,O d,O e=>if f.bV== .kq&&d.bV.fQ&&e.bV== .gA&& !c.c2 (a+1)&& !c.c2 (a+2) then sv b a b1 (O d) b1 else b
 |_,_,_=>b
noncomputable def dk(a:Cd)(b:Cd→cb→Nat→cb)(c:Nat):cb:=(f5 c).foldl (b a) (a.a2.map O)
def eX(a:Cd):Cd:=a.cX (dk a gM (a.a2.length-1))
def fZ(a:Cd):Cd:=a.cX (dk a gN (a.a2.length-1))
def fq(a:Cd):Cd:=a.cX (dk a gO (a.a2.length-1))
def fE(a:Cd):Cd:=a.cX (dk a fv (a.a2.length-1))
def ff(a:Cd):Cd:=a.cX (dk a fW (a.a2.length-2))
def d5(b:Nat)(a:R):Option R:=if a.bV.b8&&a.t==b+1 then i7 a else O a
def dM(a:Cd):Cd:=a.cX (a.a2.mapIdx d5)
noncomputable def mJ(b:List R)(c:Nat):Nat→Nat→Nat
 | 0,_=>c
 |e+1,a=>match b[a]? with
  |some d=>if d.bV=.cI then mJ b c e d.t else a
  |none=>a
def mr(a:List R)(b:Nat):Nat:=mJ a b a.length b
def gP(a:List R)(b:Nat):Bool:=match a[b]? with
 |some c=>c.bV== .ew
 |none=>b2
def dE(b:List R)(a:R):R:=if a.bV.b8 then (if a.bV== .cI&&gP b (mr b a.t) then .cE .ew 0 a.e6 else {a with t:=mr b a.t}) else a
def ep(a:Cd):Cd:=a.cX ((a.a2.map (dE a.a2)).map O)
def gB{d:Type}{g:d→Nat→d}{c:Nat→d→Prop}{i:d}:∀{a:Nat},c 0 i→(∀b e,b<a→c b e→c (b+1) (g e b))→c a ((f5 a).foldl g i):=by
 intro a
 induction a with
 |zero=>
  intro f _
  exact f
 |succ a j=>
  intro f h
  (refine bT vT ?_;refine bT tR ?_)
  exact h a _ (h9 a) (j f fun b e k=>h b e (qA k))
def gk(a:Cd)(b:Bool):Prop:=(∃c,ed a.nc c)∧(fm a.nc b)
section
variable{a:Cd}{c:Bool}(b:gk a c)
include b
def gk.gK:∃d,ed a.nc d:=b.1
def gk.cF:fm a.nc c:=b.2
end
def qn(c a:Cd)(b:Bool):Prop:=gk a b∧fH c.nc a.nc
section
variable{a:Cd}{b:Bool}
def gq(a:Cd)(b:Bool)(i:Nat)(d:cb):Prop:=(∃h,ed (a.j3 d) h)∧(fm (a.j3 d) b)∧(fH a.nc (a.j3 d))∧(d.length=a.a2.length)∧(∀(g:Nat)(c:R),d[g]? =O (O c)→c.bV.b8=ar→a.c2 c.t=ar∨∃e,a.a2[c.t-1]? =O e∧e.bV.cg=ar∧a.c2 (c.t-1)=ar∧1≤c.t)∧(∀(f:Nat)(e:R),a.a2[f]? =O e→e.bV.cg=ar→a.c2 f=ar→d[f]? =O (O e)∨∃c,d[f]? =O (O c)∧c.bV.cg=ar)
section
variable{c:Cd}{f:Bool}{g:Nat}{d:cb}(e:gq c f g d)
include e
def gq.gK:∃a,ed (c.j3 d) a:=e.1
def gq.cF:fm (c.j3 d) f:=e.2.1
def gq.w3:fH c.nc (c.j3 d):=e.2.2.1
def gq.cC:d.length=c.a2.length:=e.2.2.2.1
def gq.iV:∀(h:Nat)(a:R),d[h]? =O (O a)→a.bV.b8=ar→c.c2 a.t=ar∨∃b,c.a2[a.t-1]? =O b∧b.bV.cg=ar∧c.c2 (a.t-1)=ar∧1≤a.t:=e.2.2.2.2.1
def gq.cR:∀(a:Nat)(b:R),c.a2[a]? =O b→b.bV.cg=ar→c.c2 a=ar→d[a]? =O (O b)∨∃h,d[a]? =O (O h)∧h.bV.cg=ar:=e.2.2.2.2.2
end
def lK{f:Nat}{c:R}(d:a.a2[f]? =O c)(e:c.bV.b8=ar):a.c2 c.t=ar:=
 nR.mpr (.inl (nR.mpr (.inl (tS.mpr ⟨c,gj d,iX.mpr ⟨e,beq_self_eq_true _⟩⟩))))
def dF{d:Nat}{e:R}:a.nc.a2[d]? =O (O e)↔a.a2[d]? =O e:=by
 show (a.a2.map O)[d]? =_↔_
 rw [i4]
 cases a.a2[d]? with
 |none=>exact ⟨fun c=>cG c,fun c=>cG c⟩
 |some f=>exact ⟨fun c=>congrArg O (dg (dg c)),fun c=>congrArg O c⟩
def sY(c:Nat):a.nc.a2[c]? ≠O b1:=by
 show (a.a2.map O)[c]? ≠_
 rw [i4]
 cases a.a2[c]? <;>exact fun d=>nomatch d
def oL(d:gk a b):gq a b 0 (a.a2.map O):=⟨
 d.gK,
 d.cF,
 fH.cy _,
 et ..,
 (fun f i c e=>.inl (lK (dF.mp c) e)),
 (fun g h c e j=>.inl (dF.mpr c))⟩
def lL{d:cb}{c:Nat}{e:R}(h:d[c]?.join=O e):d[c]? =O (O e):=lf h fun i f g=>f.trans (congrArg O g)
def DM{c d:Bool}(e:(c||d)=b2):c=b2∧d=b2:=Ga.mp e
def Xj{c:Type}{f:List c}{e:c→Bool}(j:f.any e=b2){d:c}(h:d∈f)(i:e d=ar){g:Prop}:g:=dy (j.symm.trans (tS.mpr ⟨d,h,i⟩))
def gq.mK{m:Nat}{i:cb}(o:gq a b m i){d:Nat}{j e:R}{k:Prop}(f:i[d]? =O (O j))(g:j.bV.cg=b2)(l:a.a2[d]? =O e)(h:e.bV.cg=ar)(p:a.c2 d=ar):k:=by
 refine (o.cR d e l h p).elim (fun c=>?_) fun ⟨q,c,n⟩=>?_
 ·rw [f] at c;cases c;exact dy (g.symm.trans h)
 ·rw [f] at c;cases c;exact dy (g.symm.trans n)
def ul(a:Cd)(d:cb):Prop:=∀(e:Nat)(c:R),d[e]? =O (O c)→c.bV.b8=ar→a.c2 c.t=ar
def oZ{r:Nat}{e:cb}(m:gq a b r e){d:Nat}{o:R}(u:e[d]? =O (O o))(g:o.bV.cg=b2∨ul a e)(n:a.c2 (d+1)=b2):l6 (a.j3 e) (d+1):=by
 have p:∀{k:Nat},a.c2 k=ar→k≠d+1:=fun w c=>dy (n.symm.trans (c▸w))
 obtain ⟨v,f⟩:=DM n
 refine ⟨fun c=>dy (f.symm.trans (rb.mpr c)),fun q l h i=>(m.iV q l h i).elim p fun ⟨z,j,x,f,y⟩=>g.elim (fun g c=>?_) fun t=>p (t q l h i),fun a s c=>Xj (DM v).2 s (beq_iff_eq.mpr c)⟩
 rw [c] at j f
 exact m.mK u g j x f
end
section
variable{a:Cd}{b:Bool}
def nx(a:Cd)(c:Nat):Prop:=a.c2 c=ar∨∃d,a.a2[c-1]? =O d∧d.bV.cg=ar∧a.c2 (c-1)=ar∧1≤c
def gq.gi{d:Nat}{c:cb}(e:gq a b d c):gq a b (d+1) c:={e with}
def uZ{e:cb}{c d:Nat}(f h:Option R)(g:d<c∨c+2≤d):(fb e c f h)[d]? =e[d]? :=(hO (c:=⟨e.set c f,[],[]⟩) (oK g (fM c) (h9 _))).trans (hO (c:=⟨e,[],[]⟩) (oK g (dX c) (qA (h9 c))))
def JS{f:cb}{c d:Nat}(g e i:Option R)(h:d<c∨c+3≤d):(sv f c g e i)[d]? =f[d]? :=(hO (c:=⟨fb f c g e,[],[]⟩) (oK h (fg c 2) (h9 _))).trans (uZ g e (h.imp id lC))
def tA(c:cb)(f:Nat)(d e:Option R):(fb c f d e).length=c.length:=m9.trans m9
def mL{e:cb}{d c:Nat}{p o:R}{h g:Option R}{f:Nat→Option (Option R)→Prop}(j:e[d]? =O (O p))(l:e[d+1]? =O (O o))(n:∀{c},c<d∨d+2≤c→f c e[c]?)(m:f d (O h))(k:f (d+1) (O g)):f c (fb e d h g)[c]? :=
 (oH d 2 c).elim (fun i=>(congrArg (f c) (uZ h g i)).mpr (n i)) fun i=>Ak (b:=fun c=>f c (fb e d h g)[c]?) i.1 i.2 ((oI (c:=⟨e,[],[]⟩) h g (gC (c:=⟨e,[],[]⟩) j)).symm▸m) ((oJ (c:=⟨e,[],[]⟩) h g (gC (c:=⟨e,[],[]⟩) l)).symm▸k)
def gq.CK{d:Nat}{e:cb}{c C:R}{k m:Option R}(g:gq a b d e)(l:e[d]? =O (O c))(q:e[d+1]? =O (O C))(x:a.c2 (d+1)=b2)(o:su (a.j3 e) (a.j3 (fb e d k m)) b)
  (w:∀c,k=O c→c.bV.b8=ar→nx a c.t) (r:∀c,m=O c→c.bV.b8=ar→nx a c.t) (v:c.bV.cg=b2∨∃c,k=O c∧c.bV.cg=ar):gq a b (d+1) (fb e d k m):=⟨
 o.1,
 o.2.1,
 g.w3.ci o.2.2,
 (tA ..).trans g.cC,
 (fun p c=>mL (f:=fun p j=>j=O (O c)→c.bV.b8=ar→nx a c.t) l q (fun {p} _=>g.iV p c) (fun h=>w c (dg h)) fun h=>r c (dg h)),
 (fun f i=>mL (f:=fun f j=>a.a2[f]? =O i→i.bV.cg=ar→a.c2 f=ar→j=O (O i)∨∃c,j=O (O c)∧c.bV.cg=ar) l q (fun {f} _=>g.cR f i) (fun s t n=>v.elim (fun h=>g.mK l h s t n) fun y=>by obtain ⟨c,z,A⟩:=y;exact .inr ⟨c,congrArg O z,A⟩) fun u u n=>dy (x.symm.trans n))⟩
set_option tactic.hygienic true in
def oM{g:cb}{e:Nat}{i:R→R→Option cb}{h:cb→Prop}(j:h g)(n:∀d c f,g[e]? =some (some d)→g[e+1]? =some (some c)→a.c2 (e+1)=false→i d c=some f→h f):h (j4 a g e i):=by
 unfold j4
 split
 ·rename_i d c l m
  split
  ·exact j
  ·rename_i k
   cases o:i d c with
   |none=>exact j
   |some f=>exact n d c f (lL l) (lL m) (Bool.eq_false_iff.mpr k) o
 ·exact j
def v0{f:Type}{a:Prop}[Decidable a]{h g:Option f}{e:f}{c:Prop}(d:(if a then h else g)=O e)(i:a→h=O e→c)(j:¬a→g=O e→c):c:=by
 split at d
 ·exact i ‹_› d
 ·exact j ‹_› d
def jR{d:Type}{a:Prop}[Decidable a]{f:Option d}{e:d}{c:Prop}(h:(if a then f else b1)=O e)(g:a→f=O e→c):c:=v0 h g fun i=>cG
def o0:∀c,(b1:Option R)=O c→c.bV.b8=ar→nx a c.t:=fun e d=>cG d
def DN{c:R}(f:c.bV.i6=ar):c.bV.cg=b2:=by
 refine bU fun d=>?_
 obtain ⟨e,h,j,g,k,i⟩:=c
 refine d ?_;try clear d
 induction e<;>first|rfl|exact f.symm
def OB{c:R}(e:c.bV.fQ=ar):c.bV.cg=b2:=xy (a:=fun d=>d.cg=b2) e rfl rfl rfl rfl
def qX(m:gk a b)(h:Nat):gq a b h (dk a gM h):=
 gB (c:=gq a b) (oL m) fun f p r c=>oM (h:=gq a b (f+1)) c.gi fun q u s d g i o=>jR o fun j n=>eE j fun e k=>dT (a:=gq a b (f+1)) n (c.gK.elim fun t l=>c.CK d g i (JK l c.cF d g e (dr k) (oZ c d (.inl (DN e)) i)) o0 o0 (.inl (DN e)))
def CL{c:R}{d:Op}(a:c.bV=d)(e:d.cg=b2):c.bV.cg=b2:=a▸e
def sF(p:gk a b)(n:Nat):gq a b n (dk a gN n):=
 gB (c:=gq a b) (oL p) fun k s u c=>oM (h:=gq a b (k+1)) c.gi fun t x v d i j h=>jR h fun l h=>c.gK.elim fun w m=>v0 h
  (fun e g=>dT (a:=gq a b (k+1)) g (have f:=CL (dr e) rfl;c.CK d i j (Ov m c.cF d i (dr e) (dr l) (oZ c d (.inl f) j)) o0 o0 (.inl f)))
  fun q h=>jR h fun e g=>dT (a:=gq a b (k+1)) g (have f:=CL (dr e) rfl;c.CK d i j (HL m c.cF d i (dr e) (dr l) (oZ c d (.inl f) j)) (fun r g o=>dy ((congrArg Op.b8 (dr e)).symm.trans (dg g▸o))) o0 (.inl f))
def E1:ul a (a.a2.map O):=fun f e c d=>lK (dF.mp c) d
def qY(y:gk a b)(m:Nat):gq a b m (dk a gO m)∧ul a (dk a gO m):=
 gB (c:=fun h c=>gq a b h c∧ul a c) ⟨oL y,E1⟩ fun h c F ⟨f,i⟩=>oM (h:=fun c=>gq a b (h+1) c∧ul a c) ⟨f.gi,i⟩ fun e s G j k q z=>jR z fun l d=>eE l fun l x=>eE l fun p o=>dT (a:=fun c=>gq a b (h+1) c∧ul a c) d (by
  have r:a.c2 s.t=ar:=i _ _ k (by refine bT (dr o) ?_;rfl)
  have t:(R.cE e.bV.fN s.t e.e6).bV.cg=ar:=lU (a:=fun w=>w.fN.cg=ar) p rfl rfl
  refine f.gK.elim fun I u=>⟨f.CK j k q (JM u f.cF j k p (dr o) (dr x) (oZ f j (.inr i) q)) (fun g d A=>dT (a:=fun e:R=>nx a e.t) d (.inl r)) o0 (.inr ⟨_,rfl,t⟩),fun n g=>?_⟩
  exact mL (f:=fun n v=>v=O (O g)→g.bV.b8=ar→a.c2 g.t=ar) j k (fun {n} _=>i n g) (fun d C=>dT (a:=fun e:R=>a.c2 e.t=ar) (dg d) r) fun d=>cG (dg d))
def VE(a:Cd)(e:cb):Prop:=∀(d:Nat)(c:R),a.a2[d]? =O c→c.bV.cg=ar→a.c2 d=ar→e[d]? =O (O c)
def An(a:Cd)(b:Bool)(e:Nat)(d:cb):Prop:=gq a b e d∧VE a d∧∀c,e<c→d[c]? =(a.a2.map O)[c]?
def Ao{c:Nat}{d:cb}{e s:R}{i:Option R}(K:An a b c d)(h:d[c]? =O (O e))(k:d[c+1]? =O (O s))(m:a.c2 (c+1)=b2)(n:e.bV.cg=b2)(u:su (a.j3 d) (a.j3 (fb d c b1 i)) b)(o:∀e,i=O e→e.bV.b8=ar→nx a e.t):An a b (c+1) (fb d c b1 i):=
 ⟨K.1.CK h k m u o0 o (.inl n),fun f g=>mL (f:=fun f t=>a.a2[f]? =O g→g.bV.cg=ar→a.c2 f=ar→t=O (O g)) h k (fun {f} _=>K.2.1 f g) (fun p q j=>K.1.mK h n p q j) (fun r r j=>dy (m.symm.trans j)),fun v l=>(uZ _ _ (.inr l)).trans (K.2.2 v (q8 l))⟩
def ro(C:gk a b)(k:Nat):gq a b k (dk a fv k)∧VE a (dk a fv k)∧∀f,k<f→(dk a fv k)[f]? =(a.a2.map O)[f]? :=
 gB (c:=An a b) ⟨oL C,(fun F u y e e=>dF.mpr y),fun f e=>rfl⟩ fun l G I K=>oM (h:=An a b (l+1)) ⟨K.1.gi,K.2.1,fun f z=>K.2.2 f (q8 z)⟩ fun n o L h i q c=>jR c fun j c=>K.1.gK.elim fun P v=>by
  have j:=dr j
  have x:a.a2[l+1]? =O o:=dF.mp ((K.2.2 (l+1) (h9 l)).symm.trans i)
  have r:=CL j rfl
  have t:=oZ K.1 h (.inl r) q
  refine v0 c (fun s d=>dT d (Ao K h i q r (Ow v K.1.cF h i j s t) fun A d e=>jR d fun e d=>dT (a:=fun n:R=>nx a n.t) d (.inl (show a.c2 o.t=ar from lK x (rm s))))) fun e c=>jR c fun m c=>?_
  have m:=dr m
  have w:a.c2 o.t=ar:=lK x (by refine bT m ?_;rfl)
  cases g:a.a2[o.t]? with
  |none=>rw [g] at c;exact cG c
  |some u=>
   rw [g] at c
   refine jR c fun p d=>dT d (Ao K h i q r (JN v K.1.cF h i (K.2.1 _ _ g p w) j m p t) fun A d e=>dT (a:=fun n:R=>nx a n.t) d ?_)
   show nx a (if _ then _ else _)
   split
   ·exact .inl (lK g (rm p))
   ·exact .inr ⟨u,g,p,w,iF (fy _)⟩
def sG(d:gk a b)(c:Nat):gq a b c (dk a fv c):=(ro d c).1
def rp{d:cb}{e c:Nat}{s r q:R}{i g h:Option R}{f:Nat→Option (Option R)→Prop}(k:d[e]? =O (O s))(m:d[e+1]? =O (O r))(t:d[e+2]? =O (O q))(p:∀{c},c<e∨e+3≤c→f c d[c]?)(o:f e (O i))(l:f (e+1) (O g))(n:f (e+2) (O h)):f c (sv d e i g h)[c]? :=
 (oH e 3 c).elim (fun j=>(congrArg (f c) (JS i g h j)).mpr (p j)) fun j=>DH (b:=fun c=>f c (sv d e i g h)[c]?) j.1 j.2 ((Al (c:=⟨d,[],[]⟩) i g h (gC (c:=⟨d,[],[]⟩) k)).symm▸o) ((Nv (c:=⟨d,[],[]⟩) i g h (gC (c:=⟨d,[],[]⟩) m)).symm▸l) ((Nw (c:=⟨d,[],[]⟩) i g h (gC (c:=⟨d,[],[]⟩) t)).symm▸n)
def DO{c:Bool}(d:(!c)=ar):c=b2:=by induction c<;>first|rfl|exact dy d
set_option tactic.hygienic true in
def w8{e:cb}{c:Nat}{j:cb→Prop}(h:j e)(p:∀i f g,e[c]? =some (some i)→e[c+1]? =some (some f)→e[c+2]? =some (some g)→i.bV=.kq→f.bV.fQ=true→g.bV=.gA→a.c2 (c+1)=false→a.c2 (c+2)=false→j (sv e c none (some f) none)):j (fW a e c):=by
 unfold fW
 split
 ·rename_i i f g k o q
  split
  ·rename_i d
   exact eE d fun d r=>eE d fun d l=>eE d fun d n=>eE d fun h m=>p i f g (lL k) (lL o) (lL q) (eq_of_beq h) m (eq_of_beq n) (DO l) (DO r)
  ·exact h
 ·exact h
def qZ(y:gk a b)(e:Nat):gq a b e (dk a fW e):=
 gB (c:=gq a b) (oL y) fun u A C c=>w8 (j:=gq a b (u+1)) c.gi fun d G z g h l n q x s r=>c.gK.elim fun F w=>
  have o:=JO w c.cF g h l n q x (oZ c g (.inl (CL n rfl)) s) (oZ c h (.inl (OB q)) r)
  ⟨
   o.1,
   o.2.1,
   c.w3.ci o.2.2,
   (m9.trans (tA ..)).trans c.cC,
   (fun p d=>rp (f:=fun p k=>k=O (O d)→d.bV.b8=ar→nx a d.t) g h l (fun {p} _=>c.iV p d) (fun i=>cG (dg i)) (fun i=>c.iV _ d (h.trans i)) fun i=>cG (dg i)),
   (fun f j=>rp (f:=fun f k=>a.a2[f]? =O j→j.bV.cg=ar→a.c2 f=ar→k=O (O j)∨∃d,k=O (O d)∧d.bV.cg=ar) g h l (fun {f} _=>c.cR f j) (fun t v e=>c.mK g (CL n rfl) t v e) (fun m m e=>dy (s.symm.trans e)) fun m m e=>dy (r.symm.trans e))⟩
end
section
variable{a:Cd}{b:Bool}
def pp{c:cb}(i:∃d,ed (a.j3 c) d)(f:fm (a.j3 c) b)(g:fH a.nc (a.j3 c)):qn a (a.cX c) b:=by
 obtain ⟨d,h⟩:=i
 obtain ⟨k,e,j⟩:=OA h f
 exact ⟨⟨⟨_,k⟩,e⟩,g.ci j⟩
def gq.fU{e:Nat}{d:cb}(c:gq a b e d):qn a (a.cX d) b:=pp c.gK c.cF c.w3
def nX(c:gk a b):qn a (eX a) b:=(qX c _).fU
def yc(c:gk a b):qn a (fZ a) b:=(sF c _).fU
def q0(c:gk a b):qn a (ff a) b:=(qZ c _).fU
def nY(c:gk a b):qn a (fq a) b:=(qY c _).1.fU
def pq(c:gk a b):qn a (fE a) b:=(sG c _).fU
noncomputable def gQ(a:Cd)(e:Nat→R→Option R)(f:Nat):cb:=a.a2.mapIdx fun c d=>if c<f then e c d else O d
def mM(d:Nat→R→Option R)(f c:Nat):(gQ a d f)[c]? =(a.a2[c]?).map fun e=>if c<f then d c e else O e:=wa
def yR(c:Nat→R→Option R):gQ a c 0=a.a2.map O:=vQ fun d=>(mM c 0 d).trans i4.symm
def z2(c:Nat→R→Option R):gQ a c a.a2.length=a.a2.mapIdx c:=vQ fun e=>by
 rw [mM,wa]
 cases d:a.a2[e]? with
 |none=>rfl
 |some f=>exact congrArg O (if_pos (fJ.mp d).1)
def yS(d:Nat→R→Option R){c:Nat}{e:R}(h:a.a2[c]? =O e):gQ a d (c+1)=(gQ a d c).set c (d c e):=vQ fun i=>by
 rw [mM,Mb]
 by_cases f:c=i
 ·subst f
  (refine bT (if_pos rfl) ?_;refine bT h ?_;rw [if_pos (show c<(gQ a d c).length from (pj (f:=fun g e=>if g<c then d g e else O e)).symm▸(fJ.mp h).1)])
  exact congrArg O (if_pos (h9 c))
 ·(refine bT (if_neg f) ?_;rw [mM])
  cases a.a2[i]? with
  |none=>rfl
  |some l=>exact congrArg O (ite_congr (propext ⟨fun k=>y5 (qk k) (Cv f),qA⟩) (fun j=>rfl) fun j=>rfl)
def yT(f:Nat→R→Option R){c:Nat}{d:R}(e:a.a2[c]? =O d):(gQ a f c)[c]? =O (O d):=by
 unfold gQ
 (rewrite [wa];refine bT e ?_)
 exact congrArg O (if_neg (B9 c))
def NA{d:Type}{c:List d}{e:Nat}{f:d}(g:c[e]? =O f):c.set e f=c:=by
 obtain ⟨h,rfl⟩:=fJ.mp g
 exact T2 h
def pr(p:gk a b):qn a (dM a) b:=by
 have t:∀c,c≤a.a2.length→(∃i,ed (a.j3 (gQ a d5 c)) i)∧fm (a.j3 (gQ a d5 c)) b∧fH a.nc (a.j3 (gQ a d5 c)):=fun c=>by
  induction c with
  |zero=>intro _;rw [yR];exact ⟨p.gK,p.cF,fH.cy _⟩
  |succ c q=>
   intro o
   refine bU fun d=>?_
   obtain ⟨⟨i,n⟩,l,m⟩:=q (lC o)
   refine d ?_;try clear d
   have j:a.a2[c]? =O a.a2[c] :=gS o
   have k:=yT d5 j
   refine bT (yS d5 j) ?_
   generalize f:d5 c a.a2[c] =v
   unfold d5 at f
   split at f
   ·rename_i r
    refine bU fun d=>?_
    obtain ⟨e,g,h⟩:=eE r fun s u=>Ox (d:=a.j3 (gQ a d5 c)) n l k s (dr u)
    refine d ?_;try clear d
    exact f▸⟨e,g,m.ci h⟩
   ·(refine gT f ?_;refine bT (NA k) ?_)
    exact ⟨⟨i,n⟩,l,m⟩
 refine bU fun d=>?_
 obtain ⟨e,g,h⟩:=t a.a2.length (dX _)
 refine d ?_;try clear d
 rw [z2] at e g h
 exact pp e g h
set_option tactic.hygienic true in
def E2(e:Nat):∀(d c:Nat),lm a.nc e c→lm a.nc e (mJ a.a2 e d c):=by
 intro d
 induction d with
 |zero=>
  intro c _
  exact .cy _
 |succ d g=>
  intro c f
  unfold mJ
  split
  ·rename_i j i
   split
   ·rename_i h
    exact g j.t (f.ci (.ea (dF.mpr i) h (.cy _)))
   ·exact f
  ·exact f
def Ap(c:Nat):lm a.nc c (mr a.a2 c):=E2 c _ _ (.cy _)
def Rn{c:List R}{d:R→R}:((c.map d).map O).length=(c.map O).length:=(et ..).trans ((et ..).trans (et ..).symm)
set_option tactic.hygienic true in
def Ro(e:R):VA a.nc e (dE a.a2 e):=by
 unfold dE
 split
 ·rename_i d
  split
  ·rename_i g
   refine eE g fun h c=>?_
   unfold gP at c
   split at c
   ·rename_i i f
    exact .ew (eq_of_beq h) (Ap _) (dF.mpr f) (eq_of_beq c)
   ·exact Bool.noConfusion c
  ·exact .to d (Ap _)
 ·rename_i d
  exact .je (Bool.eq_false_iff.mpr d)
def lH(c:gk a b):qn a (ep a) b:=by
 obtain ⟨i,j⟩:=c.gK
 obtain ⟨d,e,h⟩:=JP (a:=a.nc) (b:=a.j3 ((a.a2.map (dE a.a2)).map O)) j c.cF Rn rfl rfl sY fun g k f=>⟨_,(show ((a.a2.map (dE a.a2)).map O)[g]? =_ by (rewrite [i4,i4];refine bT (dF.mp f) ?_);rfl),Ro k⟩
 exact pp ⟨i,d⟩ e h
open Classical in
def eY(a:Cd)(p:Nat)(r:R):Option R:=if cx a.nc p then some r else none
def dO(a:Cd):Cd:=a.cX (a.a2.mapIdx (eY a))
def m2{c:Nat}:(a.a2.mapIdx (eY a))[c]? =(a.a2[c]?).map (eY a c):=wa
def JT(h:gk a b){e:Nat→Nat}(i:ed a.nc e):ed (a.j3 (a.a2.mapIdx (eY a))) e∧fm (a.j3 (a.a2.mapIdx (eY a))) b∧fH a.nc (a.j3 (a.a2.mapIdx (eY a)))∧∀c,cx (a.j3 (a.a2.mapIdx (eY a))) c↔cx a.nc c:=by
 refine Rk i h.cF (pj.trans (et ..).symm) rfl rfl (fun c d=>?_) (fun c d f=>?_)
 ·show (a.a2.mapIdx (eY a))[c]? =(a.a2.map O)[c]?
  (refine bT m2 ?_;rw [i4])
  cases a.a2[c]? with
  |none=>rfl
  |some f=>exact congrArg O (if_pos d)
 ·show (a.a2.mapIdx (eY a))[c]? ≠_
  refine bT m2 ?_
  cases a.a2[c]? with
  |none=>exact cG
  |some f=>exact fun g=>cG ((if_neg d).symm.trans (dg g))
def rq(i:gk a b):qn a (dO a) b∧∀d,d<(dO a).a2.length→cx (dO a).nc d:=by
 refine bU fun c=>?_
 obtain ⟨n,o⟩:=i.gK
 obtain ⟨h,k,m,j⟩:=JT i o
 refine c ?_;try clear c
 refine ⟨pp ⟨n,h⟩ k m,fun d p=>?_⟩
 have l:(dO a).nc.a2[d]? =O (O (dO a).a2[d]):=dF.mpr (gS p)
 refine bU fun c=>?_
 obtain ⟨g,q,e,rfl,r⟩:=rn (a:=a.j3 (a.a2.mapIdx (eY a))) l
 refine c ?_;try clear c
 refine EZ h ((j g).mpr ?_)
 have e:(a.a2.mapIdx (eY a))[g]? =O (O q):=e
 rw [m2] at e
 refine bU fun c=>?_
 obtain ⟨s,_,f⟩:=tm.mp e
 refine c ?_;try clear c
 unfold eY at f
 split at f
 ·assumption
 ·exact cG f
def ig(a:Cd):Cd:=fZ (ff (eX (dO (dM (fq (fE (ep a)))))))
def qn.ci{f c d:Cd}(g:qn f c b)(e:qn c d b):qn f d b:=⟨e.1,g.2.ci e.2⟩
def HO(j:gk a b):qn a (ig a) b:=by
 have d:=lH j
 have e:=pq d.1
 have i:=nY e.1
 have g:=pr i.1
 have f:=(rq g.1).1
 have c:=nX f.1
 have h:=q0 c.1
 have k:=yc h.1
 exact d.ci (e.ci (i.ci (g.ci (f.ci (c.ci (h.ci k))))))
end
structure i3(c:Cd):Prop where
 iV:∀r∈c.a2,r.bV.b8=ar→r.t≤c.a2.length
 b6:∀k∈c.b6,k.d1<k.iz∧k.iz≤c.a2.length∧k.cP≤c.a2.length
 cp:∀s∈c.cp,s≤c.a2.length
 Aq:c.cp≠ []
def g0(a:Cd):Prop:=∀b∈a.a2,b.bV.b8=ar→b.t<a.a2.length
def BB(a:Cd):Prop:=∃b,a.a2[a.a2.length-1]? =O b∧b.bV.dR=ar
def Jn(a:Cd):Nat:=a.a2.countP (·.bV.b8)
def h6(a:cb):Prop:=∃b:Nat,a[b]? =O b1
def NB(a:cb):c6 a a.length=(a.filterMap id).length:=by unfold c6;(refine bT eO ?_;rfl)
def yd{b:cb}:h6 b→(b.filterMap id).length<b.length:=by
 induction b with
 |nil=>exact fun ⟨a,c⟩=>cG c
 |cons e f d=>induction e with
  |none=>exact fun g=>vM (vN id f)
  |some h=>exact fun ⟨a,c⟩=>by induction a with
   |zero=>exact cG (dg c).symm
   |succ a=>exact Ge (d ⟨a,c⟩)
def gE(a:Option R):Bool:=a.any fun b=>b.bV.b8
def xC{a:Type}{b:List a}{c:a→a}(e:∀d∈b,c d=d):b.map c=b:=(y9 (g:=id) e).trans (List.map_id _)
def yU{c:Type}{a:List c}{d:c→Option c}(e:∀b∈a,d b=O b):a.filterMap d=a:=by
 induction a with
 |nil=>rfl
 |cons b a f=>(refine bT (L1 (e b (fD ..))) ?_;refine bT (f fun h g=>e h (ia _ g)) ?_;rfl)
def IP(a:List R):(a.map O).filterMap id=a:=List.filterMap_map.trans (show Ul O a=a from List.filterMap_some)
def NC{a b:Bool}(c:a=ar→b=ar):(if a=ar then 1 else 0)≤(if b=ar then 1 else 0):=by
 induction a
 ·exact fy _
 ·refine bT (c rfl) ?_;exact dX _
def CM{e d:Option R}(g:gE e=ar→gE d=ar){c:cb}:∀{a:Nat},c[a]? =O d→(c.set a e).countP gE≤c.countP gE:=by
 induction c with
 |nil=>exact fun b=>cG b
 |cons h i f=>
  intro a b
  induction a with
  |zero=>
   obtain rfl:h=d:=dg b
   (refine bT List.set_cons_zero ?_;refine bT qD ?_;refine bT qD ?_)
   exact jq (NC g) _
  |succ a=>
   (refine bT za ?_;refine bT qD ?_;refine bT qD ?_)
   exact m7 (f b) _
section
variable{c:Cd}{d:Bool}
def lM(a:cb):(c.cX a).a2.length=(a.filterMap id).length:=by
 show (Gy _ _).length=_
 rw [et]
def Ar(a:cb):Jn (c.cX a)=a.countP gE:=by
 show (Gy (R.iY (c6 a)) (a.filterMap id)).countP _=_
 refine bT Mf ?_
 generalize c6 a=h
 induction a with
 |nil=>rfl
 |cons f i e=>
  induction f with
  |none=>exact e
  |some b=>
   (refine bT (L1 (f:=id) (a:=O b) (b:=b) rfl) ?_;refine bT qD ?_;refine bT qD ?_;refine bT e ?_)
   exact congrArg (fun g:Op=>_+if g.b8=ar then 1 else 0) (iL h b)
def As{b:cb}{f:R}{g:Prop}(h:f∈(c.cX b).a2)(k:∀(e:Nat)(a:R),b[e]? =O (O a)→f=a.iY (c6 b)→g):g:=by
 obtain ⟨j,l⟩:=yA h
 obtain ⟨e,a,i,_,m⟩:=rn (a:=c.j3 b) (g:=j) (f:=O f) (dF.mpr l)
 exact k e a i (dg m)
def q1{a:cb}(l:i3 c)(C:a.length=c.a2.length)(G:∀(A:Nat)(h:R),a[A]? =O (O h)→h.bV.b8=ar→h.t≤c.a2.length):i3 (c.cX a):=by
 have y:(c.cX a).a2.length=c6 a c.a2.length:=by (rewrite [lM];refine gT C ?_;rw [NB])
 have g:∀j,j≤c.a2.length→c6 a j≤(c.cX a).a2.length:=fun j u=>by refine bT y ?_;exact wj a u
 refine ⟨fun h v b=>?_,fun b i=>?_,fun t m=>?_,?_⟩
 ·refine As v fun w r p n=>?_
  rw [n,iL] at b
  (refine bT n ?_;refine bT (rS _ b) ?_)
  exact g _ (G w r p b)
 ·have i:b∈c.b6.filterMap (Ct.fI (c6 a)):=i
  refine bU fun e=>?_
  obtain ⟨s,k,f⟩:=Gn.mp i
  obtain ⟨I,q,o⟩:=l.b6 s k
  refine e ?_;try clear e
  unfold Ct.fI at f
  split at f
  ·rename_i x
   obtain rfl:=dg f
   exact ⟨x,g _ q,g _ o⟩
  ·exact cG f
 ·have m:t∈c.cp.map (c6 a):=m
  refine bU fun e=>?_
  obtain ⟨z,k,rfl⟩:=hJ.mp m
  refine e ?_;try clear e
  exact g _ (l.cp z k)
 ·show c.cp.map (c6 a)≠ []
  intro F;exact l.Aq (L5.mp F)
def Rp(b:List R){a:Nat}(e:a≤b.length):c6 (b.map O) a=a:=by
 unfold c6
 (refine gT Mi ?_;rewrite [IP];refine bT zd ?_)
 exact y6 e
def um{a:List R}(j:i3 c)(p:a.length=c.a2.length)(r:∀e∈a,e.bV.b8=ar→e.t≤c.a2.length):c.cX (a.map O)=⟨a,c.b6,c.cp⟩:=by
 have b:∀{g},g≤c.a2.length→c6 (a.map O) g=g:=fun s=>Rp a (p.symm▸s)
 show Cd.mk (((a.map O).filterMap id).map (R.iY (c6 (a.map O)))) _ _=_
 rw [IP,xC fun e l=>?_,yU fun f m=>?_,xC fun q o=>b (j.cp q o)]
 ·refine bU fun k=>?_
  obtain ⟨h,i,n⟩:=j.b6 f m
  refine k ?_;try clear k
  unfold Ct.fI
  rw [b (cu (iG h) i),b i,b n,if_pos h]
 ·unfold R.iY
  split
  ·rename_i f;rw [b (r e l f)]
  ·rfl
def pU(a:i3 c):c.cX (c.a2.map O)=c:=um a rfl a.iV
def JU{f:Cd→cb→Nat→cb}(l:∀(b:cb)(a:Nat),f c b a=b∨h6 (f c b a))(j:Nat):(dk c f j=c.a2.map O∧∀a<j,f c (c.a2.map O) a=c.a2.map O)∨h6 (dk c f j):=
 gB (c:=fun g b=>(b=c.a2.map O∧∀a<g,f c (c.a2.map O) a=c.a2.map O)∨h6 b) (.inl ⟨rfl,fun a h=>absurd h (tP a)⟩) fun g b m e=>(l b g).elim (fun i=>e.elim (fun e=>.inl ⟨i.trans e.1,fun a h=>(LR (qk h)).elim (e.2 a) fun k=>k▸e.1▸i⟩) fun e=>.inr (i.symm▸e)) .inr
def dN{b:Cd→cb→Nat→cb}(i:∀(a:cb)(e:Nat),(b c a e).length=a.length)(h:Nat):(dk c b h).length=c.a2.length:=
 gB (c:=fun _ (a:cb)=>a.length=c.a2.length) (et ..) fun f a j g=>(i a f).trans g
def lN{e:Cd→cb→Nat→cb}(k:∀(b:cb)(a:Nat),e c b a=b∨h6 (e c b a))(h:∀(b:cb)(a:Nat),(e c b a).length=b.length)(j:i3 c){f:Nat}(g:(c.cX (dk c e f)).a2.length=c.a2.length):
  c.cX (dk c e f)=c∧∀a<f,e c (c.a2.map O) a=c.a2.map O:=
 (JU k f).elim (fun g=>⟨g.1.symm▸pU j,g.2⟩) fun i=>absurd ((lM _).symm.trans (g.trans (dN h f).symm)) (kW (yd i))
def qd{a:cb}(b:a.length=c.a2.length):(c.cX a).a2.length≤c.a2.length:=by
 (rewrite [lM];refine gT b ?_);exact vN _ _
def Au{a:cb}{b:Nat}{f e:Option R}{l k:R}(h:a[b]? =O (O l))(i:a[b+1]? =O (O k))(j:f=b1∨e=b1):h6 (fb a b f e):=
 j.elim (fun g=>⟨b,g▸oI (c:=⟨a,[],[]⟩) f e (gC (c:=⟨a,[],[]⟩) h)⟩) fun g=>⟨b+1,g▸oJ (c:=⟨a,[],[]⟩) f e (gC (c:=⟨a,[],[]⟩) i)⟩
inductive Hf(a2:cb)(p:Nat)(r r':R):cb→Prop
 |mk {a b:Option R} (n:a=b1∨b=b1) (ja:gE a=ar→r.bV.b8=ar) (jb:gE b=ar→r'.bV.b8=ar):Hf a2 p r r' (fb a2 p a b)
section
variable{a:cb}{b:Nat}{h:R→R→Option cb}(i:∀{f e g},h f e=O g→Hf a b f e g)
include i
def rr:j4 c a b h=a∨h6 (j4 c a b h):=oM (h:=fun j=>j=a∨h6 j) (.inl rfl) fun f e g k l o m=>by
 cases i m with|mk n _ _=>exact .inr (Au k l n)
def tB:(j4 c a b h).length=a.length:=oM (h:=fun k=>k.length=a.length) rfl fun f e g l n m j=>by
 cases i j;exact tA ..
def Av:(j4 c a b h).countP gE≤a.countP gE:=oM (h:=fun o:cb=>o.countP gE≤a.countP gE) (dX _) fun f e g j l p m=>by
 cases i m with|mk _ n k=>exact cu (CM (d:=O e) k ((pi (rl b)).trans l)) (CM (d:=O f) n j)
end
def w9{b:Cd→cb→Nat→cb}(i:∀(a:cb)(f:Nat),(b c a f).countP gE≤a.countP gE)(e:Nat):Jn (c.cX (dk c b e))≤Jn c:=by
 have:(dk c b e).countP gE≤(c.a2.map O).countP gE:=gB (c:=fun _ (a:cb)=>a.countP gE≤(c.a2.map O).countP gE) (dX _) fun g a j h=>cu (i a g) h
 exact (Ar _).symm▸cu this (jH (Mf ..))
end
section
variable{b:Cd}{c:Bool}
noncomputable abbrev CN(d:cb)(e:Nat):R→R→Option cb:=fun f a=>if f.bV.i6&&a.bV== .gA then O (fb d e b1 b1) else b1
noncomputable abbrev zA(d:cb)(e:Nat):R→R→Option cb:=fun a f=>if f.bV== .dt then (if a.bV== .dt then O (fb d e b1 b1) else if a.bV== .kq then O (fb d e (O a) b1) else b1) else b1
noncomputable abbrev CO(f:cb)(e:Nat):R→R→Option cb:=fun a d=>if a.bV.cg&&d.bV== .cI&&a.t==e+2 then O (fb f e (O (.cE a.bV.fN d.t a.e6)) b1) else b1
noncomputable abbrev iR(b:Cd)(g:cb)(f:Nat):R→R→Option cb:=fun e a=>if e.bV== .d0 then
 (if a.bV.cg then O (fb g f b1 (if a.bV.eM (dI e.a) then O (.cE .cI a.t a.e6) else b1))
  else if a.bV== .cI then (match b.a2[a.t]? with
   |some d=>if d.bV.cg then O (fb g f b1 (O {a with t:=if d.bV.eM (dI e.a) then d.t else a.t+1})) else b1
   |none=>b1) else b1) else b1
section
variable{g:cb}{e:Nat}{a d:R}{f:cb}
def qO{a:R}:gE b1=ar→a.bV.b8=ar:=fun h=>dy h
def xD(h:CN g e a d=O f):Hf g e a d f:=jR h fun j i=>dT i (.mk (.inl rfl) qO qO)
def xE(h:zA g e a d=O f):Hf g e a d f:=jR h fun j h=>v0 h (fun j i=>dT i (.mk (.inl rfl) qO qO)) fun j h=>jR h fun j i=>dT i (.mk (.inr rfl) (fun i=>i) qO)
def xF(k:CO g e a d=O f):Hf g e a d f:=jR k fun h l=>eE h fun h i=>eE h fun j i=>dT l (.mk (.inr rfl) (fun i=>rm j) qO)
def u0(h:iR b g e a d=O f):Hf g e a d f:=jR h fun j h=>v0 h (fun l i=>dT i (.mk (.inl rfl) qO fun j=>rm l)) fun j h=>jR h fun m h=>by
 cases k:b.a2[d.t]? with
 |none=>rw [k] at h;exact cG h
 |some n=>
  rw [k] at h
  exact jR h fun j i=>dT i (.mk (.inl rfl) qO fun i=>i)
end
section
variable(a:cb)(d:Nat)
def JV:gM b a d=a∨h6 (gM b a d):=rr (h:=CN a d) xD
def JW:gN b a d=a∨h6 (gN b a d):=rr (h:=zA a d) xE
def JX:gO b a d=a∨h6 (gO b a d):=rr (h:=CO a d) xF
def HP:fv b a d=a∨h6 (fv b a d):=rr (h:=iR b a d) u0
def JY:fW b a d=a∨h6 (fW b a d):=w8 (j:=fun f=>f=a∨h6 f) (.inl rfl) fun j i h g e e e e e e e=>.inr ⟨d,Al (c:=⟨a,[],[]⟩) _ _ _ (gC (c:=⟨a,[],[]⟩) g)⟩
def oi:(gM b a d).length=a.length:=tB (h:=CN a d) xD
def qs:(gN b a d).length=a.length:=tB (h:=zA a d) xE
def qt:(gO b a d).length=a.length:=tB (h:=CO a d) xF
def oN:(fv b a d).length=a.length:=tB (h:=iR b a d) u0
def oj:(fW b a d).length=a.length:=w8 (j:=fun f=>f.length=a.length) rfl fun i h g e e e e e e e e=>m9.trans (tA ..)
def Xk:(gM b a d).countP gE≤a.countP gE:=Av (h:=CN a d) xD
def Xl:(gN b a d).countP gE≤a.countP gE:=Av (h:=zA a d) xE
def Xm:(gO b a d).countP gE≤a.countP gE:=Av (h:=CO a d) xF
def Rq:(fv b a d).countP gE≤a.countP gE:=Av (h:=iR b a d) u0
def Xn:(fW b a d).countP gE≤a.countP gE:=w8 (j:=fun k:cb=>k.countP gE≤a.countP gE) (dX _) fun l j h f g m e e e e e=>
 cu (CM (d:=O h) qO ((pi (rl _)).trans ((pi (QT d)).trans m))) (cu (CM (d:=O j) (fun i=>i) ((pi (rl d)).trans g)) (CM (d:=O l) qO f))
end
def Rr{d:cb}{a:Nat}{e:R}(f:d[a+1]? =O (O e)):sv d a b1 (O e) b1=(d.set a b1).set (a+2) b1:=congrArg (fun g:cb=>g.set (a+2) b1) (NA ((pi (rl a)).trans f))
def IQ(f:i3 b){g:Nat}(a:b.c2 g=ar):g≤b.a2.length:=by
 refine oX a (fun a=>oX a (fun a=>?_) fun a=>?_) fun a=>f.cp g (rb.mp a)
 ·obtain ⟨k,d,e⟩:=tS.mp a
  exact eE e fun h i=>dr i▸f.iV k d h
 ·obtain ⟨j,d,e⟩:=tS.mp a
  exact dr e▸(f.b6 j d).2.2
def gq.jS{g:Nat}{d:cb}(e:gq b c g d)(a:i3 b):i3 (b.cX d):=q1 a e.cC fun i l f j=>(e.iV i l f j).elim (IQ a) fun h=>h.elim fun m k=>TC (fJ.mp k.1).1
def xG(a:gk b c)(d:i3 b):i3 (eX b):=(qX a _).jS d
def OC(a:gk b c)(d:i3 b):i3 (fZ b):=(sF a _).jS d
def xH(a:gk b c)(d:i3 b):i3 (ff b):=(qZ a _).jS d
def xI(a:gk b c)(d:i3 b):i3 (fq b):=(qY a _).1.jS d
def u1(a:gk b c)(d:i3 b):i3 (fE b):=(sG a _).jS d
def ye{g:Nat}{e d:R}(a:d5 g d=O e)(h:e.bV.b8=ar):d=e:=by
 unfold d5 at a
 exact v0 a (fun f a=>jR a fun f i=>dy (dg i▸h:(R.cE .gA 0 d.e6).bV.b8=ar)) fun f a=>dg a
def u2(d:i3 b):i3 (dM b):=q1 d pj fun j h a e=>by
 rw [wa] at a
 obtain ⟨i,g,f⟩:=tm.mp a
 exact d.iV h (gj (ye f e▸g)) e
def xJ(e:i3 b):i3 (dO b):=q1 e pj fun k i d g=>by
 rw [m2] at d
 refine bU fun f=>?_
 obtain ⟨j,h,a⟩:=tm.mp d
 refine f ?_;try clear f
 unfold eY at a
 split at a
 ·exact e.iV i (gj (dg a▸h)) g
 ·exact cG a
set_option tactic.hygienic true in
def DP(k:g0 b){e:Nat}(j:e<b.a2.length):∀(d a:Nat),a<b.a2.length→mJ b.a2 e d a<b.a2.length:=by
 intro d
 induction d with
 |zero=>
  intro a _
  exact j
 |succ d h=>
  intro a f
  unfold mJ
  split
  ·rename_i g i
   split
   ·rename_i l
    exact h g.t (k g (List.mem_of_getElem? i) (by refine bT l ?_;rfl))
   ·exact f
  ·exact f
def Fv(f:g0 b){e:R}(g:e∈b.a2)(a:(dE b.a2 e).bV.b8=ar):(dE b.a2 e).t<b.a2.length:=by
 unfold dE at a⊢
 split
 ·rename_i d
  rw [if_pos d] at a
  split
  ·rename_i h
   rw [if_pos h] at a;exact dy a
  ·exact DP f (f e g d) _ _ (f e g d)
 ·rename_i d
  rw [if_neg d] at a
  exact absurd a d
def kj(d:i3 b)(f:g0 b):ep b=⟨b.a2.map (dE b.a2),b.b6,b.cp⟩:=um d (et ..) fun i a e=>by
 obtain ⟨h,g,rfl⟩:=hJ.mp a
 exact iG (Fv f g e)
def pV(d:i3 b)(i:g0 b):i3 (ep b)∧g0 (ep b):=by
 refine bT (kj d i) ?_
 have g:(b.a2.map (dE b.a2)).length=b.a2.length:=et ..
 have h:∀a∈b.a2.map (dE b.a2),a.bV.b8=ar→a.t<(b.a2.map (dE b.a2)).length:=fun a e f=>by
  refine bU fun j=>?_
  obtain ⟨l,k,rfl⟩:=hJ.mp e
  refine j ?_;try clear j
  exact g.symm▸Fv i k f
 exact ⟨⟨fun a e f=>iG (h a e f),g.symm▸d.b6,g.symm▸d.cp,d.Aq⟩,h⟩
def E3(n:gk b c)(m:i3 b)(h:∀a,a<b.a2.length→cx b.nc a):g0 b∧BB b:=by
 obtain ⟨r,o⟩:=n.gK
 have e:∀{a},cx b.nc a→a<b.a2.length:=fun p=>(show (b.a2.map O).length=b.a2.length from et ..)▸o.kJ _ p
 refine ⟨fun t k d=>?_,?_⟩
 ·obtain ⟨l,i⟩:=yA k
  exact e (.cI (h l (fJ.mp i).1) (dF.mpr i) d)
 ·obtain ⟨s,q⟩:=List.exists_mem_of_ne_nil _ m.Aq
  have f:=Gd (e (.dH q))
  have j:=Gh f Gg
  have g:=gS (l:=b.a2) j
  exact ⟨_,g,LK fun d=>B9 _ (uK f▸e (.eK (h _ j) (dF.mpr g) d))⟩
end
section
variable{a:Cd}{b:Bool}
def l7(a:Cd)(e:cb):Prop:=(∀(d:Nat)(c:R),e[d]? =O (O c)→a.a2[d]? =O c)∧∀(d:Nat)(c:R),a.a2[d]? =O c→c.bV.dR=ar→e[d]? =O (O c)
def l7.gx:l7 a (a.a2.map O):=⟨fun e d c=>dF.mp c,fun e d c f=>dF.mpr c⟩
def l7.mK{e:cb}(l:l7 a e){c:Nat}{f g:R}{h:Prop}(i:e[c]? =O (O f))(m:f.bV.dR=b2)(j:a.a2[c]? =O g)(d:g.bV.dR=ar):h:=by
 have k:=i.symm.trans (l.2 _ _ j d)
 cases k
 exact dy (m.symm.trans d)
def rT{c:R}{d:Op}(a:c.bV=d)(e:d.dR=b2):c.bV.dR=b2:=a▸e
def l7.fS{h:cb}{j:Nat}{o p:R}{n:Option R}(f:l7 a h)(g:h[j]? =O (O o))(k:h[j+1]? =O (O p))(s:o.bV.dR=b2)(q:p.bV.dR=b2)(r:n=b1∨n=O o):l7 a (fb h j n b1):=
 ⟨fun c e=>mL (f:=fun c i=>i=O (O e)→a.a2[c]? =O e) g k (fun {c} _=>f.1 c e) (fun d=>r.elim (fun m=>cG (m▸dg d)) fun m=>f.1 _ _ (g.trans (m▸d))) fun d=>cG (dg d),
  fun c e=>mL (f:=fun c i=>a.a2[c]? =O e→e.bV.dR=ar→i=O (O e)) g k (fun {c} _=>f.2 c e) (fun d l=>f.mK g s d l) fun d l=>f.mK k q d l⟩
def OD(m:Nat):l7 a (dk a gM m):=gB (c:=fun e c=>l7 a c) l7.gx fun o c r d=>oM (h:=l7 a) d fun p q n f h e l=>jR l fun i j=>dT j (eE i fun k g=>d.fS f h (DI k).1 (rT (dr g) rfl) (.inl rfl))
def OE(l:Nat):l7 a (dk a gN l):=gB (c:=fun g k=>l7 a k) l7.gx fun n k q e=>oM (h:=l7 a) e fun o p m h j g c=>jR c fun i c=>v0 c (fun f d=>dT d (e.fS h j (rT (dr f) rfl) (rT (dr i) rfl) (.inl rfl))) fun g c=>jR c fun f d=>dT d (e.fS h j (rT (dr f) rfl) (rT (dr i) rfl) (.inr rfl))
def OF(p:Nat):l7 a (dk a fW p):=gB (c:=fun l m=>l7 a m) l7.gx fun r m u f=>w8 (j:=l7 a) f fun t v s j h i o n q l l=>
 ⟨fun d e=>rp (f:=fun d k=>k=O (O e)→a.a2[d]? =O e) j h i (fun {d} _=>f.1 d e) (fun c=>cG (dg c)) (fun c=>f.1 _ _ (h.trans c)) fun c=>cG (dg c),
  fun d e=>rp (f:=fun d k=>a.a2[d]? =O e→e.bV.dR=ar→k=O (O e)) j h i (fun {d} _=>f.2 d e) (fun c g=>f.mK j (rT o rfl) c g) (fun c g=>f.mK h (DK n).e c g) fun c g=>f.mK i (rT q rfl) c g⟩
def l7.gH{c:cb}(j:l7 a c)(r:c.length=a.a2.length)(q:g0 a)(p:BB a):g0 (a.cX c)∧BB (a.cX c):=by
 obtain ⟨k,e,g⟩:=p
 have h:=j.2 _ _ e g
 have l:(a.cX c).a2.length=c6 c (a.a2.length-1)+1:=by
  (rewrite [lM,← NB];refine bT r ?_;refine gT (oY h) ?_;rw [uK (show 1≤a.a2.length from Gd (fJ.mp e).1)])
 refine ⟨fun s m d=>As m fun n f o i=>?_,?_⟩
 ·rw [i,iL] at d
  (refine bT i ?_;refine bT (rS _ d) ?_;refine bT l ?_)
  exact vM (wj c (LP (q f (gj (j.1 n f o)) d)))
 ·exact ⟨k.iY (c6 c),by refine bT l ?_;exact dF.mp (iK (a:=a.j3 c) h),(congrArg Op.dR (iL _ k)).trans g⟩
structure kL(a:Cd)(b:Bool):Prop where
 cF:gk a b
 jS:i3 a
 gH:g0 a
def pt(d:kL a b):kL (ig a) b:=by
 have o:=pV d.jS d.gH
 have h:=lH d.cF
 have i:=pq h.1
 have n:=u1 h.1 o.1
 have r:=nY i.1
 have j:=xI i.1 n
 have v:=pr r.1
 have y:=u2 j
 have c:=rq v.1
 have g:=xJ y
 obtain ⟨z,x⟩:=E3 c.1.1 g c.2
 have e:=nX c.1.1
 have w:=xG c.1.1 g
 obtain ⟨l,s⟩:=(OD _).gH (dN oi _) z x
 have f:=q0 e.1
 have q:=xH e.1 w
 obtain ⟨k,u⟩:=(OF _).gH (dN oj _) l s
 have p:=yc f.1
 have t:=OC f.1 q
 obtain ⟨m,A⟩:=(OE _).gH (dN qs _) k u
 exact ⟨p.1,t,m⟩
def tC{e c f d:Nat}(g:e≤c)(h:f≤d)(i:e+f=c+d):e=c∧f=d:=Rb g h i
def OG{c d:Bool}(e:(if c=ar then 1 else 0)=if d=ar then 1 else 0)(f:d=ar):c=ar:=by
 rw [f] at e
 induction c
 ·cases e
 ·rfl
def tD{d:List R}:∀{f:Nat→R→Option R},(∀g c,gE (f g c)=ar→c.bV.b8=ar)→(d.mapIdx f).countP gE≤d.countP (·.bV.b8)∧((d.mapIdx f).countP gE=d.countP (·.bV.b8)→∀e c,d[e]? =O c→c.bV.b8=ar→gE (f e c)=ar):=by
 induction d with
 |nil=>exact fun q=>⟨dX _,fun q e c u=>cG u⟩
 |cons i d n=>
  intro f m
  obtain ⟨j,r⟩:=n (f:=fun p=>f (p+1)) fun g c=>m (g+1) c
  (refine bT List.mapIdx_cons ?_;refine bT qD ?_;refine bT qD ?_)
  have k:=NC (m 0 i)
  refine ⟨pH j k,fun o e c l h=>?_⟩
  obtain ⟨s,t⟩:=tC j k o
  induction e with
  |zero=>
   obtain rfl:i=c:=dg l
   exact OG t h
  |succ e=>exact r s e c l h
def xK(c:Nat→R→Option R):Jn (a.cX (a.a2.mapIdx c))=(a.a2.mapIdx c).countP gE:=Ar _
def DQ:∀d c,gE (d5 d c)=ar→c.bV.b8=ar:=fun d c g=>G9 g fun h f e=>ye f e▸e
def Rs:∀e d,gE (eY a e d)=ar→d.bV.b8=ar:=fun e d c=>by
 unfold eY at c
 split at c
 ·exact c
 ·exact dy c
def Xo(d:R)(c:(dE a.a2 d).bV.b8=ar):d.bV.b8=ar:=by
 unfold dE at c
 split at c
 ·assumption
 ·exact c
def HQ(k:i3 a)(o:g0 a):Jn (ep a)≤Jn a∧(Jn (ep a)=Jn a→∀c∈a.a2,c.bV.b8=ar→(dE a.a2 c).bV.b8=ar):=by
 have f:Jn (ep a)=(a.a2.mapIdx fun d c=>O (dE a.a2 c)).countP gE:=by
  rw [kj k o,show (a.a2.mapIdx fun d c=>O (dE a.a2 c))=(a.a2.map (dE a.a2)).map O from vQ fun l=>by
   rw [wa,i4,i4]
   cases a.a2[l]? <;>rfl]
  exact (show _=(a.a2.map (dE a.a2)).countP (gE ∘ O) from rfl).trans Mf.symm
 obtain ⟨h,i⟩:=tD (d:=a.a2) (f:=fun d c=>O (dE a.a2 c)) fun d c e=>Xo c e
 exact ⟨f▸h,fun e c g m=>(yA g).elim fun j n=>i (f▸e) j c n m⟩
def CQ(d:i3 a)(c:g0 a):(ep a).a2.length=a.a2.length:=kj d c▸et ..
def JZ(e:i3 a)(c:(eX a).a2.length=a.a2.length):eX a=a∧∀d<a.a2.length-1,gM a (a.a2.map O) d=a.a2.map O:=lN JV oi e c
def J0(e:i3 a)(c:(fZ a).a2.length=a.a2.length):fZ a=a∧∀d<a.a2.length-1,gN a (a.a2.map O) d=a.a2.map O:=lN JW qs e c
def J1(e:i3 a)(c:(fq a).a2.length=a.a2.length):fq a=a∧∀d<a.a2.length-1,gO a (a.a2.map O) d=a.a2.map O:=lN JX qt e c
def HR(e:i3 a)(c:(fE a).a2.length=a.a2.length):fE a=a∧∀d<a.a2.length-1,fv a (a.a2.map O) d=a.a2.map O:=lN HP oN e c
def J2(e:i3 a)(c:(ff a).a2.length=a.a2.length):ff a=a∧∀d<a.a2.length-2,fW a (a.a2.map O) d=a.a2.map O:=lN JY oj e c
def E4{d:Nat→R→Option R}(g:(a.cX (a.a2.mapIdx d)).a2.length=a.a2.length):∀(c:Nat)(e:R),a.a2[c]? =O e→d c e≠b1:=fun c e f h=>by
 have:=yd (b:=a.a2.mapIdx d) ⟨c,by (rewrite [wa];refine bT f ?_);exact congrArg O h⟩
 rw [pj] at this
 exact kW this ((lM _).symm.trans g)
def Aw{e:Nat→R→Option R}(g:∀(c:Nat)(d:R),a.a2[c]? =O d→e c d=O d):a.a2.mapIdx e=a.a2.map O:=vQ fun c=>by
 rw [wa,i4]
 cases f:a.a2[c]? with
 |none=>rfl
 |some d=>exact congrArg O (g c d f)
def J3(f:i3 a)(g:(dO a).a2.length=a.a2.length):dO a=a∧∀c,c<a.a2.length→cx a.nc c:=by
 have d:∀c,c<a.a2.length→cx a.nc c:=fun c h=>by
  have:=E4 g c _ (gS h)
  unfold eY at this
  split at this
  ·assumption
  ·exact absurd rfl this
 refine ⟨?_,d⟩
 unfold dO
 rw [Aw (e:=eY a) fun c i e=>if_pos (d c (fJ.mp e).1)];exact pU f
def HS(k:i3 a)(n:(dM a).a2.length=a.a2.length)(l:Jn (dM a)=Jn a):dM a=a∧∀(d:Nat)(c:R),a.a2[d]? =O c→c.bV.b8=ar→c.t≠d+1:=by
 have m:=(tD (d:=a.a2) (f:=d5) DQ).2 ((xK _).symm.trans l)
 have i:∀(d:Nat)(c:R),a.a2[d]? =O c→c.bV.b8=ar→c.t≠d+1:=fun d c g f h=>by
  have e:=m d c g f
  unfold d5 i7 at e
  rw [if_pos (iX.mpr ⟨f,beq_iff_eq.mpr h⟩)] at e
  split at e<;>exact dy e
 refine ⟨?_,i⟩
 unfold dM
 refine bT (Aw (e:=d5) fun d c g=>if_neg fun j=>eE j fun f h=>i d c g f (dr h)) ?_;exact pU k
end
def OH{c a b:Nat}(e:a≤b)(d:a=c-1):c≤b+1:=Nat.le_succ_of_pred_le (cu (jH d.symm) e)
def DR(b:Nat):∀(a:List Nat),a.Nodup→(∀c∈a,c<b)→a.length≤b:=by
 induction b with
 |zero=>
  intro a _ e
  induction a with
  |nil=>exact dX _
  |cons c a=>exact absurd (e c fD) (tP _)
 |succ b i=>
   intro a h e
   have f:=i (a.erase b) (h.erase b) fun c g=>y5 (qk (e c (List.mem_of_mem_erase g))) fun j=>(List.Nodup.not_mem_erase h) (j▸g)
   have d:=List.length_erase (a:=b) (l:=a)
   split at d
   ·exact OH f d
   ·exact uL (d▸f)
def Xp(b:Nat)(c:Nat→Nat)(k:∀a,a≤b→c a<b):∃a d,a<d∧d≤b∧c a=c d:=by
 apply MG
 intro f
 have n:((f5 (b+1)).map c).Nodup:=by
  rw [List.Nodup,List.pairwise_map]
  exact ZC (R:=(·< ·)) (fun {l i} o h e g=>f ⟨l,i,e,qk (nf.mp h),g⟩) List.pairwise_lt_range
 have:=DR b _ n fun p j=>by
  obtain ⟨a,m,rfl⟩:=hJ.mp j
  exact k a (qk (nf.mp m))
 rw [et,pk] at this
 exact LQ b this
section
variable{a:Cd}{b:Bool}
def hP(c:List R)(d:Nat):Bool:=match c[d]? with
 |some e=>e.bV== .cI
 |none=>b2
noncomputable def DS(d:List R)(c:Nat):Nat:=match d[c]? with
 |some e=>e.t
 |none=>c
noncomputable def lX(d:List R):Nat→Nat→Nat
 | 0,c=>c
 |e+1,c=>lX d e (DS d c)
def mW(e:List R)(d:Nat):∀c:Nat,lX e (d+1) c=DS e (lX e d c):=by
 induction d with
 |zero=>exact fun c=>rfl
 |succ d f=>exact fun c=>f (DS e c)
def wm(d:List R)(c f e:Nat):lX d (c+f) e=lX d c (lX d f e):=by
 induction c with
 |zero=>rw [kU];rfl
 |succ c g=>(rewrite [TM,mW];refine bT g ?_;rw [← mW])
def yf(d:List R)(f e c:Nat):mJ d f (e+1) c=if hP d c=ar then mJ d f e (DS d c) else c:=by
 show (match d[c]? with|some g=>if g.bV=Op.cI then mJ d f e g.t else c|none=>c)=_
 unfold hP DS
 cases d[c]? with
 |none=>rfl
 |some g=>exact ite_congr (propext beq_iff_eq.symm) (fun h=>rfl) fun h=>rfl
def u3(f:List R)(g c:Nat):∀e:Nat,(∀d<c,hP f (lX f d e)=ar)→mJ f g c e=g:=by
 induction c with
 |zero=>exact fun i i=>rfl
 |succ c j=>exact fun e h=>((yf ..).trans (if_pos (h 0 (nI c)))).trans (j _ fun d k=>h (d+1) (Ge k))
def yg(e:List R)(k f:Nat):∀d c:Nat,c<f→hP e (lX e c d)=b2→(∀h<c,hP e (lX e h d)=ar)→mJ e k f d=lX e c d:=by
 induction f with
 |zero=>exact fun d c g=>absurd g (tP c)
 |succ f j=>
  intro d c l g i
  rw [yf]
  induction c with
  |zero=>exact if_neg (r5.mp g)
  |succ c=>exact (if_pos (i 0 (nI c))).trans (j _ c (LO l) g fun h m=>i (h+1) (Ge m))
def BC{e:Nat}{g:Prop}(c:hP a.a2 e=ar)(f:∀d,a.a2[e]? =O d→d.bV=.cI→DS a.a2 e=d.t→g):g:=by
 unfold hP at c
 unfold DS at f
 cases h:a.a2[e]? with
 |none=>rw [h] at c;exact dy c
 |some d=>
  rw [h] at c f
  exact f d rfl (dr c) rfl
def OI{c:Nat}(f:hP a.a2 c=ar):c<a.a2.length:=BC f fun g e d d=>(fJ.mp e).1
def Xq(h:g0 a){c:Nat}(f:hP a.a2 c=ar):DS a.a2 c<a.a2.length:=BC f fun i e d g=>g▸h i (gj e) (by refine bT d ?_;rfl)
def Rt{d e c:Nat}(f:e<c)(g:c≤d):(d-c)+e<d:=WT f g
def OJ(o:g0 a){c:Nat}(i:∀e<a.a2.length,hP a.a2 (lX a.a2 e c)=ar)(m:c<a.a2.length):∀e,hP a.a2 (lX a.a2 e c)=ar:=by
 obtain ⟨d,e,l,p,k⟩:=Xp a.a2.length (fun n=>lX a.a2 n c) fun d q=>by
  induction d with
  |zero=>exact m
  |succ d=>exact mW a.a2 d c▸Xq o (i d q)
 intro f
 induction f using TK with
 |ind f j=>
  by_cases g:f<a.a2.length
  ·exact i f g
  ·have h:=cu p (ra g)
   (refine gT (uK h) ?_;rewrite [wm];refine gT k ?_;rw [← wm])
   exact j _ (Rt l h)
def OK{e:Nat→Bool}{c:Nat}(k:e c=b2):∃c,e c=b2∧∀d<c,e d=ar:=by
 induction c using TK with
 |ind c g=>exact (UY (∃d,d<c∧e d=b2)).elim (fun h=>by obtain ⟨d,f,l⟩:=h;exact g d f l) fun j=>⟨c,k,fun d f=>LK fun i=>j ⟨d,f,i⟩⟩
def Ax(n:g0 a){d:Nat}(m:d<a.a2.length):(∃c,c<a.a2.length∧hP a.a2 (lX a.a2 c d)=b2∧(∀h<c,hP a.a2 (lX a.a2 h d)=ar)∧mr a.a2 d=lX a.a2 c d)∨((∀c,hP a.a2 (lX a.a2 c d)=ar)∧mr a.a2 d=d):=by
 by_cases e:∀c<a.a2.length,hP a.a2 (lX a.a2 c d)=ar
 ·exact .inr ⟨OJ n e m,u3 _ _ _ _ e⟩
 ·left
  obtain ⟨c,f⟩:∃c,hP a.a2 (lX a.a2 c d)=b2:=MG fun k=>e fun c p=>LK fun l=>k ⟨c,l⟩
  obtain ⟨c,i,g⟩:=OK (e:=fun c=>hP a.a2 (lX a.a2 c d)) f
  have f:c<a.a2.length:=LU fun j=>e fun h o=>g h (hH o j)
  exact ⟨c,f,i,g,yg _ _ _ _ c f i g⟩
def Ay(g:∀c∈a.a2,c.bV.b8=ar→(dE a.a2 c).bV.b8=ar){c:R}(e:c∈a.a2):dE a.a2 c=if c.bV.b8 then {c with t:=mr a.a2 c.t} else c:=by
 have:=g c e
 unfold dE at this⊢
 split
 ·rename_i d
  split
  ·rename_i f
   have:=this d
   rw [if_pos d,if_pos f] at this
   exact dy this
  ·rfl
 ·rfl
def J4(p:g0 a)(u:∀f∈a.a2,f.bV.b8=ar→(dE a.a2 f).bV.b8=ar){d:Nat}(s:d<a.a2.length):mr (a.a2.map (dE a.a2)) (mr a.a2 d)=mr a.a2 d:=by
 have j:∀e:Nat,(a.a2.map (dE a.a2))[e]? =(a.a2[e]?).map (R.iY (mr a.a2)):=fun e=>by
  rw [i4]
  cases i:a.a2[e]? with
  |none=>rfl
  |some f=>exact congrArg O (Ay u (gj i))
 have k:∀e,hP (a.a2.map (dE a.a2)) e=hP a.a2 e:=fun e=>by
  unfold hP
  rw [j]
  cases a.a2[e]? with
  |none=>rfl
  |some f=>exact congrArg (· ==Op.cI) (iL _ f)
 show mJ (a.a2.map (dE a.a2)) (mr a.a2 d) (a.a2.map (dE a.a2)).length (mr a.a2 d)=mr a.a2 d
 rw [et]
 rcases Ax p s with ⟨h,z,g,l,x⟩|⟨g,l⟩
 ·refine bT x ?_;exact yg _ _ _ _ 0 (Gd z) ((k _).trans g) fun o v=>absurd v (tP o)
 ·have w:∀c,DS (a.a2.map (dE a.a2)) (lX a.a2 c d)=DS a.a2 (lX a.a2 c d):=fun c=>BC (g c) fun f i t m=>by
   have y:mr a.a2 f.t=f.t:=m▸mW a.a2 c d▸u3 _ _ _ _ fun h q=>wm a.a2 h (c+1) d▸g _
   refine bT m ?_
   unfold DS
   (rewrite [j];refine bT i ?_)
   exact (rS _ (by refine bT t ?_;rfl)).trans y
  have r:∀c,lX (a.a2.map (dE a.a2)) c d=lX a.a2 c d:=fun c=>by
   induction c with
   |zero=>rfl
   |succ c n=>(rewrite [mW,mW];refine bT n ?_;rw [w])
  refine bT l ?_;exact u3 _ _ _ _ fun h q=>r h▸(k _).trans (g h)
def gR(a:Cd)(b:Bool):Prop:=(kL a b)∧(ep a=a)∧(∀d∈a.a2,d.bV.b8=ar→(dE a.a2 d).bV.b8=ar)∧(fE a=a∧∀c<a.a2.length-1,fv a (a.a2.map O) c=a.a2.map O)∧(fq a=a∧∀c<a.a2.length-1,gO a (a.a2.map O) c=a.a2.map O)∧(dM a=a∧∀(e:Nat)(d:R),a.a2[e]? =O d→d.bV.b8=ar→d.t≠e+1)∧(dO a=a∧∀e,e<a.a2.length→cx a.nc e)∧(eX a=a∧∀c<a.a2.length-1,gM a (a.a2.map O) c=a.a2.map O)∧(ff a=a∧∀c<a.a2.length-2,fW a (a.a2.map O) c=a.a2.map O)∧(fZ a=a∧∀c<a.a2.length-1,gN a (a.a2.map O) c=a.a2.map O)
section
variable{c:Cd}{e:Bool}(d:gR c e)
include d
def gR.hM:kL c e:=d.1
def gR.xL:ep c=c:=d.2.1
def gR.iV:∀a∈c.a2,a.bV.b8=ar→(dE c.a2 a).bV.b8=ar:=d.2.2.1
def gR.Hg:fE c=c∧∀a<c.a2.length-1,fv c (c.a2.map O) a=c.a2.map O:=d.2.2.2.1
def gR.Fw:fq c=c∧∀a<c.a2.length-1,gO c (c.a2.map O) a=c.a2.map O:=d.2.2.2.2.1
def gR.M0:dM c=c∧∀(b:Nat)(a:R),c.a2[b]? =O a→a.bV.b8=ar→a.t≠b+1:=d.2.2.2.2.2.1
def gR.J5:dO c=c∧∀a,a<c.a2.length→cx c.nc a:=d.2.2.2.2.2.2.1
def gR.Fx:eX c=c∧∀a<c.a2.length-1,gM c (c.a2.map O) a=c.a2.map O:=d.2.2.2.2.2.2.2.1
def gR.Fy:ff c=c∧∀a<c.a2.length-2,fW c (c.a2.map O) a=c.a2.map O:=d.2.2.2.2.2.2.2.2.1
def gR.Hh:fZ c=c∧∀a<c.a2.length-1,gN c (c.a2.map O) a=c.a2.map O:=d.2.2.2.2.2.2.2.2.2
end
def mu(a:Cd):Nat:=a.a2.length+Jn a
def J6:(dM a).a2.length≤a.a2.length:=qd pj
def OL:(dO a).a2.length≤a.a2.length:=qd pj
def Ru:Jn (dM a)≤Jn a:=by
 unfold dM
 rw [xK];exact (tD DQ).1
def Xr:Jn (dO a)≤Jn a:=by
 unfold dO
 rw [xK];exact (tD Rs).1
def Rv(l:kL a b)(g:∀d∈a.a2,d.bV.b8=ar→(dE a.a2 d).bV.b8=ar){e:List R}(i:e=a.a2.map (dE a.a2)):∀d∈e,dE e d=d:=fun d j=>by
 rw [i] at j
 refine bU fun k=>?_
 obtain ⟨c,h,rfl⟩:=hJ.mp j
 refine k ?_;try clear k
 refine bT (Ay g h) ?_
 split
 ·rename_i f
  have m:mr e (mr a.a2 c.t)=mr a.a2 c.t:=i▸J4 l.gH g (l.gH c h f)
  have p:gP e (mr a.a2 c.t)=ar→gP a.a2 (mr a.a2 c.t)=ar:=by
   refine bT i ?_
   unfold gP
   rw [i4]
   cases r:a.a2[mr a.a2 c.t]? with
   |none=>exact id
   |some q=>
    exact fun u=>(congrArg (fun d:R=>d.bV==Op.ew) (Ay g (gj r))).trans (congrArg (· ==Op.ew) (iL _ q))|>.symm.trans u
  have s:¬(c.bV== .cI&&gP e (mr a.a2 c.t))=ar:=fun n=>eE n fun o t=>by
   have:=g c h f
   unfold dE at this
   rw [if_pos f,if_pos (iX.mpr ⟨o,p t⟩)] at this
   exact dy this
  unfold dE
  dsimp only
  (refine bT (if_pos f) ?_;refine bT m ?_;refine bT (if_neg s) ?_;rfl)
 ·rename_i f
  exact if_neg f
def M1(c d:Cd)(e:Prop):Prop:=mu d≤mu c∧(mu d=mu c→d=c∧e)
def mX{d c:Cd}{h:Prop}(e:c.a2.length≤d.a2.length)(f:Jn c≤Jn d)(i:c.a2.length=d.a2.length→Jn c=Jn d→c=d∧h):M1 d c h:=⟨pH e f,fun g=>i (tC e f g).1 (tC e f g).2⟩
def M1.rU{g e d:Cd}{k:Prop}{j:Cd→Prop}(f:M1 g e k)(h:mu d<mu e∨(mu d=mu e∧d=e∧j e)):mu d<mu g∨(mu d=mu g∧d=g∧k∧j g):=
 h.elim (fun c=>.inl (hH c f.1)) fun l=>by obtain ⟨i,m,h⟩:=l;exact (LR f.1).elim (fun c=>.inl (i▸c)) fun c=>.inr ⟨i.trans c,m.trans (f.2 c).1,(f.2 c).2,(f.2 c).1▸h⟩
noncomputable abbrev CR(a:Cd)(d:Cd→Cd)(f:Cd→cb→Nat→cb)(e:Nat):Prop:=d a=a∧∀c<a.a2.length-e,f a (a.a2.map O) c=a.a2.map O
def C7(a:Cd):Prop:=CR a fZ gN 1∧True
def C6(a:Cd):Prop:=CR a ff fW 2∧C7 a
def C5(a:Cd):Prop:=CR a eX gM 1∧C6 a
def C4(a:Cd):Prop:=(dO a=a∧∀c,c<a.a2.length→cx a.nc c)∧C5 a
def C3(a:Cd):Prop:=(dM a=a∧∀(d:Nat)(c:R),a.a2[d]? =O c→c.bV.b8=ar→c.t≠d+1)∧C4 a
def C2(a:Cd):Prop:=CR a fq gO 1∧C3 a
def acb(a:Cd):Prop:=CR a fE fv 1∧C2 a
def v1{e:Prop}{c:Cd}(d:c=a∧e):c=a∧c=a∧e:=⟨d.1,d⟩
def Rw(p:gk a b)(o:i3 a){e:Cd}(g:e=fZ (ff (eX (dO (dM (fq (fE a))))))):mu e<mu a∨(mu e=mu a∧e=a∧acb a):=by
 have l:=pq p
 have i:=u1 p o
 have s:=nY l.1
 have f:=xI l.1 i
 have t:=pr s.1
 have n:=u2 f
 have h:=(rq t.1).1
 have k:=xJ n
 have q:=nX h.1
 have m:=xG h.1 k
 have r:=xH q.1 m
 refine (mX (qd (dN oN _)) (w9 Rq _) fun c d=>v1 (HR o c)).rU (j:=C2) ?_
 refine (mX (qd (dN qt _)) (w9 Xm _) fun c d=>v1 (J1 i c)).rU (j:=C3) ?_
 refine (mX J6 Ru fun c j=>v1 (HS f c j)).rU (j:=C4) ?_
 refine (mX OL Xr fun c j=>v1 (J3 n c)).rU (j:=C5) ?_
 refine (mX (qd (dN oi _)) (w9 Xk _) fun c d=>v1 (JZ k c)).rU (j:=C6) ?_
 refine (mX (qd (dN oj _)) (w9 Xn _) fun c d=>v1 (J2 m c)).rU (j:=C7) ?_
 refine (mX (qd (dN qs _)) (w9 Xl _) fun c d=>v1 (J0 r c)).rU (j:=fun a=>True) ?_
 exact .inr ⟨congrArg mu g,g,trivial⟩
def OM(c:kL a b):mu (ig a)<mu a∨(mu (ig a)=mu a∧ig a=ep a∧gR (ep a) b):=by
 have e:=pV c.jS c.gH
 have k:=lH c.cF
 have h:=CQ c.jS c.gH
 have f:=HQ c.jS c.gH
 have j:mu (ep a)≤mu a:=pH (jH h) f.1
 refine (Rw k.1 e.1 (e:=ig a) rfl).elim (fun d=>.inl (hH d j)) fun q=>?_
 obtain ⟨i,m,t,s,n,u,r,o,v,_⟩:=q
 refine (LR j).elim (fun d=>.inl (kT (jH i) d)) fun d=>.inr ⟨i.trans d,m,⟨k.1,e.1,e.2⟩,?_,?_,t,s,n,u,r,o,v⟩
 all_goals
  have l:=Rv c (f.2 (tC (jH h) f.1 d).2) (congrArg Cd.a2 (kj c.jS c.gH))
 ·exact (kj e.1 e.2).trans (congrArg (Cd.mk · _ _) (xC l))
 ·exact fun g p w=>(congrArg (fun g:R=>g.bV.b8) (l g p)).trans w
end
def Rx{a:R}{d:Bool}(b:a.bV=.d0)(e:a.cF d=ar):gZ a.a=ar:=by
 obtain ⟨c,g,i,f,j,h⟩:=a
 obtain rfl:c=.d0:=b
 exact uh (uh e)
def fa(a:R):bl:=if a.bV.b8 then .Z a.t else a.a
def xa(a b:bl):Bool:=(nt 1 a b).getD b2
def BD(b a:R):Bool:=b.bV==a.bV&&(xa (fa b) (fa a)&&(xa b.b a.b&&xa b.c a.c))
noncomputable def iM:List R→List R→Bool
 |[],[] =>ar
 |c::d,a::b=>BD c a&&iM d b
 |_,_=>b2
def E5:∀{c b:List R},iM c b=ar→c.length=b.length∧c.countP (·.bV.b8)=b.countP (·.bV.b8):=by
 intro c
 induction c with
 |nil=>
  intro b
  rcases b with _|⟨_,_⟩
  ·intro _
   exact ⟨rfl,rfl⟩
  ·intro a
   exact dy a
 |cons h c d=>
  intro b
  rcases b with _|⟨g,b⟩
  ·intro a
   exact dy a
  ·intro a
   simp only [iM,B6] at a
   obtain ⟨e,f⟩:=d a.2
   unfold BD at a
   simp only [B6,beq_iff_eq] at a
   (refine bT qD ?_;refine bT qD ?_;refine bT a.1.1 ?_;refine bT lZ ?_;refine bT lZ ?_;refine bT e ?_;refine bT f ?_)
   exact ⟨rfl,rfl⟩
noncomputable def d6:Nat→Cd→Cd
 | 0,a=>a
 |b+1,a=>if iM (ig a).a2 a.a2 then ig a else d6 b (ig a)
section
variable{a:Cd}{b:Bool}
def gR.ig(c:gR a b):ig a=a:=by
 unfold Mine.ig
 (refine bT c.xL ?_;refine bT c.Hg.1 ?_;refine bT c.Fw.1 ?_;refine bT c.M0.1 ?_;refine bT c.J5.1 ?_;refine bT c.Fx.1 ?_;refine bT c.Fy.1 ?_;refine bT c.Hh.1 ?_;rfl)
theorem gR.QU(d:gR a b):∀c,d6 c a=a
 | 0=>rfl
 |c+1=>by
  unfold d6
  refine bT d.ig ?_
  split
  ·rfl
  ·exact d.QU c
def Xs{c:Op}(d:(c==Op.kq)=ar):¬(c==Op.dt)=ar:=by
 refine bT (dr d) ?_;exact kx
def Ry(d:Nat):∀{a:Cd},kL a b→mu a+1≤d→gR (d6 d a) b∧fH a.nc (d6 d a).nc:=by
 induction d with
 |zero=>exact fun m i=>absurd i (Nat.not_succ_le_zero _)
 |succ d j=>
  intro a f i
  have h:=HO f.cF
  unfold d6
  refine (OM f).elim (fun g=>?_) fun ⟨g,k,e⟩=>?_
  ·split
   ·rename_i l
    have c:=E5 l
    exact absurd g (jI.mpr (jH (show a.a2.length+Jn a=(ig a).a2.length+Jn (ig a) from congr (congrArg Nat.add c.1.symm) c.2.symm)))
   ·have c:=j (pt f) (cu g (yz i))
    exact ⟨c.1,h.2.ci c.2⟩
  ·rw [← k] at e
   split
   ·exact ⟨e,h.2⟩
   ·rw [e.QU];exact ⟨e,h.2⟩
def gR.thr(c:gR a b){d:R}(f:d∈a.a2):dE a.a2 d=d:=by
 have e:=kj c.hM.jS c.hM.gH
 rw [c.xL] at e
 have j:a.a2=a.a2.map (dE a.a2):=congrArg Cd.a2 e
 obtain ⟨g,h⟩:=yA f
 have:=congrArg (fun i:List R=>i[g]?) j
 rw [i4,h] at this
 exact (dg this).symm
def gR.mr(e:gR a b){c:R}(d:c∈a.a2)(f:c.bV.b8=ar):mr a.a2 c.t=c.t∧(c.bV=.cI→gP a.a2 c.t=b2):=by
 have g:=e.thr d
 rw [Ay e.iV d,if_pos f] at g
 have h:Mine.mr a.a2 c.t=c.t:=congrArg R.t g
 refine ⟨h,fun j=>?_⟩
 cases i:gP a.a2 c.t with
 |false=>rfl
 |true=>
  have:=e.iV c d f
  unfold dE at this
  rw [if_pos f,if_pos (by (refine bT h ?_;refine bT i ?_;refine bT j ?_);rfl)] at this
  exact dy this
def IR{d:cb}(e:d=a.a2.map O):¬h6 d:=fun ⟨f,c⟩=>by
 rw [e] at c;exact sY f c
def gR.J7(f:gR a b){c:Nat}{e d:R}(v:a.a2[c]? =O e)(q:a.a2[c+1]? =O d)(w:a.c2 (c+1)=b2):
  (e.bV.i6&&d.bV== .gA)=b2∧((e.bV== .dt||e.bV== .kq)&&d.bV== .dt)=b2∧(e.bV== .d0&&d.bV.cg)=b2∧(e.bV.cg&&d.bV== .cI&&e.t==c+2)=b2∧
  (e.bV== .d0&&d.bV== .cI&&(match a.a2[d.t]? with|some t=>t.bV.cg|none=>b2))=b2:=by
 have h:c<a.a2.length-1:=Tz (fJ.mp q).1
 have p:(a.a2.map O)[c]? =O (O e):=dF.mpr v
 have r:(a.a2.map O)[c+1]? =O (O d):=dF.mpr q
 have i:∀{l:R→R→Option cb}{o n:Option R},j4 a (a.a2.map O) c l=a.a2.map O→l e d=O (fb (a.a2.map O) c o n)→(o=b1∨n=b1)→False:=fun {l o n} f A z=>by
  unfold j4 at f
  rw [p,r] at f
  refine IR ((?_:_=_).trans f) (Au p r z)
  show _=if a.c2 (c+1)=ar then _ else (l e d).getD _
  (refine bT w ?_;refine bT A ?_);rfl
 refine ⟨r5.mpr fun g=>i (l:=CN _ c) (f.Fx.2 c h) (if_pos g) (.inl rfl),r5.mpr fun g=>eE g fun j k=>oX j (fun m=>i (l:=zA _ c) (f.Hh.2 c h) ((if_pos k).trans (if_pos m)) (.inl rfl)) fun m=>i (l:=zA _ c) (f.Hh.2 c h) ((if_pos k).trans ((if_neg (Xs m)).trans (if_pos m))) (.inr rfl),r5.mpr fun g=>eE g fun j k=>i (l:=iR a _ c) (f.Hg.2 c h) ((if_pos j).trans (if_pos k)) (.inl rfl),r5.mpr fun g=>i (l:=CO _ c) (f.Fw.2 c h) (if_pos g) (.inr rfl),?_⟩
 cases u:a.a2[d.t]? with
 |none=>exact qz _
 |some t=>exact r5.mpr fun g=>eE g fun j y=>eE j fun x s=>i (l:=iR a _ c) (f.Hg.2 c h) ((if_pos x).trans ((if_neg (by refine bT (dr s) ?_;exact kx)).trans ((if_pos s).trans (by refine bT u ?_;exact if_pos y)))) (.inl rfl)
def gR.Xt(o:gR a b){c:Nat}{g d f:R}(j:a.a2[c]? =O g)(m:a.a2[c+1]? =O d)(i:a.a2[c+2]? =O f)(l:a.c2 (c+1)=b2)(k:a.c2 (c+2)=b2):(g.bV== .kq&&d.bV.fQ&&f.bV== .gA)=b2:=by
 have n:c<a.a2.length-2:=Tz (fJ.mp i).1
 have h:(a.a2.map O)[c]? =O (O g):=dF.mpr j
 refine r5.mpr fun p=>?_
 have e:=o.Fy.2 c n
 unfold fW at e
 rw [h,show (a.a2.map O)[c+1]? =O (O d) from dF.mpr m,show (a.a2.map O)[c+2]? =O (O f) from dF.mpr i] at e
 exact IR ((if_pos (by (refine bT p ?_;refine bT l ?_;refine bT k ?_);rfl)).symm.trans e) ⟨c,Al (c:=⟨a.a2.map O,[],[]⟩) b1 (O d) b1 (gC (c:=⟨a.a2.map O,[],[]⟩) h)⟩
end
def aj{a:Type}{b:Option a}{K:a→Prop}{c:a}(e:b=O c)(d:K c):@LJ a (fun f=>Prop) False K b:=e▸d
def gL{a:Bool}{b c:Prop}(e:a=ar)(d:b):@Gb (fun f=>Prop) c b a:=e▸d
def ee{b:Bool}{e a:Prop}(d:b=b2)(c:a):@Gb (fun f=>Prop) a e b:=d▸c
def cD{a:Bool}{c b:Prop}(e:a=ar→c)(d:a=b2→b):@Gb (fun f=>Prop) b c a:=by
 induction a with
 |true=>exact e rfl
 |false=>exact d rfl
def c8{b:KE}{a:bZ}{c d:bS}(e:b a d)(f:c=d):b a c:=f▸e
structure PC(C:cK)(k:Nat)(args:List bZ)(x:bl):Prop where
 eI:∀(σ:bS)(Q:KE),Q (.f x) σ→C k args σ Q
def pc{f d:cK}{e:Nat}{c:List bZ}{g:bl}(h:f=d)(j:PC d e c g){a:bS}{b:KE}(i:b (.f g) a):f e c a b:=h▸j.eI a b i
def Hi{g b:Nat}{c e:List bZ}{a:dz}{f:cW}{d:bS}{h:KE}(m:∀i:cK,i=vC cr g→Ag ⟨cr,i⟩ a f e d h)(k:cr.p9[b]? =O a)(l:a.cN=.cA f)(n:l5 a c=O e)(j:jJ b 1000=ar):vC cr (g+1) b c d h:=
 gL j (aj k (by refine bT l ?_;exact aj n (m _ rfl)))
def pf{i e:Nat}{f g:List bZ}{d:dz}{h:cW}{j:bl}(l:cr.p9[e]? =O d)(m:d.cN=.cA h)(p:l5 d f=O g)(k:jJ e 1000=ar)(q:∀(c:cK),c=vC cr i→∀(a:bS)(b:KE),b (.f j) a→Ag ⟨cr,c⟩ d h g a b):PC (vC cr (i+1)) e f j:=
 ⟨fun a b o=>Hi (fun c n=>q c n a b o) l m p k⟩
def aaf{j:Type}{l:cV→bS→KS→Prop}{k:List Nat}{n:Bool}{K:KS}(f:Nat→bS)(h:Nat→j→cV):∀{d:List bl}{a:Nat}{b:j},
  (∀(c:Nat)(e:bl)(b:j)(g:cV→bS→Prop),d[c]? =O e→(∀b,g (h (a+c+1) b) (f (a+c+1)))→jP (h (a+c) b) k n e fun q=>l q (f (a+c)) (jQ g K))→
  (∀b,K .cc (h (a+d.length) b) (f (a+d.length)))→jZ l k n K d (h a b) (f a):=by
 intro d
 induction d with
 |nil=>
  intro _ _ _ i
  exact i _
 |cons e p o=>
  intro a b m i
  exact m 0 e b _ rfl fun b=>o (a:=a+1) (fun c e b g s r=>nS a 1 c▸m (c+1) e b g s (nS a 1 c▸r)) (nS a 1 p.length▸i)
def VF{f:Type}{h:cV→bS→KS→Prop}{i:List Nat}{k:Bool}{K:KS}(d:Nat→bS)(e:Nat→f→cV){c:List bl}{b:f}
  (n:∀(a:Nat)(g:bl)(b:f)(j:cV→bS→Prop),c[a]? =O g→(∀b,j (e (a+1) b) (d (a+1)))→jP (e a b) i k g fun m=>h m (d a) (jQ j K))
  (l:∀b,K .cc (e c.length b) (d c.length)):jZ h i k K c (e 0 b) (d 0):=
 aaf d e (a:=0) (fun a=>(kU a).symm▸n a) ((kU c.length).symm▸l)
def o3{b c:Type}{d:b→c}{g:List b}{e:Nat}{a:c}(f:(g.map d)[e]? =O a):∃h,g[e]? =O h∧d h=a:=by
 rw [i4] at f
 exact tm.mp f
def qe{h i:Type}{l:cV→bS→KS→Prop}{k:List Nat}{m:Bool}{K:KS}(c:Nat→bS)(d:Nat→i→cV){j:h→bl}{e:List h}{a:i}
  (t:∀(b:Nat)(g:h)(a:i)(f:cV→bS→Prop),e[b]? =O g→(∀a,f (d (b+1) a) (c (b+1)))→jP (d b a) k m (j g) fun o=>l o (c b) (jQ f K))
  (n:∀a,K .cc (d e.length a) (c e.length)):jZ l k m K (e.map j) (d 0 a) (c 0):=
 VF c d (fun b g a f s p=>by
  obtain ⟨r,q,rfl⟩:=o3 s
  exact t b r a f q p) (by rw [et];exact n)
def xM{e:List bl}{b:Nat}{d:bl}(c:(eV e)[b]? =O d):∃a,e[b]? =O a∧d=.cQ [.Z b,a] :=by
 unfold eV at c
 rw [i4,T7] at c
 refine bU fun f=>?_
 obtain ⟨i,g,rfl⟩:=tm.mp c
 obtain ⟨a,h,rfl⟩:=tm.mp g
 refine f ?_;try clear f
 exact ⟨a,h,by rw [kU]⟩
def DT(a:List bl):(eV a).length=a.length:=by unfold eV;(rewrite [et];refine bT Ua ?_;rfl)
def Fz{h i:Type}{l:cV→bS→KS→Prop}{k:List Nat}{n:Bool}{K:KS}(c:Nat→bS)(d:Nat→i→cV){j:h→bl}{e:List h}{a:i}
  (v:∀(b:Nat)(g:h)(a:i)(f:cV→bS→Prop),e[b]? =O g→(∀a,f (d (b+1) a) (c (b+1)))→jP (d b a) k n (.cQ [.Z b,j g]) fun p=>l p (c b) (jQ f K))
  (o:∀a,K .cc (d e.length a) (c e.length)):jZ l k n K (eV (e.map j)) (d 0 a) (c 0):=
 VF c d (fun b g a f u r=>by
  refine bU fun m=>?_
  obtain ⟨w,q,rfl⟩:=xM u
  obtain ⟨t,s,rfl⟩:=o3 q
  refine m ?_;try clear m
  exact v b t a f s r) (by rw [DT,et];exact o)
def Xu{g:Type}{j:cV→bS→KS→Prop}{h:List Nat}{l:Bool}{K:KS}(d:Nat→bS)(e:Nat→g→cV){c:Nat}{b:g}
  (r:∀(a:Nat)(b:g)(f:cV→bS→Prop),a<c→(∀b,f (e (a+1) b) (d (a+1)))→jP (e a b) h l (.Z a) fun o=>j o (d a) (jQ f K))
  (m:∀b,K .cc (e c b) (d c)):jZ j h l K (dL (c:Int)) (e 0 b) (d 0):=by
 have n:dL (c:Int)=(f5 c).map fun (a:Nat)=>bl.Z a:=by unfold dL;rw [zm]
 refine bT n ?_
 exact qe d e (fun a s b f q p=>by
  obtain ⟨i,k⟩:=fJ.mp q
  rw [pk] at i
  rw [Ma] at k
  subst k
  exact r a b f i p) (by refine bT pk ?_;exact m)
def xN{h c k:Type}{o:cV→bS→KS→Prop}{m:List Nat}{q:Bool}{l:h→bl}{K:KS}(n:c→h→c)(f:c→bS)(i:k→cV):∀{d:List h}{b:c}{a:k},
  (∀(b:c)(e:h)(a:k)(g:cV→bS→Prop),e∈d→(∀a,g (i a) (f (n b e)))→jP (i a) m q (l e) fun t=>o t (f b) (jQ g K))→
  (∀a,K .cc (i a) (f (d.foldl n b)))→jZ o m q K (d.map l) (i a) (f b):=by
 intro d
 induction d with
 |nil=>
  intro _ _ _ j
  exact j _
 |cons e w r=>
  intro b a p j
  exact p b e a _ fD fun v=>r (fun b u a g s=>p b u a g (ia _ s)) j
def nN{a:Bool}(b:(!a)=ar):a=b2:=by
 induction a with
 |false=>rfl
 |true=>exact b.symm
def pW{a:Bool}(b:(!a)=b2):a=ar:=by
 induction a with
 |true=>rfl
 |false=>exact b.symm
def FA{a b:Nat}(c:a≤b):sn a b=O ():=if_pos c
def eh{b d:Type}{c:b→d}{a:List b}(e:a.length≤500):sn (a.map c).length 100000=O ():=(et c (as:=a)).symm▸if_pos (cu e (by decide))
def Xv{d:Type}{g:cV→bS→List bl→KL→Prop}{i:List Nat}{m:Bool}{l:cV}{e:bS}(h:d→bl)(k:d→List bl):∀{b:List d}{a:List bl}{K:KL},
  (∀(c:d)(a:List bl)(K:KL),c∈b→K (a++k c) e→jP l i m (h c) fun p=>g p e a K)→K (a++b.flatMap k) e→og g l i m (b.map h) e a K:=by
 intro b
 induction b with
 |nil=>
  intro a K _ f
  rw [Ud,kX] at f;exact f
 |cons c r n=>
  intro a K j f
  exact j c a _ fD (n (fun q a K o=>j q a K (ia _ o)) (by (rewrite [m8];refine gT Mc ?_);exact f))
def iD{c:Type}{h:cV→bS→List bl→KL→Prop}{i:List Nat}{k:Bool}{g:cV}{b:bS}(e d:c→bl){f:List c}{K:KL}
  (n:∀(a:c)(j:List bl)(K:KL),a∈f→K (j++[d a]) b→jP g i k (e a) fun l=>h l b j K) (m:K (f.map d) b):og h g i k (f.map e) b [] K:=
 Xv e (fun a=>[d a]) n (by (rewrite [Gp];refine gT List.map_eq_flatMap ?_);exact m)
def k6{e:Type}{m:cV→bS→List bl→KL→Prop}{o:List Nat}{r:Bool}{q:cV}{f:bS}(n:e→bl)(j:e→Bool)(p:e→bl):∀{d:List e}{a:List bl}{K:KL},
  (∀(b:e)(a:List bl)(K:KL),b∈d→(j b=ar→K (a++[p b]) f)→(j b=b2→K a f)→jP q o r (n b) fun s=>m s f a K)→K (a++(d.filter j).map p) f→og m q o r (d.map n) f a K:=by
 intro d
 induction d with
 |nil=>
  intro a K _ c
  rw [Gq,Ck,kX] at c;exact c
 |cons b t l=>
  intro a K g c
  exact g b a _ fD
   (fun i=>l (fun k a K h=>g k a K (ia _ h)) (by rw [m8];rw [List.filter_cons_of_pos i] at c;exact c))
   (fun i=>l (fun k a K h=>g k a K (ia _ h)) (by rw [List.filter_cons_of_neg (by refine bT i ?_;exact kx)] at c;exact c))
def Xw{i c n:Type}{q:cV→bS→KS→Prop}{p:List Nat}{s:Bool}{o:i→bl}{K:KS}(f:c→i→c)(g:c→Prop)(k:c→n→cV){j:bS}:∀{d:List i}{a:c}{b:n},
  (∀(a:c)(e:i)(b:n)(h:cV→bS→Prop),e∈d→g a→(g (f a e)→∀b,h (k (f a e) b) j)→jP (k a b) p s (o e) fun v=>q v j (jQ h K))→
  g a→(g (d.foldl f a)→∀b,K .cc (k (d.foldl f a) b) j)→jZ q p s K (d.map o) (k a b) j:=by
 intro d
 induction d with
 |nil=>
  intro _ _ _ m l
  exact l m _
 |cons e z t=>
  intro a b r m l
  exact r a e b _ fD m fun w y=>t (fun a x b h u=>r a x b h (ia _ u)) w l
def wo{l:cV→bS→KS→Prop}{j:List Nat}{n:Bool}{K:KS}(g:cV→bS→Prop):∀{d:List bl},
  (∀(c:bl)(a:cV)(b:bS)(f:cV→bS→Prop),c∈d→g a b→(∀e m,g e m→f e m)→jP a j n c fun e=>l e b (jQ f K))→
  ∀{a:cV}{b:bS},g a b→(∀a b,g a b→K .cc a b)→jZ l j n K d a b:=by
 intro d
 induction d with
 |nil=>
  intro _ _ _ i h
  exact h _ _ i
 |cons c s o=>
  intro k _ _ i h
  exact k c _ _ _ fD i fun p p q=>o (fun c a b f r=>k c a b f (ia _ r)) q h
def DU{c:Type}{e:c→bl}{f:List c}{d:bl}(j:d∈eV (f.map e)):∃(a:Nat)(b:c),f[a]? =O b∧d=.cQ [.Z a,e b] :=by
 refine bU fun g=>?_
 obtain ⟨a,k⟩:=yA j
 obtain ⟨l,i,rfl⟩:=xM k
 obtain ⟨b,h,rfl⟩:=o3 i
 refine g ?_;try clear g
 exact ⟨a,b,h,rfl⟩
def eR(a:R):bl:=.gJ 0 [.ad a.bV.cT,fa a,a.b,a.c,.Z a.e6]
def hW:Option R→bl
 |none=>.bX
 |some a=>eR a
noncomputable def k0(a:Ct):bl:=.gJ 1 [a.mF,.Z a.d1,.Z a.iz,.Z a.cP,.Z a.dG]
structure Hd where
 dm:bl
 cJ:bl
 b9:bl
 gc:bl
 fB:List bl
noncomputable def e8(a:Nat):bl:=.Z a
noncomputable abbrev cU(a:List Nat):List bl:=a.map e8
def cf(a:Hd)(b:Cd):bl:=.gJ 2 [a.dm,a.cJ,a.b9,a.gc,.a3 (b.a2.map eR),.a3 (b.b6.map k0),.a3 a.fB,.a3 (cU b.cp),.bX]
def jf{b:Op→Bool}(c:fu.all b=ar)(a:Op):b a=ar:=lD.mp c a (by induction a<;>first|decide|exact (by decide:Op.gz ()∈fu))
noncomputable def eA(c:Option Bool)(a:Bool):Bool:=match c with
 |some b=>b==a
 |none=>b2
def pw{a:Option Bool}{b:Bool}(c:eA a b=ar):a=O b:=by
 induction a with
 |none=>exact dy c
 |some d=>(refine bT (dr c) ?_;rfl)
noncomputable def Ww(a:Option Bool):Option Bool:=a.map (!·)
def ol{d:bS}{c:List bl}{b:Op→Bool}(e:(fu.all fun a=>eA (ic (.ad a.cT) c) (b a))=ar)(a:Op):fh cr d .ft (.f (.ad a.cT)) (.f (.cQ c))=O (b a):=pw (jf e a)
def qf{d:bS}{c:List bl}{b:Op→Bool}(e:(fu.all fun a=>eA (ic (.ad a.cT) c) (b a))=ar)(a:Op):fh cr d .ft (.f (.ad a.cT)) (.f (.a3 c))=O (b a):=pw (jf e a)
def DV{d:bS}{c:List bl}{b:Op→Bool}(e:(fu.all fun a=>eA (ic (.ad a.cT) c) (b a))=ar)(a:Op):fh cr d .fY (.f (.ad a.cT)) (.f (.cQ c))=O (!b a):=congrArg Ww (pw (jf e a))
noncomputable def FB:List bl:=[.ad "jump",.ad "jumpif",.ad "jumpunless",.ad "jumpnil"]
noncomputable def VG:List bl:=[.ad "jump",.ad "leave",.ad "out",.ad "again",.ad "nomatch",.ad "fail"]
noncomputable def ND:List bl:=[.ad "push",.ad "self",.ad "getl",.ad "geti",.ad "getg",.ad "dup",.ad "blockgiven"]
noncomputable def IS:List bl:=[.ad "setl",.ad "seti",.ad "setg",.ad "setc"]
noncomputable def rt:List bl:=[.ad "jumpif",.ad "jumpunless"]
noncomputable def NE:List bl:=[.ad "jump",.ad "leave",.ad "fail"]
def IT:(fu.all fun a=>eA (ic (.ad a.cT) FB) a.b8)=ar:=by kernel_rfl
def Xx:(fu.all fun a=>eA (ic (.ad a.cT) VG) a.dR)=ar:=by kernel_rfl
def BE:(fu.all fun a=>eA (ic (.ad a.cT) ND) a.i6)=ar:=by kernel_rfl
def xO:(fu.all fun a=>eA (ic (.ad a.cT) IS) a.fQ)=ar:=by kernel_rfl
def px:(fu.all fun a=>eA (ic (.ad a.cT) rt) a.cg)=ar:=by kernel_rfl
def Rz:(fu.all fun a=>eA (ic (.ad a.cT) NE) a.dR)=ar:=by kernel_rfl
def gr(b a:Op):(b.cT==a.cT)=(b==a):=by
 have:=jf (b:=fun b=>fu.all fun a=>(b.cT==a.cT)==(b==a)) (by kernel_rfl) b
 exact dr (jf (b:=fun a=>(b.cT==a.cT)==(b==a)) this a)
section
variable{a:bS}{fz:Bool}
def om(b:Op):fh cr a .ft (.f (.ad b.cT)) (.f (.cQ FB))=O b.b8:=ol IT b
def E6(b:Op):fh cr a .fY (.f (.ad b.cT)) (.f (.cQ FB))=O (!b.b8):=DV IT b
def gU(b:Op):fh cr a .ft (.f (.ad b.cT)) (.f (.cQ rt))=O b.cg:=ol px b
def sH(b:Op):fh cr a .fY (.f (.ad b.cT)) (.f (.cQ VG))=O (!b.dR):=DV Xx b
def xP(b:Op):fh cr a .ft (.f (.ad b.cT)) (.f (.cQ NE))=O b.dR:=ol Rz b
def rv{b c:Nat}(d:b<c)(e:c≤100000):g8 (b:Int) c=O b:=by
 unfold g8
 (refine bT (if_pos (sb b)) ?_;refine bT (if_pos ⟨kY.mpr d,GS (kY.mpr (hH d e)) (by decide)⟩) ?_;rw [zm])
def xQ{b:List bl}(c:b.length≤100000):eW a fz 0 [.f (.a3 b)] =O (.f (.Z b.length),a):=if_pos c
def eZ{c:Type}{d:c→bl}{b:List c}(f:b.length≤500):eW a fz 0 [.f (.a3 (b.map d))] =O (.f (.Z b.length),a):=by
 have e:=et d (as:=b)
 (refine bT (xQ (e▸cu f (by decide))) ?_;refine bT e ?_;rfl)
def eo(a:bS)(b:Option dw)(c:bS):(a++b::c)[a.length]? =O b:=by simp
def kM(a:bS)(c b:Option dw)(d:bS):(a++c::b::d)[a.length+1]? =O b:=by
 rw [la (fM _)];simp
def zB(a:bS)(e d b:Option dw)(c:bS):(a++e::d::b::c)[a.length+2]? =O b:=by
 rw [la (fg _ 2)];simp
def M2(a:bS)(f d c b:Option dw)(e:bS):(a++f::d::c::b::e)[a.length+3]? =O b:=by
 rw [la (fg _ 3)];simp
def kk(a:bS)(d b:Option dw)(c:bS):(a++d::c).set a.length b=a++b::c:=by
 refine bT (Cc _ _ (dX _)) ?_;simp
def zC(a:bS)(d e c:Option dw)(b:bS):(a++d::e::b).set (a.length+1) c=a++d::c::b:=by
 refine bT (Cc _ _ (fM _)) ?_;simp
def aag(a:bS)(e b f d:Option dw)(c:bS):(a++e::b::f::c).set (a.length+2) d=a++e::b::d::c:=by
 refine bT (Cc _ _ (fg _ 2)) ?_;simp
def VH(a:bS)(f c b g e:Option dw)(d:bS):(a++f::c::b::g::d).set (a.length+3) e=a++f::c::b::e::d:=by
 refine bT (Cc _ _ (fg _ 3)) ?_;simp
def jB(a b:bS):(a++b).take a.length=a:=by simp
def lw{b:List bl}(c:b.length≤100000):iI a ar b=O (.f (.a3 b),a):=if_pos c
def g4{b:List bl}(c:b.length≤100000):iI a b2 b=O (.cq a.length,a++[O (.a3 b)]):=by unfold iI QP;exact if_pos c
def lh{d:Type}{c:d→bl}{b:List d}(e:b.length≤500):iI a ar (b.map c)=O (.f (.a3 (b.map c)),a):=lw (et c (as:=b)▸cu e (by decide))
def aah{d:Type}{c:d→bl}{b:List d}(e:b.length≤500):iI a b2 (b.map c)=O (.cq a.length,a++[O (.a3 (b.map c))]):=g4 (et c (as:=b)▸cu e (by decide))
def ON{e:Type}(c:e):∀b,(ky b [c]).flatten=ky b c:=by
 intro b
 induction b with
 |zero=>
  exact rfl
 |succ b d=>
  exact congrArg (c:: ·) (d)
def u4(c:bl)(b:Nat)(d:b≤600):pn a fz .kF (.f (.a3 [c])) (.f (.Z b))=iI a fz (ky b c):=
 (if_pos ⟨cu d (by decide),er rfl⟩).trans (congrArg (iI a fz) (ON c b))
def HT(c:bl)(b:Nat)(d:b<600):pn a fz .kF (.f (.a3 [c])) (.f (.Z (b+1)))=iI a fz (ky (b+1) c):=u4 c (b+1) d
def wp{c:Nat}{b:dw}(d:a[c]? =O (O b)):wP a c=O b:=congrArg (jG · id) d
def l8{b:Nat}{c:List bl}(d:a[b]? =O (O (.a3 c))):il a b=O c:=congrArg (jG · dw.uc) (wp d)
def FC{b:Nat}{c:List bl}(d:a[b]? =O (O (.a3 c))):kI a (.cq b)=O c:=l8 d
def BF{b:Nat}{c:List (Sum Int b4×bl)}(d:a[b]? =O (O (.d4 c))):il a b=b1:=congrArg (jG · dw.uc) (wp d)
def qP{c:Nat}{b:List (Sum Int b4×bl)}(d:a[c]? =O (O (.d4 b))):ml a c=O b:=congrArg (jG · dw.Vi) (wp d)
def wq{c b:Nat}{d:List bZ}(e:a[c]? =O (O (.jW b d))):wQ a c=O (b,d):=congrArg (jG · dw.Vj) (wp e)
def VI{c:Nat}{b:List bl}{d:bl}(f:a[c]? =O (O (.a3 b)))(g:b.length≤100000)(e:b[b.length-1]? =O d):jk cr a .gA (.cq c) [] =O (.f d,a.set c (O (.a3 (b.eraseIdx (b.length-1))))):=by
 refine (congrArg (jG · _) (l8 f)).trans ((if_pos g).trans ?_)
 refine bT e ?_;rfl
def aai{d c:Nat}{e:Int}{b:List bl}{f:bl}(i:a[d]? =O (O (.a3 b)))(j:b.length≤100000)(g:g8 e b.length=O c)(h:b[c]? =O f):jk cr a .gA (.cq d) [.f (.Z e)] =O (.f f,a.set d (O (.a3 (b.eraseIdx c)))):=by
 refine (congrArg (jG · _) (l8 i)).trans ((congrArg (jG · _) g).trans ((if_pos j).trans ?_))
 refine bT h ?_;rfl
def js{b:Nat}{c:List bl}(d:a[b]? =O (O (.a3 c))):Wo a (.cq b)=O (.f (.a3 c),a.set b b1):=congrArg (nG fun c=>(bZ.f (.a3 c),a.set b b1)) (l8 d)
def FD{b:Nat}{c:List bl}(g:a[b]? =O (O (.a3 c))){d:Nat}{e:bl}(f:d<c.length)(h:c.length≤100000):l4 a (.cq b) (.f (.Z d)) (.f e)=O (a.set b (O (.a3 (c.set d e)))):=by
 show (il a b).elim _ _=_
 refine bT (l8 g) ?_
 refine (if_pos (e:=b1) (sb d)).trans ?_
 (refine bT (rv f h) ?_;rfl)
def io{b:Nat}{c:List bl}(e:a[b]? =O (O (.a3 c)))(f:c.length≤100000){d:bl}:jk cr a .eJ (.cq b) [.f d] =O (.f .bX,a.set b (O (.a3 (c++[d])))):=by
 show (il a b).bind _=_
 refine bT (l8 e) ?_
 exact if_pos f
def dK{b:Nat}{d:List bl}(c:a[b]? =O (O (.a3 d))):jN cr a (.cq b) "append"=O .eJ:=by
 show (il a b).elim _ _=_
 refine bT (l8 c) ?_;rfl
def mY{b:Nat}{d:List bl}(c:a[b]? =O (O (.a3 d))):jN cr a (.cq b) "pop"=O .gA:=by
 show (il a b).elim _ _=_
 refine bT (l8 c) ?_;rfl
def qu{b:List bl}{c:Nat}{e:bl}(d:b[c]? =O e)(f:b.length≤100000):jX cr a (.f (.a3 b)) (.f (.Z c))=O e:=
 (congrArg (jG · (b[·]?)) (rv (fJ.mp d).1 f)).trans d
def IU{b:List bl}{c:Nat}{e:bl}(d:b[c]? =O e)(f:b.length≤100000):jX cr a (.f (.cQ b)) (.f (.Z c))=O e:=
 (congrArg (jG · (b[·]?)) (rv (fJ.mp d).1 f)).trans d
def hB{c:Type}{d:c→bl}{b:List c}{e:Nat}{f:c}(g:b[e]? =O f)(h:b.length≤500):jX cr a (.f (.a3 (b.map d))) (.f (.Z e))=O (d f):=
 qu (by (rewrite [i4];refine bT g ?_);rfl) (et d (as:=b)▸cu h (by decide))
def xb{b:Nat}{c:List bl}(d:a[b]? =O (O (.a3 c))):ud a (.cq b)=O (.a3 c):=congrArg (nG bl.a3) (l8 d)
def zD{c:Nat}{b:List bl}{d:Nat}{f:bl}(g:a[c]? =O (O (.a3 b)))(e:b[d]? =O f)(h:b.length≤100000):jX cr a (.cq c) (.f (.Z d))=O f:=by
 show (ud a (.cq c)).elim _ _=_
 refine bT (xb g) ?_
 show (g8 d b.length).bind _=_
 rw [rv (fJ.mp e).1 h]
 exact e
def uo{b:Nat}{c:List bl}(e:a[b]? =O (O (.a3 c)))(d:c.length≤100000):eW a fz 0 [.cq b] =O (.f (.Z c.length),a):=by
 show (ud a (.cq b)).bind _=_
 refine bT (xb e) ?_
 exact if_pos d
end
def fi{a:R}(b:a.bV.b8=ar):fa a=.Z a.t:=by unfold fa;(refine bT (if_pos b) ?_;rfl)
def py(b:List Nat)(a:Nat):cU b++[.Z a] =cU (b++[a]):=by simp [cU,e8]
def RA{i:Nat}(a:Option R)(e:List bl)(d:Op→Bool)(h:(fu.all fun c=>eA (ic (.ad c.cT) e) (d c))=ar):PC (vC cr (i+1)) 19 [.f (hW a),.f (.cQ e)] (.b3 (match a with|some b=>d b.bV|none=>b2)):=pf rfl rfl rfl rfl fun l j k f g=>by
 induction a with
 |none=>exact c8 (b:=f) g eO
 |some b=>
  apply aj;exact ol h b.bV
  exact c8 (b:=f) g eO
def RB{e:Nat}(a:bl)(f:gZ a=ar):PC (vC cr (e+1)) 20 [.f a] (.b3 (dI a)):=pf rfl rfl rfl rfl fun i g j b c=>by
 cases a with
 |bX=>exact c8 (b:=b) c eO
 |b3 d=>induction d<;>exact c8 (b:=b) c eO
 |Z h=>exact c8 (b:=b) c eO
 |ad k=>exact c8 (b:=b) c eO
 |_=>exact dy f
noncomputable def DX(b:Nat)(c:Nat→Bool):dw:=.a3 ((f5 b).map fun a=>.b3 (c a))
def OO(c a:Nat)(h:Nat→Bool):((f5 c).map fun b=>bl.b3 (h b)).set a (.b3 ar)=(f5 c).map fun b=>bl.b3 (h b||a==b):=by
 apply vQ
 intro d
 rw [Mb,i4,i4]
 by_cases e:a=d
 ·subst e
  by_cases g:a<c
  ·simp [g]
  ·simp [g]
 ·refine bT (if_neg e) ?_
  cases i:(f5 c)[d]? with
  |none=>rfl
  |some k=>
   obtain ⟨j,f⟩:=fJ.mp i
   rw [Ma] at f
   subst f
   have:(a==d)=b2:=beq_false_of_ne e
   (rewrite [F8,F8];refine bT this ?_;rw [vK])
def BG(a:Nat)(c:Nat→Bool):((f5 a).map fun b=>bl.b3 (c b)).length=a:=by (rewrite [et];refine bT pk ?_;rfl)
def IV{b a:Nat}{c:Nat→Bool}(d:a<b):((f5 b).map fun a=>bl.b3 (c a))[a]? =O (.b3 (c a)):=by
 rw [i4,L6 d];rfl
def IW{c:bS}{b a d:Nat}{e:Nat→Bool}(h:c[b]? =O (O (DX a e)))(j:d<a)(i:a≤1000):l4 c (.cq b) (.f (.Z d)) (.f (.b3 ar))=O (c.set b (O (DX a fun f=>e f||d==f))):=by
 have g:=BG a e
 (refine bT (FD h (g.symm▸j) (g.symm▸cu i (by decide))) ?_;rw [OO]);rfl
noncomputable def wu(b:Bool)(c:Nat)(d:Nat→Bool):Nat→Bool:=fun a=>d a||(b&&c==a)
def Xy(b:Nat)(a:Nat→Bool):wu b2 b a=a:=funext fun c=>by unfold wu;rw [Tr,vK]
def BH{e:Type}(f:e→Bool)(g:e→Nat):∀(c:List e)(b:Nat→Bool),c.foldl (fun b a=>wu (f a) (g a) b) b=fun d=>b d||c.any fun a=>f a&&g a==d:=by
 intro c
 induction c with
 |nil=>
  intro b
  exact funext fun d=>(vK _).symm
 |cons a c h=>
  intro b
  (refine bT Gr ?_;rw [h]);funext d;(refine bT Gv ?_;rw [← Tu]);rfl
def RD(b:Cd):b.cp.foldl (fun a d=>wu ar d a) (b.b6.foldl (fun a g=>wu ar g.cP a) (b.a2.foldl (fun a c=>wu c.bV.b8 c.t a) fun e=>b2))=b.c2:=by
 rw [BH (fun c:R=>c.bV.b8) (·.t),BH (fun e=>ar) Ct.cP,BH (fun _:Nat=>ar) (fun d=>d)]
 funext f
 unfold Cd.c2
 refine bT List.contains_eq_any_beq ?_
 simp [Tu,ML (a:=f)]
section
variable{d:Nat}{a:bS}{fz:Bool}
def IX{b:Nat}(c:b≤600):iI a b2 (ky b (bl.b3 b2))=O (.cq a.length,a++[O (DX b fun e=>b2)]):=by
 unfold DX;rw [g4 (by refine bT L3 ?_;exact cu c (by decide)),Uh,pk]
def RE(l:Hd)(c:Cd)(q:i3 c)(t:c.a2.length≤500)(u:c.b6.length≤500)(z:c.cp.length≤500):PC (vC cr (d+1)) 21 [.f (cf l c)] (.a3 ((f5 (c.a2.length+1)).map fun x=>.b3 (c.c2 x))):=pf rfl rfl rfl rfl fun C A a y v=>by
 let g:(Nat→Bool)→bS:=fun b=>a++[O (DX (c.a2.length+1) b)]
 have p:∀{b j},j≤c.a2.length→l4 (g b) (.cq a.length) (.f (.Z j)) (.f (.b3 ar))=O (g (wu ar j b)):=fun {b j} w=>by
  (refine bT (IW (eo _ _ _) (vM w) (by lia)) ?_;rw [kk]);rfl
 apply aj;exact eZ t
 apply aj;exact (HT _ _ (by lia)).trans (IX (by lia))
 apply aj;exact eh t
 refine xN (fun b k=>wu k.bV.b8 k.t b) g (fun f=>[O (.f (cf l c)),O (.cq a.length),f,b1,b1]) (fun b k f s h e=>?_) fun f=>?_
 ·apply aj;exact om _
  refine cD (fun i=>?_) fun i=>?_
  ·apply aj;refine bT (fi i) ?_;exact p (q.iV k h i)
   rw [i] at e;exact e _
  ·rw [i,Xy] at e;exact e _
 apply aj;exact eh u
 refine xN (fun b n=>wu ar n.cP b) g (fun m=>[O (.f (cf l c)),O (.cq a.length),f,m,b1]) (fun b n m s h e=>?_) fun m=>?_
 ·apply aj;exact p (q.b6 n h).2.2
  exact e _
 apply aj;exact eh z
 refine xN (fun b o=>wu ar o b) g (fun r=>[O (.f (cf l c)),O (.cq a.length),f,m,r]) (fun b o r s h e=>?_) fun r=>?_
 ·apply aj;exact p (q.cp o h)
  exact e _
 apply aj;exact js (eo _ _ _)
 rw [RD]
 exact c8 (b:=y) v (by rw [kk,jB])
def o4(c g e b f:bl):PC (vC cr (d+1)) 1000 [.f c,.f g,.f e,.f b,.f f] (.gJ 0 [c,g,e,b,f]):=⟨fun a h i=>c8 (b:=h) i eO⟩
def Az(c g e b f:bl):PC (vC cr (d+1)) 1001 [.f c,.f g,.f e,.f b,.f f] (.gJ 1 [c,g,e,b,f]):=⟨fun a h i=>c8 (b:=h) i eO⟩
def DY(e g c f i b j h:bl):PC (vC cr (d+1)) 1002 [.f e,.f g,.f c,.f f,.f i,.f b,.f j,.f h] (.gJ 2 [e,g,c,f,i,b,j,h,.bX]):=⟨fun a k l=>c8 (b:=k) l eO⟩
def lI(b:R)(c:bl):PC (vC cr (d+2)) 1 [.f (eR b),.f c] (.gJ 0 [.ad b.bV.cT,c,b.b,b.c,.Z b.e6]):=pf rfl rfl rfl rfl fun h e a f g=>pc e (o4 ..) (c8 (b:=f) g eO)
def q2(b:Hd)(h:Cd)(f e c g:bl):PC (vC cr (d+2)) 5 [.f (cf b h),.f f,.f e,.f c,.f g] (.gJ 2 [b.dm,b.cJ,b.b9,b.gc,f,e,g,c,.bX]):=pf rfl rfl rfl rfl fun l i a j k=>pc i (DY ..) (c8 (b:=j) k eO)
def DZ(c:Ct)(b:Nat):PC (vC cr (d+1)) 3 [.f (k0 c),.f (.Z b)] (.b3 (c.c4 b)):=pf rfl rfl rfl rfl fun i f a h e=>by
 have f:c.c4 b=(dY ((c.d1:Int)≤b)&&dY ((b:Int)<c.iz)):=by
  unfold Ct.c4
  rw [decide_eq_decide.mpr (pN (m:=c.d1) (n:=b)),decide_eq_decide.mpr (kY (n:=b) (m:=c.iz))]
 rw [f] at e
 refine cD (fun g=>?_) fun g=>?_<;>(rw [g] at e;exact c8 (b:=h) e eO)
def AA(c:Nat→Nat)(b:R)(e:b.bV.b8=ar):eR (b.iY c)=.gJ 0 [.ad b.bV.cT,.Z (c b.t),b.b,b.c,.Z b.e6] :=by
 unfold R.iY eR fa
 simp only [e,if_true]
def J8(c:Nat→Nat)(b:R)(e:b.bV.b8=b2):b.iY c=b:=by unfold R.iY;rw [if_neg (by refine bT e ?_;decide)]
def FE(b:cb)(c:Nat):List bl:=(f5 c).map fun e=>.Z (c6 b e)
def RF(c:cb)(b:Nat):(FE c b).length=b:=by unfold FE;(rewrite [et];refine bT pk ?_;rfl)
def RG{c:cb}{e b:Nat}(f:b<e):(FE c e)[b]? =O (.Z (c6 c b)):=by
 unfold FE
 rw [i4,L6 f];rfl
def D2(b:cb)(c:Nat):FE b c++[.Z (c6 b c)] =FE b (c+1):=by
 unfold FE
 (refine bT vT ?_;refine bT r8 ?_);rfl
def kp(b:cb)(c:Nat):List bl:=((b.take c).filterMap id).map eR
def FF(b:cb)(c:Nat):(kp b c).length=c6 b c:=et ..
def RI{b:cb}{c:Nat}(e:b[c]? =O b1):kp b (c+1)=kp b c:=by unfold kp;(refine bT qC ?_;refine bT e ?_);simp
def RJ{b:cb}{c:Nat}{e:R}(f:b[c]? =O (O e)):kp b (c+1)=kp b c++[eR e] :=by unfold kp;(refine bT qC ?_;refine bT f ?_);simp
def aaj(b:cb)(c:Nat):c6 b c≤b.length:=cu (vN _ _) (yB ..)
def qQ{c:Option dw}{b:List bl}(e:b.length≤100000):iI (a++[c]) b2 b=O (.cq (a.length+1),a++[c,O (.a3 b)]):=by (refine bT (g4 e) ?_;rewrite [m8];refine bT dZ ?_);rfl
def RK{c e:Option dw}{b:List bl}(f:b.length≤100000):iI (a++[c,e]) b2 b=O (.cq (a.length+2),a++[c,e,O (.a3 b)]):=by (refine bT (g4 f) ?_;rewrite [m8];refine bT dZ ?_);rfl
def RM{f e c:Option dw}{b:List bl}(g:b.length≤100000):iI (a++[f,e,c]) b2 b=O (.cq (a.length+3),a++[f,e,c,O (.a3 b)]):=by (refine bT (g4 g) ?_;rewrite [m8];refine bT dZ ?_);rfl
def on{b:List bl}{e:bS}{c:bl}(f:b.length≤100000):jk cr (a++O (.a3 b)::e) .eJ (.cq a.length) [.f c] =O (.f .bX,a++O (.a3 (b++[c]))::e):=by (refine bT (io (eo _ _ _) f) ?_;rw [kk])
def VJ{b:List bl}{f:Option dw}{e:bS}{c:bl}(g:b.length≤100000):jk cr (a++f::O (.a3 b)::e) .eJ (.cq (a.length+1)) [.f c] =O (.f .bX,a++f::O (.a3 (b++[c]))::e):=by (refine bT (io (kM _ _ _ _) g) ?_;rw [zC])
def aak{b:List bl}{h g f:Option dw}{e:bS}{c:bl}(i:b.length≤100000):jk cr (a++h::g::f::O (.a3 b)::e) .eJ (.cq (a.length+3)) [.f c] =O (.f .bX,a++h::g::f::O (.a3 (b++[c]))::e):=by (refine bT (io (M2 _ _ _ _ _ _) i) ?_;rw [VH])
end
section
variable{b:Nat}{a:bS}{fz:Bool}
def ck(c:Cd)(d:cb)(e:Nat):List bl:=((c.b6.take e).filterMap (Ct.fI (c6 d))).map k0
def RN{d:Cd}{c:cb}{e:Nat}{f:Ct}(h:d.b6[e]? =O f):ck d c (e+1)=ck d c e++(match f.fI (c6 c) with|some g=>[k0 g] |none=>[]):=by
 unfold ck
 (refine bT qC ?_;refine bT h ?_;refine bT L2 ?_;refine bT r8 ?_;rewrite [LG];refine bT Ce ?_;refine bT List.filterMap_nil ?_)
 cases f.fI (c6 c)<;>rfl
def Xz(c:Cd)(d:cb)(e:Nat):(ck c d e).length≤c.b6.length:=by
 unfold ck
 rw [et]
 exact cu (vN _ _) (yB ..)
def OP{e:cb}{f:Nat}(k:∀(d:Nat)(c:R),e[d]? =O (O c)→c.bV.b8=ar→c.t≤f):∀c∈e.filterMap id,c.bV.b8=ar→c.t≤f:=fun c g i=>by
 obtain ⟨l,j⟩:=yA g
 obtain ⟨d,h,_⟩:=VD j
 exact k d c h i
def rx(l:Hd)(e:Cd)(c:cb)(I:i3 e)(L:c.length=e.a2.length)(af:∀(w:Nat)(g:R),c[w]? =O (O g)→g.bV.b8=ar→g.t≤e.a2.length)(ae:e.a2.length≤500)(y:e.b6.length≤500)(q:e.cp.length≤500):
  PC (vC cr (b+3)) 22 [.f (cf l e),.f (.a3 (c.map hW))] (cf l (e.cX c)):=pf rfl rfl rfl rfl fun ah r a ac n=>by
 have k:c.length≤500:=L▸ae
 have C:∀{P:Nat},P≤501→P≤100000:=fun l=>cu l (by decide)
 have v:∀d,(kp c d).length≤100000:=fun d=>C (FF c d▸cu (aaj c d) (uL k))
 have x:∀{d},d≤c.length+1→(FE c d).length≤100000:=fun {d} i=>C ((RF c d).symm▸cu i (iF k))
 apply aj;exact g4 (fy _)
 apply aj;exact qQ (fy _)
 apply aj;exact eh k
 refine qe (fun d=>a++[O (.a3 (FE c d)),O (.a3 (kp c d))]) (fun ag o=>[O (.f (cf l e)),O (.f (.a3 (c.map hW))),o,O (.cq (a.length+1)),b1,b1,O (.cq a.length),b1,b1,b1,b1]) (j:=hW) (e:=c) (fun d aa o X i h=>?_) fun o=>?_
 ·have ab:=(fJ.mp i).1
  apply aj;exact dK (eo _ _ _)
  apply aj;exact uo (kM _ _ _ _) (v d)
  apply aj;exact on (x (uL (iG ab)))
  rw [FF,D2]
  induction aa with
  |none=>exact RI i▸h _
  |some g=>
   apply aj;exact dK (kM _ _ _ _)
   apply aj;exact VJ (v d)
   exact RJ i▸h _
 apply aj;exact dK (eo _ _ _)
 apply aj;exact uo (kM _ _ _ _) (v _)
 apply aj;exact on (x (fM _))
 rw [FF,D2]
 have m:∀{p:Nat}{z:bS},p≤e.a2.length→jX cr (a++O (.a3 (FE c (c.length+1)))::z) (.cq a.length) (.f (.Z p))=O (.Z (c6 c p)):=fun {p z} Y=>zD (eo _ _ _) (RG (L▸vM Y)) (x (dX _))
 have F:(c.filterMap id).length≤500:=cu (vN _ _) k
 apply aj;exact js (kM _ _ _ _)
 rw [zC,show kp c c.length=(c.filterMap id).map eR by unfold kp;(refine bT eO ?_;rfl)]
 apply aj;exact eh F
 refine iD eR (fun g=>eR (g.iY (c6 c))) (fun g W K k j=>?_) ?_
 ·apply aj;exact om _
  refine cD (fun f=>?_) fun f=>?_
  ·apply aj;refine bT (fi f) ?_;exact m (OP af g k f)
   refine pc r (lI ..) ?_
   rw [AA _ _ f] at j;exact j
  ·rw [J8 _ _ f] at j;exact j
 apply aj;exact RK (by rw [et];exact cu F (by decide))
 apply aj;exact RM (fy _)
 apply aj;exact eh y
 refine qe (fun d=>a++[O (.a3 (FE c (c.length+1))),b1,O (.a3 ((c.filterMap id).map fun g=>eR (g.iY (c6 c)))),O (.a3 (ck e c d))]) (fun _ (f:Option bZ×Option bZ×Option bZ)=>[O (.f (cf l e)),O (.f (.a3 (c.map hW))),o,O (.cq (a.length+2)),O (.cq (a.length+3)),f.1,O (.cq a.length),f.2.1,f.2.2,b1,b1]) (a:=(b1,b1,b1)) (fun d s f X i h=>?_) fun f=>?_
 ·refine bU fun G=>?_
  obtain ⟨T,A,Q⟩:=I.b6 s (gj i)
  refine G ?_;try clear G
  apply aj;exact m (cu (iG T) A)
  apply aj;exact m A
  rw [RN i] at h
  refine cD (fun f=>?_) fun f=>?_
  ·have u:s.fI (c6 c)=O _:=if_pos (kY.mp (of_decide_eq_true f))
   rw [u] at h
   apply aj;exact dK (M2 _ _ _ _ _ _)
   apply aj;exact m Q
   refine pc r (Az ..) ?_
   apply aj;exact aak (cu (Xz e c d) (cu y (by decide)))
   exact h (_,_,_)
  ·have u:s.fI (c6 c)=b1:=if_neg fun w=>of_decide_eq_false f (kY.mpr w)
   rw [u,kX] at h
   exact h (_,_,_)
 apply aj;exact js (zB _ _ _ _ _)
 rw [aag]
 apply aj;exact js (M2 _ _ _ _ _ _)
 rw [VH]
 apply aj;exact eh q
 refine iD e8 (fun t=>e8 (c6 c t)) (fun t W K q j=>?_) ?_
 ·apply aj;exact m (I.cp t q)
  exact j
 apply aj;exact lh q
 refine pc r (q2 ..) (c8 (b:=ac) ?_ (jB _ _))
 rw [show ck e c e.b6.length=(e.b6.filterMap (Ct.fI (c6 c))).map k0 by unfold ck;(refine bT eO ?_;rfl)]
 unfold cf Cd.cX at n
 rw [lO] at n
 unfold cU at n
 rw [lO] at n
 exact n
end
def ny(a:Op):(a.cT==("jump":b4))=(a== .cI):=gr a .cI
def D3(a:Op):(a.cT==("leave":b4))=(a== .ew):=gr a .ew
def ip{a:Nat}(b:a≤100000):qM b2 (.f (.Z a))=O (dL a):=by
 unfold qM;refine bT (if_neg (by decide)) ?_;exact if_pos (cu b (by decide))
def li(a:Nat):(dL (a:Int)).length=a:=by unfold dL;(rewrite [et];refine bT pk ?_;rw [zm])
def hC{e:bS}{a:Cd}{b:Nat}{c:R}(d:a.a2[b]? =O c)(f:a.a2.length≤500):jX cr e (.f (.a3 (a.a2.map eR))) (.f (.Z b))=O (eR c):=hB d f
section
variable{d:Nat}{a:bS}{fz:Bool}
def OQ{v:cK}(p:Hd)(c:Cd)(s:g0 c)(o:c.a2.length≤500){i:Nat}{K:KS}{k:Nat}(t:∀w,K (.cw (.f (.Z k))) w a)(u:k=i→∀b h,K .cc [O (.f (cf p c)),O (.f (.Z i)),O (.f (.Z b)),h] a):∀{g:List bl}{b:Nat}{h:Option bZ},b<c.a2.length→k=mJ c.a2 i g.length b→
  jZ (fG ⟨cr,v⟩ nu) [3] b2 K g [O (.f (cf p c)),O (.f (.Z i)),O (.f (.Z (b:Nat))),h] a:=by
 intro g
 induction g with
 |nil=>
  intro b h m e
  exact u e _ _
 |cons r g q=>
  intro b h m e
  have l:c.a2[b]? =O c.a2[b] :=gS m
  rw [lZ] at e
  unfold mJ at e
  simp only [l] at e
  apply aj;exact hC l o
  refine cD (fun f=>?_) fun f=>?_<;>rw [ny] at f
  ·rw [if_neg (by intro j;rw [j] at f;exact dy f)] at e
   exact e▸t _
  ·have f:c.a2[b].bV=.cI:=by
    cases j:c.a2[b].bV== .cI with
    |true=>exact dr j
    |false=>rw [j] at f;exact dy f
   rw [if_pos f] at e
   have n:c.a2[b].bV.b8=ar:=by refine bT f ?_;rfl
   apply aj;exact hC l o
   have:=q (h:=O (.f r)) (s _ (vR m) n) e
   rw [← fi n] at this
   exact this
def aal(h:Hd)(b:Cd)(l:g0 b){c:Nat}(j:c<b.a2.length)(f:b.a2.length≤500):PC (vC cr (d+1)) 23 [.f (cf h b),.f (.Z c)] (.Z (mr b.a2 c)):=pf rfl rfl rfl rfl fun o n a m i=>by
 have e:=c8 (b:=m) i (eO (l:=a))
 apply aj;exact eZ f
 apply aj;exact ip (cu f (by decide))
 refine OQ h b l f (k:=mr b.a2 c) (fun g=>e) (fun k g g=>?_) j (by rw [li];rfl)
 rw [k] at e;exact e
def D4(b:List R):(b.map O).map hW=b.map eR:=lO
def FG(b:R)(c:Nat)(e:b.bV.b8=ar):eR {b with t:=c}=.gJ 0 [.ad b.bV.cT,.Z c,b.b,b.c,.Z b.e6] :=AA (fun f=>c) b e▸by unfold R.iY;(refine bT (if_pos e) ?_;rfl)
def yh(i:Hd)(b:Cd)(Q:i3 b)(l:g0 b)(k:b.a2.length≤500)(y:b.b6.length≤500)(R:b.cp.length≤500):PC (vC cr (d+4)) 24 [.f (cf i b)] (cf i (ep b)):=pf rfl rfl rfl rfl fun P g a L G=>by
 apply aj;exact g4 (fy _)
 apply aj;exact eh k
 refine qe (fun o=>a++[O (.a3 (((b.a2.take o).map (dE b.a2)).map eR))]) (fun _ (e:Option bZ×Option bZ)=>[O (.f (cf i b)),O (.cq a.length),e.1,e.2]) (a:=(b1,b1)) (fun o c e W w f=>?_) fun e=>?_
 ·have I:=gj w
  have n:(((b.a2.take o).map (dE b.a2)).map eR).length≤100000:=by
   rw [et,et];exact cu (yB ..) (cu k (by decide))
  rw [qC,w,LG,r8,r8,Ub,Ub] at f
  apply aj;exact E6 _
  refine cD (fun e=>?_) fun e=>?_
  ·have h:c.bV.b8=b2:=nN e
   have s:dE b.a2 c=c:=by unfold dE;rw [if_neg (by refine bT h ?_;decide)]
   apply aj;exact dK (eo _ _ _)
   apply aj;exact on n
   exact s▸f (_,_)
  ·have h:c.bV.b8=ar:=pW e
   have u:=l c I h
   have K:=DP l u b.a2.length c.t u
   have x:b.a2[mr b.a2 c.t]? =O b.a2[mr b.a2 c.t] :=gS K
   have F:PC P 23 [.f (cf i b),.f (fa c)] (.Z (mr b.a2 c.t)):=by refine bT (fi h) ?_;exact g▸aal i b l u k
   refine pc rfl F ?_
   have p:∀{r:Bool},(c.bV== .cI&&gP b.a2 (mr b.a2 c.t))=r→dE b.a2 c=if r then .cE .ew 0 c.e6 else {c with t:=mr b.a2 c.t}:=fun {r} z=>by
    unfold dE;(refine bT (if_pos h) ?_;refine bT z ?_;rfl)
   have v:gP b.a2 (mr b.a2 c.t)=(b.a2[mr b.a2 c.t].bV== .ew):=by unfold gP;simp only [x]
   refine cD (fun e=>?_) fun e=>?_
   ·rw [ny] at e
    apply aj;exact hC x k
    refine cD (fun m=>?_) fun m=>?_<;>rw [D3] at m
    ·rw [p (r:=ar) (by (refine bT e ?_;refine bT v ?_;refine bT m ?_);rfl)] at f
     apply aj;exact dK (eo _ _ _)
     refine pc g (o4 ..) ?_
     apply aj;exact on n
     exact f (_,_)
    ·rw [p (r:=b2) (by (refine bT e ?_;refine bT v ?_;refine bT m ?_);rfl),if_neg (by decide),FG _ _ h] at f
     apply aj;exact dK (eo _ _ _)
     refine pc g (lI ..) ?_
     apply aj;exact on n
     exact f (_,_)
   ·refine ee e ?_
    rw [ny] at e
    rw [p (r:=b2) (by refine bT e ?_;rfl),if_neg (by decide),FG _ _ h] at f
    apply aj;exact dK (eo _ _ _)
    refine pc g (lI ..) ?_
    apply aj;exact on n
    exact f (_,_)
 apply aj;exact js (eo _ _ _)
 (rewrite [kk];refine bT eO ?_;rw [← D4])
 refine pc g (rx i b ((b.a2.map (dE b.a2)).map O) Q (by rw [et,et]) (fun Y c g A=>?_) k y R) (c8 (b:=L) G (jB _ _))
 refine bU fun j=>?_
 obtain ⟨X,s,q⟩:=o3 g
 refine j ?_;try clear j
 obtain rfl:=dg q
 refine bU fun j=>?_
 obtain ⟨T,C,q⟩:=o3 s
 refine j ?_;try clear j
 subst q
 exact iG (Fv l (gj C) A)
end
section
def wv{h:cV→bS→(Bool→bS→Prop)→Prop}{i:cV→bS→KS→Prop}{K:KS}(e:Nat→cV→bS→Prop)
  (o:∀(b:Nat)(a:cV)(c:bS)(l:cV→bS→Prop),e b a c→(∀(k:Nat)(j:cV)(m:bS),k<b→e k j m→l j m)→h a c (kWh i l K a)):∀{d b:Nat}{a:cV}{c:bS},e b a c→b<d→qb h i K d a c:=by
 intro d
 induction d with
 |zero=>
  intro _ _ _ _ f
  exact absurd f (tP _)
 |succ d n=>
  intro b a c r f
  exact o b a c _ r fun g g g p q=>n q (hH p (qk f))
noncomputable def ww(b:Nat)(c:Nat→Bool):Nat:=(f5 b).countP fun a=>!c a
def BI(a:Nat)(b:Nat→Bool):ww a b≤a:=by
 have:=T3 (p:=fun c=>!b c) (l:=f5 a)
 rw [pk] at this;exact this
def D5{c b:Nat}{d:Nat→Bool}(j:b<c)(i:d b=b2):ww c (fun a=>d a||b==a)+1=ww c d:=by
 unfold ww
 induction c with
 |zero=>lia
 |succ c f=>
  (refine bT vT ?_;refine bT Go ?_;refine bT Go ?_;refine bT Gk ?_;refine bT Gk ?_)
  by_cases e:b=c
  ·subst e
   have:(f5 b).countP (fun a=>!(d a||b==a))=(f5 b).countP fun a=>!d a:=by
    refine List.countP_congr fun a h=>?_
    have:=nf.mp h
    have:(b==a)=b2:=by simp;lia
    simp [this]
   (refine bT this ?_;refine bT i ?_)
   simp
  ·have:=f (by lia)
   have g:(b==c)=b2:=by simp;exact e
   simp only [g,vK] at this⊢
   lia
open Classical in
def j5(c:Cd)(p:Nat):Bool:=decide (cx c.nc p)
def ln(a:Cd)(b:Nat):j5 a b=ar↔cx a.nc b:=by simp [j5]
def ry(c:Cd)(b:Nat→Bool)(d:List Nat):Prop:=(∀a,b a=ar→cx c.nc a)∧(∀a∈d,cx c.nc a)∧(∀a∈c.cp,b a=ar∨a∈d)∧(∀(a:Nat)(e:R),b a=ar→c.a2[a]? =O e→(e.bV.b8=ar→b e.t=ar∨e.t∈d)∧(e.bV.dR=b2→b (a+1)=ar∨a+1∈d)∧∀f∈c.b6,f.c4 a=ar→b f.cP=ar∨f.cP∈d)
section
variable{b:Cd}{a:Nat→Bool}{c:List Nat}(d:ry b a c)
include d
def ry.pX:∀e,a e=ar→cx b.nc e:=d.1
def ry.rz:∀e∈c,cx b.nc e:=d.2.1
def ry.cp:∀e∈b.cp,a e=ar∨e∈c:=d.2.2.1
def ry.ea:∀(f:Nat)(e:R),a f=ar→b.a2[f]? =O e→(e.bV.b8=ar→a e.t=ar∨e.t∈c)∧(e.bV.dR=b2→a (f+1)=ar∨f+1∈c)∧∀g∈b.b6,g.c4 f=ar→a g.cP=ar∨g.cP∈c:=d.2.2.2
end
def ry.nz{f:Cd}{g:Nat→Bool}(d:ry f g []):∀e,g e=j5 f e:=fun e=>by
 rw [vJ,ln]
 refine ⟨d.pX e,fun j=>?_⟩
 induction j with
 |dH i=>exact (d.cp _ i).resolve_right (by simp)
 |lg _ a _=>exact absurd a (sY _)
 |eK _ a c b=>exact ((d.ea _ _ b (dF.mp a)).2.1 c).resolve_right (by simp)
 |cI _ a c b=>exact ((d.ea _ _ b (dF.mp a)).1 c).resolve_right (by simp)
 |dJ _ a h c b=>exact ((d.ea _ _ b (dF.mp a)).2.2 _ h c).resolve_right (by simp)
def ry.Do{i:Cd}{d:Nat→Bool}{g:List Nat}{h:Nat}(f:ry i d (g++[h]))(n:d h=ar):ry i d g:=by
 have e:∀b,d b=ar∨b∈g++[h] →d b=ar∨b∈g:=fun b a=>by
  rcases a with a|a
  ·exact .inl a
  ·rcases my.mp a with a|a
   ·exact .inr a
   ·simp at a;subst a;exact .inl n
 exact ⟨f.pX,fun b a=>f.rz b (ow _ a),fun b a=>e b (f.cp b a),fun b r k m=>by obtain ⟨q,o,l⟩:=f.ea b r k m;exact ⟨fun c=>e _ (q c),fun c=>e _ (o c),fun c j p=>e _ (l c j p)⟩⟩
def ih(c:Cd)(b:Nat)(a:R):List Nat:=(if a.bV.b8 then [a.t] else [])++(if a.bV.dR then [] else [b+1])++(c.b6.filter (·.c4 b)).map (·.cP)
def J9(a:Cd)(b:Nat)(d:R):(ih a b d).length≤2+a.b6.length:=by
 unfold ih
 have:=r7 (fun c:Ct=>c.c4 b) a.b6
 (refine bT dZ ?_;refine bT dZ ?_;rw [et])
 split<;>split<;>simp<;>lia
def ry.wx{e:Cd}{l:Nat→Bool}{k:List Nat}{d:Nat}{o:R}(j:ry e l (k++[d]))(m:e.a2[d]? =O o):ry e (fun b=>l b||d==b) (k++ih e d o):=by
 have p:cx e.nc d:=j.rz d (by simp)
 have n:∀b,l b=ar∨b∈k++[d] →(l b||d==b)=ar∨b∈k++ih e d o:=fun b a=>by
  rcases a with a|a
  ·left;simp [a]
  ·rcases my.mp a with a|a
   ·exact .inr (ow _ a)
   ·simp at a;subst a;left;simp
 have s:∀b,b∈ih e d o→cx e.nc b:=fun b a=>by
  unfold ih at a
  rcases my.mp a with a|a
  ·rcases my.mp a with a|a
   ·split at a
    ·rename_i c;simp at a;subst a;exact .cI p (dF.mpr m) c
    ·cases a
   ·split at a
    ·cases a
    ·rename_i c;simp at a;subst a;exact .eK p (dF.mpr m) (by simpa using c)
  ·refine bU fun i=>?_
   obtain ⟨c,g,rfl⟩:=hJ.mp a
   obtain ⟨f,h⟩:=l3.mp g
   refine i ?_;try clear i
   exact .dJ p (dF.mpr m) f h
 refine ⟨fun b a=>?_,fun b a=>?_,fun b a=>n b (j.cp b a),fun b v f h=>?_⟩
 ·simp only [LM,beq_iff_eq] at a
  rcases a with a|rfl
  ·exact j.pX b a
  ·exact p
 ·rcases my.mp a with a|a
  ·exact j.rz b (ow _ a)
  ·exact s b a
 ·simp only [LM,beq_iff_eq] at f
  rcases f with f|rfl
  ·refine bU fun i=>?_
   obtain ⟨t,r,u⟩:=j.ea b v f h
   refine i ?_;try clear i
   exact ⟨fun c=>n _ (t c),fun c=>n _ (r c),fun c g q=>n _ (u c g q)⟩
  ·rw [m] at h;obtain rfl:=dg h
   refine ⟨fun c=>.inr (nU _ ?_),fun c=>.inr (nU _ ?_),fun c g q=>.inr (nU _ ?_)⟩
   ·unfold ih;refine bT (if_pos c) ?_;simp
   ·unfold ih;refine bT c ?_;simp
   ·unfold ih
    exact nU _ (hJ.mpr ⟨c,l3.mpr ⟨g,q⟩,rfl⟩)
def XA{c:Type}{d:c→bl}{a:bS}{b:List c}(e:b.length≤500):eW a b2 1 [.f (.a3 (b.map d))] =O (.cq a.length,a++[O (.a3 (b.map d))]):=aah e
def RO{d:Type}{b:d→bl}{c:bS}{e:Option dw}{a:List d}(f:a.length≤500):eW (c++[e]) b2 1 [.f (.a3 (a.map b))] =O (.cq (c.length+1),c++[e,O (.a3 (a.map b))]):=
 qQ (et b (as:=a)▸cu f (by decide))
def tE{a:List Nat}(b:a.length≤1100):(cU a).length≤100000:=et e8 (as:=a)▸cu b (by decide)
def VK{c:bS}{f:Option dw}{b:List Nat}{a:Nat}{e:bS}(j:(b++[a]).length≤1100):jk cr (c++f::O (.a3 (cU (b++[a])))::e) .gA (.cq (c.length+1)) [] =O (.f (.Z a),c++f::O (.a3 (cU b))::e):=by
 have i:=tE j
 have d:(cU (b++[a])).length=b.length+1:=by (rewrite [et];refine bT dZ ?_);rfl
 have g:cU (b++[a])=cU b++[a].map e8:=r8
 have h:(cU b++[a].map e8)[b.length]? =O (.Z a):=by
  rw [la (by rw [et];exact dX _),et,pg];rfl
 rw [VI (kM _ _ _ _) i (by (refine bT d ?_;rewrite [Gc];refine bT g ?_);exact h),zC,d,Gc,g,L0 (by rw [et];exact dX _),et,pg]
 (refine bT (show ([a].map e8).eraseIdx 0=[] from rfl) ?_;rw [kX])
section
variable{b:Nat}{a:bS}{fz:Bool}
def Hj{f:Option dw}{c:List Nat}{d:Nat}{e:bS}(g:c.length≤1100):jk cr (a++f::O (.a3 (cU c))::e) .eJ (.cq (a.length+1)) [.f (.Z d)] =O (.f .bX,a++f::O (.a3 (cU (c++[d])))::e):=by
 (refine bT (VJ (tE g)) ?_;rw [py])
def RP{a:bS}{e d c:Nat}{f:Nat→Bool}(g:a[e]? =O (O (DX d f)))(i:c<d)(h:d≤1000):jX cr a (.cq e) (.f (.Z c))=O (.b3 (f c)):=
 zD g (IV i) (by rw [BG];exact cu h (by decide))
def VL{d:Option dw}{c:List Nat}{e:bS}(f:c.length≤1100):eW (a++d::O (.a3 (cU c))::e) fz 0 [.cq (a.length+1)] =O (.f (.Z c.length),a++d::O (.a3 (cU c))::e):=by
 (refine bT (uo (kM _ _ _ _) (tE f)) ?_;rw [et])
def FJ{e d c:Nat}(g:e+1+d≤c):c-1<c∧e+d≤c-1:=
 have f:e+d<c:=hH (Nat.add_lt_add_right (h9 e) d) g
 ⟨Gh (Gd f) Gg,LP f⟩
def XB{f g e d c h:Nat}(j:f+1+d≤h)(i:d=c+(3+e))(k:g≤2+e):f+g+c≤h-1:=WQ j i k
def Ka(m:Hd)(c:Cd){ai:Bool}(aC:gk c ai)(s:c.a2.length≤20)(C:c.b6.length≤8)(ac:c.cp.length≤8):PC (vC cr (b+2)) 25 [.f (cf m c)] (.a3 ((f5 c.a2.length).map fun d=>.b3 (j5 c d))):=pf rfl rfl rfl rfl fun z ah a aw aq=>by
 obtain ⟨aE,an⟩:=aC.gK
 have au:∀e,cx c.nc e→e<c.a2.length:=fun e f=>by
  have:=an.kJ e f
  unfold Cd.nc at this;rw [et] at this;exact this
 have W:c.a2.length≤500:=cu s (by decide)
 apply aj;exact eZ W
 apply aj;exact (u4 _ _ (cu s (by decide))).trans (IX (cu s (by decide)))
 apply aj;exact RO (cu ac (by decide))
 have Y:c.cp.length+(3+c.b6.length)*c.a2.length≤500:=by
  exact cu (pH ac (Gf (jq C 3) s)) (by decide)
 refine wv (fun q ab X=>∃(h:Nat→Bool)(o:List Nat)(t w f:Option bZ),ab=[O (.f (cf m c)),O (.cq a.length),O (.cq (a.length+1)),t,w,f] ∧X=a++[O (DX c.a2.length h),O (.a3 (cU o))] ∧ry c h o∧o.length+(3+c.b6.length)*ww c.a2.length h≤q∧q≤500) (fun q ab X P ay n=>?_)
  ⟨_,c.cp,_,_,_,rfl,rfl,⟨fun d i=>(by exact dy i),fun d i=>.dH i,fun d i=>.inr i,fun d aG i=>(by exact dy i)⟩,jq (v9 _ (BI _ _)) _,Y⟩ (kT Y (by decide))
 refine bU fun aa=>?_
 obtain ⟨h,o,t,w,f,rfl,rfl,A,r,T⟩:=ay
 refine aa ?_;try clear aa
 have g:o.length≤500:=cu (fg _ _) (cu r T)
 have u:∀{ae:Nat},ae≤600→ae≤1100:=fun m=>cu m (by decide)
 apply aj;exact VL (u (cu g (by decide)))
 refine cD (fun k=>?_) fun k=>?_
 ·have k:=of_decide_eq_true k
  rcases T4 o with rfl|⟨L,d,rfl⟩
  ·exact absurd k (by decide)
  rw [T5] at*
  rw [dZ,uM] at g r
  have i:=au d (A.rz d (nU _ fD))
  have af:c.a2[d]? =O c.a2[d] :=gS i
  apply aj;exact mY (kM _ _ _ _)
  apply aj;exact VK (by (refine bT dZ ?_;refine bT uM ?_);exact u (cu g (by decide)))
  apply aj;exact RP (eo _ _ _) i (cu s (by decide))
  refine cD (fun F=>?_) fun F=>?_
  ·exact n (q-1) _ _ (FJ r).1 ⟨h,L,_,_,_,rfl,rfl,A.Do F,(FJ r).2,cu (y8 q 1) T⟩
  apply aj;exact IW (eo _ _ _) i (cu s (by decide))
  rw [kk]
  apply aj;exact hC af W
  have aB:=J9 c d c.a2[d]
  have aD:=D5 i F
  have ak:∀(Q:List Nat)(t w f:Option bZ),Q=L++ih c d c.a2[d] →P [O (.f (cf m c)),O (.cq a.length),O (.cq (a.length+1)),t,w,f] (a++[O (DX c.a2.length fun e=>h e||d==e),O (.a3 (cU Q))]):=fun Q t w f al=>by
   subst al
   refine n (q-1) _ _ (FJ r).1 ⟨_,_,_,_,_,rfl,rfl,A.wx af,?_,cu (y8 q 1) T⟩
   refine bT dZ ?_
   have v:(3+c.b6.length)*ww c.a2.length h=(3+c.b6.length)*ww c.a2.length (fun e=>h e||d==e)+(3+c.b6.length):=by (refine gT aD ?_;rw [y7])
   exact XB r v aB
  have am:∀(j:List Nat)(K:KS)(f:Option bZ),j.length≤600→(∀f,K .cc [O (.f (cf m c)),O (.cq a.length),O (.cq (a.length+1)),O (.f (.Z d)),O (.f (eR c.a2[d])),f] (a++[O (DX c.a2.length fun e=>h e||d==e),O (.a3 (cU (j++(c.b6.filter (·.c4 d)).map (·.cP))))]))→
    jZ (fG ⟨cr,z⟩ lF) [5] b2 K (c.b6.map k0) [O (.f (cf m c)),O (.cq a.length),O (.cq (a.length+1)),O (.f (.Z d)),O (.f (eR c.a2[d])),f] (a++[O (DX c.a2.length fun e=>h e||d==e),O (.a3 (cU j))]):=fun j K f G ag=>by
   have:=qe (K:=K) (l:=fG ⟨cr,z⟩ lF) (k:=[5]) (m:=b2) (j:=k0) (e:=c.b6) (a:=f) (fun I=>a++[O (DX c.a2.length fun e=>h e||d==e),O (.a3 (cU (j++((c.b6.take I).filter (·.c4 d)).map (·.cP))))]) (fun aF f=>[O (.f (cf m c)),O (.cq a.length),O (.cq (a.length+1)),O (.f (.Z d)),O (.f (eR c.a2[d])),f]) (fun I x f P az n=>?_) (by refine bT eO ?_;exact ag)
   ·rw [Mg,Gq,Ck,kX] at this
    exact this
   refine pc ah (DZ x d) ?_
   rw [qC,az,LG,List.filter_append,r8,← m8] at n
   refine cD (fun k=>?_) fun k=>?_
   ·apply aj;exact dK (kM _ _ _ _)
    have aA:((c.b6.take I).filter (·.c4 d)).length≤c.b6.length:=cu (r7 _ _) (yB ..)
    apply aj;exact Hj (by (refine bT dZ ?_;rw [et]);exact cu (pH G (cu aA C)) (by decide))
    have v:([x].filter (·.c4 d)).map (·.cP)=[x.cP] :=by simp only [Ue,k,if_true,Gq];rfl
    rw [v] at n
    exact n _
   ·have v:([x].filter (·.c4 d)).map (·.cP)=[] :=by simp only [Ue,k,Bool.false_eq_true,if_false,Gq];rfl
    rw [v,kX] at n
    exact n _
  have l:∀(j:List Nat)(K:KS)(f:Option bZ),j.length≤600→j++(c.b6.filter (·.c4 d)).map (·.cP)=L++ih c d c.a2[d] →jZ (fG ⟨cr,z⟩ lF) [5] b2 (Dl (fG ⟨cr,z⟩ .N) (jQ P K)) (c.b6.map k0) [O (.f (cf m c)),O (.cq a.length),O (.cq (a.length+1)),O (.f (.Z d)),O (.f (eR c.a2[d])),f] (a++[O (DX c.a2.length fun e=>h e||d==e),O (.a3 (cU j))]):=fun j K f G ao=>
   am j _ f G fun f=>ak _ _ _ _ ao
  have y:sn (c.b6.map k0).length 100000=O ():=eh (cu C (by decide))
  unfold ih at l
  apply aj;exact om _
  refine cD (fun R=>?_) fun R=>?_<;>rw [R] at l
  ·apply aj;exact dK (kM _ _ _ _)
   apply aj;refine bT (fi R) ?_;exact Hj (u (cu (lC g) (by decide)))
   apply aj;exact sH _
   refine cD (fun p=>?_) fun p=>?_
   ·rw [nN p] at l
    apply aj;exact dK (kM _ _ _ _)
    apply aj;exact Hj (by (refine bT dZ ?_;refine bT uM ?_);exact u (cu g (by decide)))
    apply aj;exact y
    exact l _ _ _ (by simp only [dZ,uM];exact cu (iF (cu (by first|exact g|exact Nat.le_of_succ_le g) (by decide:500≤598))) (by decide)) (by simp)
   ·rw [pW p] at l
    apply aj;exact y
    exact l _ _ _ (by simp only [dZ,uM];exact cu (iF (cu (by first|exact g|exact lC g) (by decide:500≤598))) (by decide)) (by simp)
  ·apply aj;exact sH _
   refine cD (fun p=>?_) fun p=>?_
   ·rw [nN p] at l
    apply aj;exact dK (kM _ _ _ _)
    apply aj;exact Hj (u (cu (lC g) (by decide)))
    apply aj;exact y
    exact l _ _ _ (by simp only [dZ,uM];exact cu (iF (cu (by first|exact g|exact lC g) (by decide:500≤598))) (by decide)) (by simp)
   ·rw [pW p] at l
    apply aj;exact y
    exact l _ _ _ (cu (lC g) (by decide)) (by simp)
 ·have k:=of_decide_eq_false k
  have:o=[] :=List.eq_nil_of_length_eq_zero (by lia)
  subst this
  apply aj;exact js (eo _ _ _)
  rw [kk]
  have av:h=j5 c:=funext A.nz
  subst av
  exact c8 (b:=aw) aq (jB _ _)
end
end
def Kb(b a:Nat):dL ((b:Int)-a)=dL ((b-a:Nat):Int):=by
 unfold dL
 rw [Int.toNat_sub,zm]
def E7{b a:Nat}(d:b≤500)(c:a≤500):qM b2 (.f (.Z ((b:Int)-a)))=O (dL ((b-a:Nat):Int)):=by
 unfold qM;(refine bT (if_neg (by decide)) ?_;rw [← Kb]);exact if_pos (ZI d c)
noncomputable def yi(b:Option R)(a:Op→Bool):Bool:=match b with
 |some c=>a c.bV
 |none=>b2
def u5{f:Nat}(a:Option R){c:List bl}{b:Op→Bool}(e:(fu.all fun d=>eA (ic (.ad d.cT) c) (b d))=ar):PC (vC cr (f+1)) 19 [.f (hW a),.f (.cQ c)] (.b3 (yi a b)):=RA a c b e
def VM:(fu.all fun a=>eA (ic (.ad a.cT) [.ad "pop"]) (a== .gA))=ar:=by kernel_rfl
def VN:(fu.all fun a=>eA (ic (.ad a.cT) [.ad "dup"]) (a== .kq))=ar:=by kernel_rfl
def NF:(fu.all fun a=>eA (ic (.ad a.cT) [.ad "swap"]) (a== .dt))=ar:=by kernel_rfl
def XC:(fu.all fun a=>eA (ic (.ad a.cT) [.ad "push"]) (a== .d0))=ar:=by kernel_rfl
def NG:(fu.all fun a=>eA (ic (.ad a.cT) [.ad "jump"]) (a== .cI))=ar:=by kernel_rfl
def OR(b:cb)(c:Nat)(a:Option R):(b.map hW).set c (hW a)=(b.set c a).map hW:=List.map_set.symm
def CS(a:Cd):bl:=.a3 ((f5 (a.a2.length+1)).map fun b=>.b3 (a.c2 b))
section
variable{b:Nat}{a:bS}{fz:Bool}
def oo{c:Cd}{d:Nat}(f:d≤c.a2.length)(e:c.a2.length≤500):jX cr a (.f (CS c)) (.f (.Z d))=O (.b3 (c.c2 d)):=
 qu (IV (vM f)) (by rw [BG];exact cu (iF e) (by decide))
def lx{c:cb}{d:Nat}{f:bS}(e:d<c.length)(g:c.length≤500):jX cr (a++O (.a3 (c.map hW))::f) (.cq a.length) (.f (.Z d))=O (hW c[d]):=
 zD (eo _ _ _) (by rw [i4,gS e];rfl) (by rw [et];exact cu g (by decide))
def qR{c:cb}{d:Nat}{e:bS}(f:Option R)(g:d<c.length)(h:c.length≤500):l4 (a++O (.a3 (c.map hW))::e) (.cq a.length) (.f (.Z d)) (.f (hW f))=O (a++O (.a3 ((c.set d f).map hW))::e):=by
 rw [FD (eo _ _ _) (by rw [et];exact g) (by rw [et];exact cu h (by decide)),kk,OR]
def hU{c:cb}{d:Nat}{e:bS}(f:d<c.length)(g:c.length≤500):l4 (a++O (.a3 (c.map hW))::e) (.cq a.length) (.f (.Z d)) (.f .bX)=O (a++O (.a3 ((c.set d b1).map hW))::e):=qR b1 f g
def wy{e:Cd}{c:cb}{d:Nat}{f:R→R→Option cb}(g:d+1<c.length):j4 e c d f=match c[d],c[d+1] with|some i,O h=>if e.c2 (d+1) then c else (f i h).getD c|_,_=>c:=by
 unfold j4
 rw [gS g,gS (q8 g)]
 rfl
def acd(h:Hd)(c:Cd)(o:cK)(a:bS)(l:cW)(f m:Nat)(n:cb→Nat→cb)(k:Nat→cb→Prop):Prop:=∀(e:cb)(d:Nat)(g:cV)(i:cV→bS→Prop)(K:KS),g.length=f→e.length=c.a2.length→d+m<c.a2.length→k d e→
 (∀j:cV,j.length=f→i (O (.f (cf h c))::O (.f (.Z d))::O (.cq a.length)::O (.f (CS c))::j) (a++[O (.a3 ((n e d).map hW))]))→
 fG ⟨cr,o⟩ l (O (.f (cf h c))::O (.f (.Z d))::O (.cq a.length)::O (.f (CS c))::g) (a++[O (.a3 (e.map hW))]) (jQ i K)
def xc{k:cK}(t:k=vC cr (b+3))(h:Hd)(c:Cd){e:Cd→cb→Nat→cb}{q:cW}{f n:Nat}(v:i3 c)(l:c.a2.length≤500)(s:c.b6.length≤500)(w:c.cp.length≤500)(T:f≤2)(K:∀(j:cb)(L:Nat),(e c j L).length=j.length)
  {i:Nat→cb→Prop} (y:i 0 (c.a2.map O)) (Y:∀d j,d<c.a2.length-f→i d j→i (d+1) (e c j d)) (aa:∀(X:Nat)(r:R),(dk c e (c.a2.length-f))[X]? =O (O r)→r.bV.b8=ar→r.t≤c.a2.length)
  (Q:acd h c k a q n f (e c) i) (o:KE) (F:o (.f (cf h (c.cX (dk c e (c.a2.length-f))))) a):
  fG ⟨cr,k⟩ (.J (.eg [2,3] (.J (.b0 b2 (.b5 9) (.J (.bY (.bW 0) "rows") .N)) (.J (.b0 ar (.b5 27) (.J (.bW 0) .N)) .N)))
   (.J (.fT [1] b2 (.gb (.eD ar .fw (.b0 ar (.b5 12) (.J (.bW 2) .N)) (.Z f))) q) (.J (.cw (.b0 ar (.b5 25) (.J (.bW 0) (.J (.pR (.bW 2)) .N)))) .N)))
   (O (.f (cf h c))::b1::b1::b1::ky n b1) a (lG b2 a.length o):=by
 apply aj;exact XA l
 refine pc t (RE h c v l s w) ?_
 rw [← D4]
 have u:∀d,(dk c e d).length=c.a2.length:=fun d=>dN K d
 have W:((c.a2.map O).map hW).length≤100000:=by rw [et,et];exact cu l (by decide)
 apply aj;exact uo (eo _ _ _) W
 rw [et,et]
 apply aj;exact E7 l (cu T (by decide))
 have G:∀d,d≤c.a2.length-f→i d (dk c e d):=fun d m=>by
  induction d with
  |zero=>exact y
  |succ d x=>
   have p:dk c e (d+1)=e c (dk c e d) d:=by
    unfold dk;(refine bT vT ?_;refine bT tR ?_);rfl
   exact p▸Y d _ m (x (lC m))
 have C:=Xu (K:=Dl (fG ⟨cr,k⟩ (.J (.cw (.b0 ar (.b5 25) (.J (.bW 0) (.J (.pR (.bW 2)) .N)))) .N)) (lG b2 a.length o)) (j:=fG ⟨cr,k⟩ q) (h:=[1]) (l:=b2) (c:=c.a2.length-f) (fun d=>a++[O (.a3 ((dk c e d).map hW))]) (fun d (g:Option bZ×{P:cV // P.length=n})=>O (.f (cf h c))::g.1::O (.cq a.length)::O (.f (CS c))::g.2.1) (b:=(b1,⟨ky n b1,L3⟩)) (fun d g A m I=>?_) (fun g=>?_)
 ·exact C
 ·refine Q (dk c e d) d g.2.1 A _ g.2.2 (u d) (TA m) (G d (iG m)) fun ab z=>?_
  have p:dk c e (d+1)=e c (dk c e d) d:=by
   unfold dk;(refine bT vT ?_;refine bT tR ?_);rfl
  refine gT p ?_
  exact I (_,⟨ab,z⟩)
 ·apply aj;exact js (eo _ _ _)
  rw [kk]
  exact pc t (rx h c (dk c e (c.a2.length-f)) v (u _) aa l s w) (c8 (b:=o) F (jB _ _))
def qv{d:Cd}{k:Bool}{h:Nat}{f:cb}(n:gq d k h f)(j:i3 d)(e:Nat)(c:R)(g:f[e]? =O (O c))(l:c.bV.b8=ar):c.t≤d.a2.length:=(n.iV e c g l).elim (IQ j) fun i=>i.elim fun o m=>TC (fJ.mp m.1).1
def FK{e:Type}{c:List e}(d:c.length=0):c=[] :=TW.mp d
def RQ{e:Cd}{d:cb}{c:Nat}(h:c+1<d.length):gM e d c=bif yi d[c] Op.i6&&(yi d[c+1] (· == .gA)&& !e.c2 (c+1)) then fb d c b1 b1 else d:=by
 unfold gM
 refine bT (wy h) ?_
 cases d[c] with
 |none=>rfl
 |some f=>cases d[c+1] with
  |none=>cases g:f.bV.i6<;>simp only [yi,g] <;>rfl
  |some i=>simp only [yi];cases e.c2 (c+1)<;>cases f.bV.i6<;>cases i.bV== .gA<;>rfl
def D6(m:Hd)(e:Cd){s:Bool}(x:gk e s)(p:i3 e)(l:e.a2.length≤500)(r:e.b6.length≤500)(w:e.cp.length≤500):PC (vC cr (b+4)) 27 [.f (cf m e)] (cf m (eX e)):=pf rfl rfl rfl rfl fun A k a v u=>by
 refine xc (n:=0) (f:=1) k m e (e:=gM) p l r w (by decide) oi (i:=fun f f=>True) trivial (fun f f f f=>trivial) (qv (qX x _) p) (fun h g z y K t q o f d=>?_) v u
 obtain rfl:=FK t
 have i:g+1<h.length:=q▸o
 have n:g<h.length:=q8 i
 have j:h.length≤500:=q▸l
 rw [RQ i] at d
 apply aj;exact lx n j
 refine pc k (u5 h[g] BE) ?_
 refine cD (fun c=>?_) fun c=>?_
 ·rw [c] at d
  apply aj;exact lx i j
  refine pc k (u5 h[g+1] VM) ?_
  refine cD (fun c=>?_) fun c=>?_
  ·rw [c] at d
   apply aj;exact oo (iG o) l
   refine cD (fun c=>?_) fun c=>?_
   ·rw [nN c] at d
    apply aj;exact hU n j
    apply aj;exact hU (c:=h.set g b1) (d:=g+1) (by refine bT m9 ?_;exact i) (by refine bT m9 ?_;exact j)
    exact d [] rfl
   ·rw [pW c] at d;exact d [] rfl
  ·rw [c] at d;exact ee c (d [] rfl)
 ·rw [c] at d;exact ee c (d [] rfl)
end
def z3{a:cb}{b:Nat}{c:R}(d:b<a.length)(e:a[b] =O c):a.set b (O c)=a:=by
 refine gT e ?_;exact T2 d
def RR{c:Cd}{b:cb}{a:Nat}(e:a+1<b.length):gN c b a=bif yi b[a+1] (· == .dt)&& !c.c2 (a+1) then (bif yi b[a] (· == .dt) then fb b a b1 b1 else bif yi b[a] (· == .kq) then b.set (a+1) b1 else b) else b:=by
 have h:=q8 e
 unfold gN
 refine bT (wy e) ?_
 cases f:b[a] with
 |none=>cases yi b[a+1] (· == .dt)&& !c.c2 (a+1)<;>rfl
 |some d=>
  have g:fb b a (O d) b1=b.set (a+1) b1:=by unfold fb;(refine bT (z3 h f) ?_;rfl)
  cases b[a+1] with
  |none=>rfl
  |some i=>simp only [yi,g];cases c.c2 (a+1)<;>cases d.bV== .dt<;>cases d.bV== .kq<;>cases i.bV== .dt<;>rfl
def OS{c:Cd}{b:cb}{a:Nat}(g:a+2<b.length):fW c b a=bif yi b[a] (· == .kq)&&(yi b[a+1] Op.fQ&&yi b[a+2] (· == .gA)) then (bif !c.c2 (a+1)&& !c.c2 (a+2) then (b.set a b1).set (a+2) b1 else b) else b:=by
 have d:a+1<b.length:=q8 g
 have k:a<b.length:=q8 d
 unfold fW
 (rewrite [gS g,gS d,gS k];refine bT LH ?_;refine bT LH ?_;refine bT LH ?_)
 cases b[a] with
 |none=>rfl
 |some e=>
  cases l:b[a+1] with
  |none=>cases h:e.bV== .kq<;>simp only [yi,h] <;>rfl
  |some f=>
   have i:=Rr (d:=b) (a:=a) (e:=f) (by (rewrite [gS d];refine bT l ?_;rfl))
   cases b[a+2] with
   |none=>simp only [yi];cases e.bV== .kq<;>cases f.bV.fQ<;>rfl
   |some j=>simp only [yi,i];cases c.c2 (a+1)<;>cases c.c2 (a+2)<;>cases e.bV== .kq<;>cases f.bV.fQ<;>cases j.bV== .gA<;>rfl
section
variable{a:Nat}{b:bS}{fz:Bool}
def IY(n:Hd)(e:Cd){s:Bool}(x:gk e s)(p:i3 e)(m:e.a2.length≤500)(r:e.b6.length≤500)(w:e.cp.length≤500):PC (vC cr (a+4)) 33 [.f (cf n e)] (cf n (fZ e)):=pf rfl rfl rfl rfl fun A k b v u=>by
 refine xc (n:=0) (f:=1) k n e (e:=gN) p m r w (by decide) qs (i:=fun h h=>True) trivial (fun h h h h=>trivial) (qv (sF x _) p) (fun g f z y K t q o h d=>?_) v u
 obtain rfl:=FK t
 have j:f+1<g.length:=q▸o
 have l:f<g.length:=q8 j
 have i:g.length≤500:=q▸m
 rw [RR j] at d
 apply aj;exact lx j i
 refine pc k (u5 g[f+1] NF) ?_
 refine cD (fun c=>?_) fun c=>?_
 ·rw [nN c] at d
  exact gL c (d [] rfl)
 ·rw [pW c] at d
  apply aj;exact oo (iG o) m
  refine cD (fun c=>?_) fun c=>?_
  ·rw [c] at d;exact d [] rfl
  ·rw [c] at d
   apply aj;exact lx l i
   refine pc k (u5 g[f] NF) ?_
   refine cD (fun c=>?_) fun c=>?_
   ·rw [c] at d
    apply aj;exact hU l i
    apply aj;exact hU (c:=g.set f b1) (d:=f+1) (by refine bT m9 ?_;exact j) (by refine bT m9 ?_;exact i)
    exact d [] rfl
   ·rw [c] at d
    apply aj;exact lx l i
    refine pc k (u5 g[f] VN) ?_
    refine cD (fun c=>?_) fun c=>?_
    ·rw [c] at d
     apply aj;exact hU j i
     exact d [] rfl
    ·rw [c] at d;exact d [] rfl
def D7(n:Hd)(g:Cd){t:Bool}(y:gk g t)(q:i3 g)(k:g.a2.length≤500)(s:g.b6.length≤500)(x:g.cp.length≤500):PC (vC cr (a+4)) 28 [.f (cf n g)] (cf n (ff g)):=pf rfl rfl rfl rfl fun C j b w v=>by
 refine xc (n:=0) (f:=2) j n g (e:=fW) q k s x (by decide) oj (i:=fun h h=>True) trivial (fun h h h h=>trivial) (qv (qZ y _) q) (fun f e A z K u r m h d=>?_) w v
 obtain rfl:=FK u
 have l:e+2<f.length:=r▸m
 have o:e+1<f.length:=q8 l
 have p:e<f.length:=q8 o
 have i:f.length≤500:=r▸k
 rw [OS l] at d
 apply aj;exact lx p i
 refine pc j (u5 f[e] VN) ?_
 refine cD (fun c=>?_) fun c=>?_<;>rw [c] at d
 ·apply aj;exact lx o i
  refine pc j (u5 f[e+1] xO) ?_
  refine cD (fun c=>?_) fun c=>?_<;>rw [c] at d
  ·apply aj;exact lx l i
   refine pc j (u5 f[e+2] VM) ?_
   refine cD (fun c=>?_) fun c=>?_<;>rw [c] at d
   ·apply aj;exact oo (iG (q8 m)) k
    refine cD (fun c=>?_) fun c=>?_
    ·rw [nN c] at d
     apply aj;exact oo (iG m) k
     refine cD (fun c=>?_) fun c=>?_
     ·rw [nN c] at d
      apply aj;exact hU p i
      apply aj;exact hU (c:=f.set e b1) (d:=e+2) (by refine bT m9 ?_;exact l) (by refine bT m9 ?_;exact i)
      exact d [] rfl
     ·rw [pW c] at d;exact d [] rfl
    ·rw [pW c] at d;exact ee c (d [] rfl)
   ·exact d [] rfl
  ·exact ee c (d [] rfl)
 ·exact ee c (d [] rfl)
end
def AB(a:Op):(a.cT==("jumpif":b4))=(a== .hV):=gr a .hV
def sZ(a b:Nat):((a:Int)==(b:Int))=(a==b):=by
 rw [vJ,beq_iff_eq,beq_iff_eq];exact UL
def Hk(e:Cd)(c:cb)(b:Nat):Option R→Option R→cb
 |some a,O d=>bif a.bV.cg&&(d.bV== .cI&&(a.t==b+2&& !e.c2 (b+1))) then fb c b (O (.cE a.bV.fN d.t a.e6)) b1 else c
 |_,_=>c
def D8{e:Cd}{c:cb}{b:Nat}{a d:R}:Hk e c b (O a) (O d)=bif a.bV.cg&&(d.bV== .cI&&(a.t==b+2&& !e.c2 (b+1))) then fb c b (O (.cE a.bV.fN d.t a.e6)) b1 else c:=rfl
def RS{c:Cd}{b:cb}{a:Nat}(h:a+1<b.length):gO c b a=Hk c b a b[a] b[a+1] :=by
 unfold gO Hk
 refine bT (wy h) ?_
 cases b[a] with
 |none=>rfl
 |some d=>cases b[a+1] with
  |none=>rfl
  |some i=>cases c.c2 (a+1)<;>cases e:d.bV.cg<;>cases f:i.bV== .cI<;>cases g:d.t==a+2<;>simp only [e,f,g] <;>rfl
def OT{a:Op}(d:a.cg=ar)(b:Nat)(c:Int):hW (O (R.cE a.fN b c))=.gJ 0 [.ad a.fN.cT,.Z b,.bX,.bX,.Z c] :=by
 exact lU (a:=fun a=>hW (O (R.cE a.fN b c))=.gJ 0 [.ad a.fN.cT,.Z b,.bX,.bX,.Z c]) d rfl rfl
section
variable{a:Nat}{b:bS}{fz:Bool}
def D9(v:Hd)(g:Cd){L:Bool}(ab:gk g L)(C:i3 g)(u:g.a2.length≤500)(G:g.b6.length≤500)(aa:g.cp.length≤500):PC (vC cr (a+4)) 31 [.f (cf v g)] (cf v (fq g)):=pf rfl rfl rfl rfl fun W n b T Q=>by
 refine xc (n:=3) (f:=1) n v g (e:=gO) C u G aa (by decide) qt (i:=fun k k=>True) trivial (fun k k k k=>trivial) (qv (qY ab _).1 C) (fun h e ae ac K s F y k c=>?_) T Q
 refine bU fun A=>?_
 obtain ⟨o,ag,af,rfl⟩:=WU s
 refine A ?_;try clear A
 have m:e+1<h.length:=F▸y
 have r:e<h.length:=q8 m
 have l:h.length≤500:=F▸u
 rw [RS m] at c
 apply aj;exact lx r l
 apply aj;exact lx m l
 refine pc n (u5 h[e] px) ?_
 generalize h[e] =X at c⊢
 generalize h[e+1] =p at c⊢
 induction X with
 |none=>exact c [_,_,_] rfl
 |some d=>
 refine cD (fun i=>?_) fun i=>?_
 ·refine pc n (u5 p NG) ?_
  induction p with
  |none=>exact c [_,_,_] rfl
  |some j=>
  rw [D8,show d.bV.cg=ar from i] at c
  refine cD (fun q=>?_) fun q=>?_<;>rw [show (j.bV== .cI)=_ from q] at c
  ·have I:d.bV.b8=ar:=(rm i)
   have Y:fa j=.Z j.t:=fi (by refine bT (dr (show (j.bV== .cI)=ar from q)) ?_;rfl)
   apply aj (b:=fh cr _ .cZ (.f (fa d)) _) (c:=d.t==e+2);refine bT (fi I) ?_;exact congrArg O (sZ d.t (e+2))
   refine cD (fun t=>?_) fun t=>?_<;>rw [t] at c
   ·apply aj;exact oo (iG y) u
    refine cD (fun f=>?_) fun f=>?_
    ·rw [nN f] at c
     have x:∀(o:b4),d.bV.fN.cT=o→PC W 1000 [.f (.ad o),.f (fa j),.f .bX,.f .bX,.f (.Z d.e6)] (hW (O (R.cE d.bV.fN j.t d.e6))):=fun o s=>by
      (rewrite [OT i];refine bT s ?_;refine bT Y ?_;refine bT n ?_);exact o4 ..
     refine cD (fun f=>?_) fun f=>?_<;>rw [AB] at f
     ·refine pc rfl (x "jumpunless" (by refine bT (dr f) ?_;rfl)) ?_
      apply aj;exact qR _ r l
      apply aj;exact hU (d:=e+1) (by refine bT m9 ?_;exact m) (by refine bT m9 ?_;exact l)
      exact c [_,_,_] rfl
     ·have w:d.bV=.e5:=(lU (a:=fun z=>z=.hV∨z=.e5) i (.inl rfl) (.inr rfl)).resolve_left fun w=>by rw [w] at f;exact dy f
      refine pc rfl (x "jumpif" (by refine bT w ?_;rfl)) ?_
      apply aj;exact qR _ r l
      apply aj;exact hU (d:=e+1) (by refine bT m9 ?_;exact m) (by refine bT m9 ?_;exact l)
      exact c [_,_,_] rfl
    ·rw [pW f] at c;exact c [_,_,_] rfl
   ·exact ee t (c [_,_,_] rfl)
  ·exact ee q (c [_,_,_] rfl)
 ·have P:Hk g h e (O d) p=h:=by
   induction p with
   |none=>rfl
   |some j=>(refine bT D8 ?_;refine bT (show d.bV.cg=b2 from i) ?_);rfl
  rw [P] at c
  exact ee i (c [_,_,_] rfl)
end
def AC(b:Cd)(a:cb)(c:Nat):Option R→Option R→cb
 |some e,O d=>bif b.c2 (c+1) then a else (iR b a c e d).getD a
 |_,_=>a
def OU{c:Cd}{b:cb}{a:Nat}(d:a+1<b.length):fv c b a=AC c b a b[a] b[a+1] :=by
 unfold fv AC
 refine bT (wy d) ?_
 cases b[a] with
 |none=>rfl
 |some f=>cases b[a+1] with
  |none=>rfl
  |some e=>cases c.c2 (a+1)<;>rfl
def AD{b:Cd}{a:cb}{c:Nat}{e d:R}:AC b a c (O e) (O d)=bif b.c2 (c+1) then a else (iR b a c e d).getD a:=rfl
def OV{e:Cd}{b:cb}{d:Nat}{c a:R}(g:(c.bV== .d0)=ar)(f:a.bV.cg=ar):(iR e b d c a).getD b=fb b d b1 (if a.bV.eM (dI c.a) then O (.cE .cI a.t a.e6) else b1):=by
 unfold iR;(refine bT (if_pos g) ?_;refine bT (if_pos f) ?_);rfl
def OW{c:Cd}{b:cb}{d:Nat}{g a:R}(e:a.bV.cg=b2)(f:(a.bV== .cI)=b2):(iR c b d g a).getD b=b:=by
 unfold iR;rw [if_neg (c:=a.bV.cg=ar) (by refine bT e ?_;decide),if_neg (c:=(a.bV== .cI)=ar) (by refine bT f ?_;decide)];split<;>rfl
def OX{e:Cd}{c:cb}{f:Nat}{d a b:R}(i:(d.bV== .d0)=ar)(g:a.bV.cg=b2)(j:(a.bV== .cI)=ar)(h:e.a2[a.t]? =O b):(iR e c f d a).getD c=if b.bV.cg then fb c f b1 (O {a with t:=if b.bV.eM (dI d.a) then b.t else a.t+1}) else c:=by
 unfold iR;rw [if_pos i,if_neg (c:=a.bV.cg=ar) (by refine bT g ?_;decide),if_pos j];simp only [h];cases b.bV.cg<;>rfl
def OY{c:Cd}{a:cb}{d:Nat}{b f:R}(e:(b.bV== .d0)=b2):(iR c a d b f).getD a=a:=by
 unfold iR;rw [if_neg (by refine bT e ?_;decide)];rfl
section
variable{c:Nat}{b:bS}{fz:Bool}
def yj(d:R)(a:bl)(g:gZ a=ar):PC (vC cr (c+2)) 29 [.f (eR d),.f a] (.b3 (d.bV.eM (dI a))):=pf rfl rfl rfl rfl fun i e b f h=>by
 refine pc e (RB a g) ?_
 exact c8 (b:=f) (by rw [AB];exact h) eO
def IZ(v:Hd)(d:Cd){ak:Bool}(af:gk d ak)(ae:i3 d)(al:g0 d)(s:d.a2.length≤500)(ai:d.b6.length≤500)(aF:d.cp.length≤500):PC (vC cr (c+4)) 30 [.f (cf v d)] (cf v (fE d)):=pf rfl rfl rfl rfl fun p j b aC av=>by
 refine xc (n:=5) (f:=1) j v d (e:=fv) ae s ai aF (by decide) oN (i:=fun F g=>g=dk d fv F) rfl (fun F g aH j=>by subst j;unfold dk;(refine bT vT ?_;refine bT tR ?_);rfl) (qv (sG af _) ae) (fun g f aJ au K aq ag Y aB e=>?_) aC av
 refine bU fun ac=>?_
 obtain ⟨aG,aL,aK,aI,aM,rfl⟩:=WV aq
 obtain ⟨aa,an,C⟩:=ro af f
 refine ac ?_;try clear ac
 rw [← aB] at aa an C
 have l:f+1<g.length:=ag▸Y
 have m:f<g.length:=q8 l
 have k:g.length≤500:=ag▸s
 have q:(g.set f b1).length≤500:=by refine bT m9 ?_;exact k
 have r:f+1<(g.set f b1).length:=by refine bT m9 ?_;exact l
 rw [OU l] at e
 have T:g[f]? =O g[f] :=gS m
 have L:O g[f+1] =(d.a2.map O)[f+1]? :=(gS l).symm.trans (C (f+1) (h9 f))
 apply aj;exact lx m k
 apply aj;exact lx l k
 refine pc j (u5 g[f] XC) ?_
 generalize g[f] =aD at e T⊢
 generalize g[f+1] =y at e L⊢
 induction aD with
 |none=>exact e [_,_,_,_,_] rfl
 |some h=>
 refine cD (fun i=>?_) fun i=>?_
 ·have aw:AC d g f (O h) y=g:=by
   induction y with
   |none=>rfl
   |some a=>(refine bT AD ?_;refine bT (OY (nN i)) ?_);cases d.c2 (f+1)<;>rfl
  rw [aw] at e
  exact gL i (e [_,_,_,_,_] rfl)
 have u:(h.bV== .d0)=ar:=pW i
 induction y with
 |none=>exact e [_,_,_,_,_] rfl
 |some a=>
 rw [AD] at e
 apply aj;exact oo (iG Y) s
 refine cD (fun G=>?_) fun G=>?_<;>rw [G] at e
 ·exact e [_,_,_,_,_] rfl
 have e:∀ah,ah.length=5→au (O (.f (cf v d))::O (.f (.Z f))::O (.cq b.length)::O (.f (CS d))::ah) (b++[O (.a3 (((iR d g f h a).getD g).map hW))]):=e
 have I:gZ h.a=ar:=Rx (dr u) (aa.cF f h T)
 have W:fa h=h.a:=by unfold fa;refine bT (dr u) ?_;rfl
 have ay:d.a2[f+1]? =O a:=dF.mp L.symm
 apply aj;exact gU _
 refine cD (fun i=>?_) fun i=>?_
 ·rw [OV u i] at e
  have aE:fa a=.Z a.t:=fi (rm i)
  have z:PC p 29 [.f (eR a),.f (fa h)] (.b3 (a.bV.eM (dI h.a))):=by (refine bT W ?_;refine bT j ?_);exact yj a h.a I
  refine pc rfl z ?_
  apply aj;exact hU m k
  refine cD (fun o=>?_) fun o=>?_<;>rw [o] at e
  ·have am:PC p 1000 [.f (.ad "jump"),.f (fa a),.f .bX,.f .bX,.f (.Z a.e6)] (hW (O (R.cE .cI a.t a.e6))):=by (refine bT aE ?_;refine bT j ?_);exact o4 ..
   refine pc rfl am ?_
   apply aj;exact qR _ r q
   exact e [_,_,_,_,_] rfl
  ·apply aj;exact hU r q
   exact e [_,_,_,_,_] rfl
 refine cD (fun w=>?_) fun w=>?_
 ·have ab:(a.bV== .cI)=ar:=ny _▸w
  have x:a.bV.b8=ar:=by refine bT (dr ab) ?_;rfl
  have aA:=al a (gj ay) x
  have X:d.a2[a.t]? =O d.a2[a.t] :=gS aA
  rw [OX u i ab X] at e
  have P:∀b,jX cr b (.f (.a3 (d.a2.map eR))) (.f (fa a))=O (eR d.a2[a.t]):=fun b=>by refine bT (fi x) ?_;exact hC X s
  apply aj;exact P _
  apply aj;exact gU _
  refine cD (fun A=>?_) fun A=>?_<;>rw [A] at e
  ·apply aj;exact P _
   have z:PC p 29 [.f (eR d.a2[a.t]),.f (fa h)] (.b3 (d.a2[a.t].bV.eM (dI h.a))):=by (refine bT W ?_;refine bT j ?_);exact yj _ h.a I
   refine pc rfl z ?_
   have Q:∀n:Nat,PC p 1 [.f (eR a),.f (.Z n)] (hW (O {a with t:=n})):=fun n=>by
    have:=lI (d:=c+1) a (.Z n)
    rw [← FG a n x,← j] at this;exact this
   refine cD (fun o=>?_) fun o=>?_<;>rw [o] at e
   ·apply aj;exact hU m k
    have az:PC p 1 [.f (eR a),.f (fa d.a2[a.t])] (hW (O {a with t:=d.a2[a.t].t})):=by refine bT (fi (rm A)) ?_;exact Q _
    refine pc rfl az ?_
    apply aj;exact qR _ r q
    exact e [_,_,_,_,_] rfl
   ·have ao:∀b,pn b ar .dc (.f (fa a)) (.f (.Z 1))=O (.f (.Z ((a.t+1:Nat):Int)),b):=fun b=>by refine bT (fi x) ?_;rfl
    apply aj;exact ao _
    apply aj;exact hU m k
    refine pc rfl (Q _) ?_
    apply aj;exact qR _ r q
    exact e [_,_,_,_,_] rfl
  ·exact e [_,_,_,_,_] rfl
 ·rw [OW i (ny _▸w)] at e
  exact ee w (e [_,_,_,_,_] rfl)
end
def m3{c:Type}{b:c→bl}{a:List c}(d:a.length≤500):w1 ar (.f (.a3 (a.map b)))=O (eV (a.map b)):=by
 unfold w1;refine bT (if_pos rfl) ?_;exact if_pos (by rw [et];exact cu d (by decide))
section
variable{b:Nat}{a:bS}{fz:Bool}
def Ea(j:Hd)(d:Cd)(r:i3 d)(o:d.a2.length≤500)(s:d.b6.length≤500)(y:d.cp.length≤500):PC (vC cr (b+4)) 32 [.f (cf j d)] (cf j (dM d)):=pf rfl rfl rfl rfl fun A i a w v=>by
 apply aj;exact g4 (fy _)
 apply aj;exact m3 o
 refine Fz (fun f=>a++[O (.a3 (((d.a2.mapIdx d5).take f).map hW))]) (fun _ (k:Option bZ×Option bZ)=>[O (.f (cf j d)),O (.cq a.length),k.1,k.2]) (a:=(b1,b1)) (fun f c k t x e=>?_) fun k=>?_
 ·have l:(((d.a2.mapIdx d5).take f).map hW).length≤100000:=by
   rw [et];exact cu (yB ..) (by refine bT pj ?_;exact cu o (by decide))
  rw [qC,wa,x,r8] at e
  have e:t [O (.f (cf j d)),O (.cq a.length),O (.f (.Z f)),O (.f (eR c))] (a++[O (.a3 (((d.a2.mapIdx d5).take f).map hW++[hW (d5 f c)]))]):=e (_,_)
  apply aj;exact om _
  refine cD (fun h=>?_) fun h=>?_
  ·apply aj (b:=fh cr _ .cZ (.f (fa c)) _) (c:=c.t==f+1);refine bT (fi h) ?_;exact congrArg O (sZ c.t (f+1))
   refine cD (fun n=>?_) fun n=>?_
   ·rw [show d5 f c=i7 c by unfold d5;(refine bT h ?_;refine bT n ?_);rfl] at e
    apply aj;exact dK (eo _ _ _)
    apply aj;exact gU _
    refine cD (fun m=>?_) fun m=>?_
    ·rw [show i7 c=O (.cE .gA 0 c.e6) by unfold i7;refine bT m ?_;rfl] at e
     refine pc i (o4 ..) ?_
     apply aj;exact on l
     exact e
    ·rw [show i7 c=b1 by unfold i7;refine bT m ?_;rfl] at e
     apply aj;exact on l
     exact e
   ·rw [show d5 f c=O c by unfold d5;(refine bT h ?_;refine bT n ?_);rfl] at e
    apply aj;exact dK (eo _ _ _)
    apply aj;exact on l
    exact e
  ·rw [show d5 f c=O c by unfold d5;refine bT h ?_;rfl] at e
   refine ee h ?_
   apply aj;exact dK (eo _ _ _)
   apply aj;exact on l
   exact e
 apply aj;exact js (eo _ _ _)
 rw [kk,Cb (by refine bT pj ?_;exact dX _)]
 refine pc i (rx j d (d.a2.mapIdx d5) r pj (fun C c i p=>?_) o s y) (c8 (b:=w) v (jB _ _))
 rw [wa] at i
 refine bU fun q=>?_
 obtain ⟨z,u,g⟩:=tm.mp i
 refine q ?_;try clear q
 unfold d5 at g
 split at g
 ·unfold i7 at g
  split at g
  ·cases g;exact dy p
  ·exact cG g
 ·cases g;exact r.iV c (gj u) p
def RT(c:Cd)(e:Nat→Bool):iC (c.a2.map eR) ((f5 c.a2.length).map fun g=>.b3 (e g))=c.a2.zipIdx.map fun d=>bl.cQ [eR d.1,.b3 (e d.2)] :=by
 unfold iC
 (refine bT List.zip_map ?_;refine bT lO ?_;refine bT List.zipIdx_eq_zip_range' ?_;refine gT List.range_eq_range' ?_)
 exact y9 fun f f=>rfl
def OZ(c:Cd):c.a2.zipIdx.map (fun d=>hW (eY c d.2 d.1))=(c.a2.mapIdx (eY c)).map hW:=by
 (refine bT List.mapIdx_eq_zipIdx_map ?_;refine bT lO ?_);rfl
def Kc{d e:Type}{f:d→bl}{g:e→bl}{c:List d}{h:List e}(i:c.length≤500):G5 ar (.f (.a3 (c.map f))) (.f (.a3 (h.map g)))=O (iC (c.map f) (h.map g)):=by
 unfold G5;refine bT (if_pos rfl) ?_;exact if_pos (by rw [et];exact cu i (by decide))
def NH(i:Hd)(c:Cd){q:Bool}(v:gk c q)(o:i3 c)(n:c.a2.length≤20)(k:c.b6.length≤8)(p:c.cp.length≤8):PC (vC cr (b+4)) 26 [.f (cf i c)] (cf i (dO c)):=pf rfl rfl rfl rfl fun z e a t l=>by
 have j:c.a2.length≤500:=cu n (by decide)
 refine pc e (Ka i c v n k p) ?_
 apply aj;exact Kc j
 rw [RT]
 refine iD (fun d:R×Nat=>bl.cQ [eR d.1,.b3 (j5 c d.2)]) (fun d=>hW (eY c d.2 d.1)) (fun d y K l f=>?_) ?_
 ·refine cD (fun g=>?_) fun g=>?_
  ·rw [show eY c d.2 d.1=O d.1 by unfold eY;(refine bT (if_pos ((ln c _).mp g)) ?_;rfl)] at f
   exact f
  ·rw [show eY c d.2 d.1=b1 by unfold eY;rw [if_neg fun w=>by rw [(ln c _).mpr w] at g;cases g]] at f
   exact f
 rw [OZ]
 apply aj;exact lh (by refine bT pj ?_;exact j)
 refine pc e (rx i c (c.a2.mapIdx (eY c)) o pj (fun d u e r=>?_) j (cu k (by decide)) (cu p (by decide))) (c8 (b:=t) l eO)
 rw [m2] at e
 refine bU fun m=>?_
 obtain ⟨x,s,h⟩:=tm.mp e
 refine m ?_;try clear m
 unfold eY at h
 split at h
 ·cases h;exact o.iV u (gj s) r
 ·exact cG h
end
def Bd(a:Cd):Prop:=(a.a2.length≤20)∧(a.b6.length≤8)∧(a.cp.length≤8)
section
variable{a:Cd}(b:Bd a)
include b
def Bd.a2:a.a2.length≤20:=b.1
def Bd.b6:a.b6.length≤8:=b.2.1
def Bd.cp:a.cp.length≤8:=b.2.2
end
def Bd.cX{a:Cd}(b:Bd a){c:cb}(d:c.length=a.a2.length):Bd (a.cX c):=⟨
 cu (qd d) b.a2,
 cu (vN _ _) b.b6,
 (by show (a.cp.map _).length≤8;rw [et];exact b.cp)⟩
def u6{b a:bl}(d:gh b=ar)(c:gh a=ar)(e:Nat):nt (e+1) b a=O (xa b a):=by
 unfold xa
 cases b<;>cases d<;>cases a<;>cases c<;>rfl
def O0{b:bl}(a:gZ b=ar):gh b=ar:=by
 unfold gZ at a
 split at a<;>first|rfl|exact dy a
def gw{a:bl}(b:dW a=ar):gh a=ar:=by refine bT (iA b) ?_;rfl
def s0{b:b4}{a:bl}(c:lv b a=ar):gh a=ar:=by refine bT (j1 c) ?_;rfl
def I0{b:Int}{a:bl}(c:rP b a=ar):gh a=ar:=by refine bT (mG c) ?_;rfl
def O1{b:bl}(c:sr b=ar):gh b=ar:=by rcases tw c with a|a<;>refine bT a ?_<;>rfl
def FL{h:Bool}{d:R}(e:d.cF h=ar):gh (fa d)=ar∧gh d.b=ar∧gh d.c=ar:=by
 refine bU fun f=>?_
 obtain ⟨g,k,m,j,i,l⟩:=d
 refine f ?_;try clear f
 induction g<;>refine eE (show _=ar from e) fun e b=>eE e fun c a=>?_
 all_goals first
  |exact ⟨O0 c,gw a,gw b⟩
  |exact ⟨I0 c,O1 a,gw b⟩
  |exact ⟨s0 c,gw a,gw b⟩
  |exact ⟨s0 c,s0 a,gw b⟩
  |exact ⟨gw c,gw a,gw b⟩
  |exact ⟨I0 (iX.mp c).2,gw a,gw b⟩
  |exact ⟨rfl,gw a,gw b⟩
  |exact ⟨oX c s0 s0,gw a,gw b⟩
def RU(c:Nat)(a b:List bl):nt (c+1) (.cQ a) (.cQ b)=if a.length=b.length then sg (nt c) a b else b1:=rfl
def XD(a:R):bl:=.cQ [.ad a.bV.cT,fa a,a.b,a.c]
noncomputable abbrev jt(a:List R):List bl:=a.map XD
def HU{i:Bool}:∀{c a:List R},(∀b∈c,b.cF i=ar)→(∀b∈a,b.cF i=ar)→c.length=a.length→sg (nt 11) (jt c) (jt a)=O (iM c a):=by
 intro c
 induction c with
 |nil=>
  intro a
  rcases a with _|⟨_,_⟩
  ·intro _ _ _
   exact rfl
  ·intro _ _ d
   cases d
 |cons b c f=>
  intro a
  rcases a with _|⟨e,a⟩
  ·intro _ _ d
   cases d
  ·intro d j s
   have f:=f (a:=a) (fun h g=>d h (ia _ g)) (fun h g=>j h (ia _ g)) (by simpa using s)
   refine bU fun k=>?_
   obtain ⟨n,q,m⟩:=FL (d b fD)
   obtain ⟨r,o,p⟩:=FL (j e fD)
   refine k ?_;try clear k
   have l:nt 11 (XD b) (XD e)=O (BD b e):=by
    unfold XD
    (rewrite [RU];refine bT (if_pos (by simp)) ?_)
    show (nt 10 (.ad b.bV.cT) (.ad e.bV.cT)).bind _=_
    simp only [sg,u6 n r,u6 q o,u6 m p,tn,F8,LN]
    show O ((b.bV.cT==e.bV.cT)&&_)=_
    rw [gr];rfl
   show (nt 11 _ _).bind _=_
   (refine bT l ?_;rw [tn])
   show (sg (nt 11) (jt c) (jt a)).map _=_
   refine bT f ?_;rfl
def z4:∀{b a:List R},b.length≠a.length→iM b a=b2:=by
 intro b
 induction b with
 |nil=>
  intro a
  rcases a with _|⟨_,_⟩
  ·intro c
   exact absurd rfl c
  ·intro _
   exact rfl
 |cons f b d=>
  intro a
  rcases a with _|⟨e,a⟩
  ·intro _
   exact rfl
  ·intro c
   unfold iM
   (refine bT (d (by simpa using c)) ?_;rw [qz])
def Ke{e:Bool}{g:bS}{a b:List R}(h:∀d∈a,d.cF e=ar)(f:∀d∈b,d.cF e=ar):fh cr g .cZ (.f (.a3 (jt a))) (.f (.a3 (jt b)))=O (iM a b):=by
 show lE (.a3 (jt a)) (.a3 (jt b))=_
 unfold lE
 show (if (jt a).length=(jt b).length then sg (nt 11) (jt a) (jt b) else O b2)=_
 by_cases c:a.length=b.length
 ·(refine bT (if_pos (by simp [jt,c])) ?_;refine bT (HU h f c) ?_;rfl)
 ·(refine bT (if_neg (by simpa [jt] using c)) ?_;refine bT (z4 c) ?_;rfl)
def I1{b:Cd}{c:Bool}(f:gk b c):∀a∈b.a2,a.cF c=ar:=fun a d=>by
 obtain ⟨e,g⟩:=yA d
 exact f.cF e a (dF.mpr g)
section
variable{b:Nat}{a:bS}{c:Bool}
def I2(h:Hd)(d:Cd)(g:Bd d):PC (vC cr (b+1)) 34 [.f (cf h d)] (.a3 (jt d.a2)):=pf rfl rfl rfl rfl fun n l a i j=>by
 have e:d.a2.length≤500:=cu g.a2 (by decide)
 apply aj;exact eh e
 refine iD eR XD (fun o m K k f=>f) ?_
 apply aj;exact lh e
 exact c8 (b:=i) j eO
def q3{d:Cd}(f:kL d c)(e:Bd d):Bd (ig d):=by
 unfold ig
 refine Bd.cX (Bd.cX (Bd.cX (Bd.cX (Bd.cX (Bd.cX (Bd.cX (Bd.cX e ?_) ?_) ?_) ?_) ?_) ?_) ?_) ?_
 ·simp
 ·exact dN oN _
 ·exact dN qt _
 ·exact pj
 ·exact pj
 ·exact dN oi _
 ·exact dN oj _
 ·exact dN qs _
def Bd.iB{d:Cd}(e:Bd d):d.a2.length≤500∧d.b6.length≤500∧d.cp.length≤500:=⟨cu e.a2 (by decide),cu e.b6 (by decide),cu e.cp (by decide)⟩
def Kf{T:cK}(f:T=vC cr (b+4))(e:Hd){d:Cd}(g:kL d c)(h:Bd d){ab:bl}{r z y t:Option bZ}{K:KS}{G:cV→bS→Prop}(W:iM (ig d).a2 d.a2=ar→∀x,K (.cw (.f (cf e (ig d)))) x a)(L:iM (ig d).a2 d.a2=b2→∀r z y t,G [O (.f (cf e (ig d))),r,z,y,t] a):
  jP [O (.f (cf e d)),r,z,y,t] [1] b2 ab fun x=>fG ⟨cr,T⟩ iJ x a (jQ G K):=by
 have u:=pV g.jS g.gH
 have v:=lH g.cF
 have m:Bd (ep d):=h.cX (by rw [et,et])
 have w:=pq v.1
 have F:=u1 v.1 u.1
 have k:Bd (fE (ep d)):=m.cX (dN oN _)
 have af:=nY w.1
 have A:=xI w.1 F
 have l:Bd (fq (fE (ep d))):=k.cX (dN qt _)
 have Q:=pr af.1
 have Y:=u2 A
 have n:Bd (dM (fq (fE (ep d)))):=l.cX pj
 have p:=rq Q.1
 have I:=xJ Y
 have j:Bd (dO (dM (fq (fE (ep d))))):=n.cX pj
 have s:=nX p.1.1
 have R:=xG p.1.1 I
 have i:Bd (eX (dO (dM (fq (fE (ep d)))))):=j.cX (dN oi _)
 have ac:=q0 s.1
 have ae:=xH s.1 R
 have o:Bd (ff (eX (dO (dM (fq (fE (ep d))))))):=i.cX (dN oj _)
 have P:=pt g
 have X:=q3 g h
 refine pc f (I2 e d h) ?_
 refine pc f (yh e d g.jS g.gH h.iB.1 h.iB.2.1 h.iB.2.2) ?_
 refine pc f (IZ e _ v.1 u.1 u.2 m.iB.1 m.iB.2.1 m.iB.2.2) ?_
 refine pc f (D9 e _ w.1 F k.iB.1 k.iB.2.1 k.iB.2.2) ?_
 refine pc f (Ea e _ A l.iB.1 l.iB.2.1 l.iB.2.2) ?_
 refine pc f (NH e _ Q.1 Y n.a2 n.b6 n.cp) ?_
 refine pc f (D6 e _ p.1.1 I j.iB.1 j.iB.2.1 j.iB.2.2) ?_
 refine pc f (D7 e _ s.1 R i.iB.1 i.iB.2.1 i.iB.2.2) ?_
 have aa:PC (vC cr (b+4)) 33 _ (cf e (ig d)):=IY e _ ac.1 ae o.iB.1 o.iB.2.1 o.iB.2.2
 generalize ig d=C at aa P X W L
 refine pc f aa ?_
 refine pc f (I2 e C X) ?_
 apply aj;exact Ke (a:=C.a2) (b:=d.a2) (I1 P.cF) (I1 g.cF)
 exact cD (fun q=>W q _) fun q=>L q _ _ _ _
def Kg{p:cK}(s:p=vC cr (b+4))(m:Hd){K:KS}{k:Cd}(t:∀q,K (.cw (.f (cf m k))) q a)(v:∀e i h f,K .cc [O (.f (cf m k)),e,i,h,f] a)(j:List bl):∀{g:Cd}{e i h f:Option bZ},kL g c→Bd g→k=d6 j.length g→
  jZ (fG ⟨cr,p⟩ iJ) [1] b2 K j [O (.f (cf m g)),e,i,h,f] a:=by
 induction j with
 |nil=>exact fun {g e i h f} l o d=>(show k=g from d)▸v e i h f
 |cons x j r=>
  intro g e i h f l o d
  rw [lZ,d6] at d
  have u:=pt l
  have w:=q3 l o
  refine Kf (G:=jZ (fG ⟨cr,p⟩ iJ) [1] b2 K j) s m l o (fun n q=>?_) fun n e i h f=>?_
  ·rw [if_pos n] at d
   refine gT d ?_;exact t q
  ·rw [if_neg (by refine bT n ?_;exact kx)] at d
   exact r u w d
def O2(f:Hd){d:Cd}(h:kL d c)(j:Bd d):PC (vC cr (b+5)) 35 [.f (cf f d)] (cf f (d6 24 d)):=pf rfl rfl rfl rfl fun m i a k l=>by
 have g:=c8 (b:=k) l (eO (l:=a))
 exact Kg i f (k:=d6 24 d) (fun e=>g) (fun e e e e=>g) (dL 24) (e:=b1) h j rfl
end
abbrev pd:=Hd×Cd
def ez(a:pd):bl:=cf a.1 a.2
def uq(a:pd):Prop:=(kL a.2 b2)∧(Bd a.2)∧(a.1.fB=[])
section
variable{a:pd}(b:uq a)
include b
def uq.hM:kL a.2 b2:=b.1
def uq.bd:Bd a.2:=b.2.1
def uq.bX:a.1.fB=[] :=b.2.2
end
def Dp(a:pd):Prop:=(gR a.2 b2)∧(Bd a.2)∧(a.1.fB=[])
section
variable{a:pd}(b:Dp a)
include b
def Dp.ly:gR a.2 b2:=b.1
def Dp.bd:Bd a.2:=b.2.1
def Dp.bX:a.1.fB=[] :=b.2.2
end
def h7(a:pd):pd:=(a.1,d6 24 a.2)
noncomputable def Hd.wk(a:Hd)(b:List bl):Hd:={a with fB:=b}
def Hd.BJ{a:Hd}{b:List bl}(c:a.fB=b):a.wk b=a:=by subst c;rfl
def BK{g:Bool}:∀(b:Nat){a:Cd},kL a g→Bd a→Bd (d6 b a):=by
 intro b
 induction b with
 |zero=>
  intro a _ c
  exact c
 |succ b f=>
  intro a d c
  have e:=q3 d c
  unfold d6
  split
  ·exact e
  ·exact f (pt d) e
section
variable{a:Nat}{b:bS}{c:Bool}
def AE{m:Type}(h:Hd){f:Cd}(u:kL f c)(r:Bd f)(d:List m)(e i:m→bl)(n:d.length≤500)(o:∀g∈d,PC (vC cr (a+5)) 36 [.f (e g)] (i g)):
  PC (vC cr (a+6)) 36 [.f (cf (h.wk (d.map e)) f)] (cf (h.wk (d.map i)) (d6 24 f)):=pf rfl rfl rfl rfl fun w j b t l=>by
 have k:=O2 (b:=a) (h.wk (d.map e)) u r
 generalize d6 24 f=q at k l
 refine pc j k ?_
 apply aj;exact eh (c:=e) (a:=d) n
 refine iD e i (fun g v K s p=>pc j (o g s) p) ?_
 apply aj;exact lh n
 exact pc j (q2 (h.wk (d.map e)) q ..) (c8 (b:=t) l eO)
def O3(d:pd)(e:uq d):PC (vC cr (a+6)) 36 [.f (ez d)] (ez (h7 d)):=by
 have:=AE (a:=a) d.1 e.hM e.bd ([] :List Unit) (fun f=>.bX) (fun f=>.bX) (fy _) (fun f h=>absurd h gD)
 rw [Ck,Hd.BJ e.bX] at this
 have g:ez (h7 d)=cf d.1 (d6 24 d.2):=by unfold ez h7;with_reducible rfl
 rewrite [g]
 exact this
def NI(g:Hd){f:Cd}(h:kL f c)(k:Bd f){e:List pd}(l:e.length≤500)(i:∀d∈e,uq d):
  PC (vC cr (a+7)) 36 [.f (cf (g.wk (e.map ez)) f)] (cf (g.wk (e.map fun d=>ez (h7 d))) (d6 24 f)):=
 AE (a:=a+1) g h k e ez _ l fun d j=>O3 d (i d j)
noncomputable def j6:List (b4×Nat):=[("threaded",24),("known branches",30),("turned branches",31),("short jumps",32),("dead rows",26),("pushes",27),("copies",28),("swaps",33)]
def j7{e:b4}{f:Nat}(g:∀(b:bS)(d:KE),vC cr (a+1) 37 [.f (.ad e)] b d=d (.f (.fn f)) (b.take b.length)):PC (vC cr (a+1)) 37 [.f (.ad e)] (.fn f):=⟨fun b d h=>by
 (rewrite [g];refine bT eO ?_);exact h⟩
def sI{d:b4×Nat→Prop}{g:b4×Nat}(f:g∈j6)(e:d ("threaded",24)∧d ("known branches",30)∧d ("turned branches",31)∧d ("short jumps",32)∧d ("dead rows",26)∧d ("pushes",27)∧d ("copies",28)∧d ("swaps",33)):d g:=by
 simp only [j6,eP,gD,or_false] at f
 rcases f with rfl|rfl|rfl|rfl|rfl|rfl|rfl|rfl
 ·exact e.1
 ·exact e.2.1
 ·exact e.2.2.1
 ·exact e.2.2.2.1
 ·exact e.2.2.2.2.1
 ·exact e.2.2.2.2.2.1
 ·exact e.2.2.2.2.2.2.1
 ·exact e.2.2.2.2.2.2.2
def RV(e:b4×Nat)(f:e∈j6):PC (vC cr (a+1)) 37 [.f (.ad e.1)] (.fn e.2):=
 sI (d:=fun e=>PC (vC cr (a+1)) 37 [.f (.ad e.1)] (.fn e.2)) f ⟨j7 (by intro b d;kernel_rfl),j7 (by intro b d;kernel_rfl),j7 (by intro b d;kernel_rfl),j7 (by intro b d;kernel_rfl),j7 (by intro b d;kernel_rfl),j7 (by intro b d;kernel_rfl),j7 (by intro b d;kernel_rfl),j7 (by intro b d;kernel_rfl)⟩
def Kh(e:Hd){d:Cd}(f:gR d c)(m:Bd d)(k:b4×Nat)(o:k∈j6):jJ k.2 1000=ar∧PC (vC cr (a+4)) k.2 [.f (cf e d)] (cf e d):=by
 obtain ⟨h,j,i⟩:=m.iB
 have l:=f.hM.cF
 have g:=f.hM.jS
 have n:=f.hM.gH
 refine sI (d:=fun k=>jJ k.2 1000=ar∧PC (vC cr (a+4)) k.2 [.f (cf e d)] (cf e d)) o ⟨⟨rfl,?_⟩,⟨rfl,?_⟩,⟨rfl,?_⟩,⟨rfl,?_⟩,⟨rfl,?_⟩,⟨rfl,?_⟩,⟨rfl,?_⟩,⟨rfl,?_⟩⟩
 ·have:=yh (d:=a) e d g n h j i;rw [f.xL] at this;exact this
 ·have:=IZ (c:=a) e d l g n h j i;rw [f.Hg.1] at this;exact this
 ·have:=D9 (a:=a) e d l g h j i;rw [f.Fw.1] at this;exact this
 ·have:=Ea (b:=a) e d g h j i;rw [f.M0.1] at this;exact this
 ·have:=NH (b:=a) e d l g m.a2 m.b6 m.cp;rw [f.J5.1] at this;exact this
 ·have:=D6 (b:=a) e d l g h j i;rw [f.Fx.1] at this;exact this
 ·have:=D7 (a:=a) e d l g h j i;rw [f.Fy.1] at this;exact this
 ·have:=IY (a:=a) e d l g h j i;rw [f.Hh.1] at this;exact this
def vA{l:Type}(j:Hd){g:Cd}(t:gR g c)(q:Bd g)(f:b4×Nat)(k:f∈j6)(e:List l)(d:l→bl)(m:e.length≤500)(n:∀i∈e,PC (vC cr (a+4)) 38 [.f (d i),.f (.a3 [.ad f.1])] (d i)):
  PC (vC cr (a+5)) 38 [.f (cf (j.wk (e.map d)) g),.f (.a3 [.ad f.1])] (cf (j.wk (e.map d)) g):=pf rfl rfl rfl rfl fun x h b u r=>by
 obtain ⟨v,p⟩:=Kh (a:=a) (j.wk (e.map d)) t q f k
 refine pc h (RV f k) ?_
 refine gL (sI (d:=fun f=>MS cr (.f (.fn f.2))=ar) k ⟨rfl,rfl,rfl,rfl,rfl,rfl,rfl,rfl⟩) ?_
 refine gL v ?_
 refine pc h p ?_
 apply aj;exact eh (c:=d) (a:=e) m
 refine iD d d (fun i w K s o=>pc h (n i s) o) ?_
 apply aj;exact lh m
 exact pc h (q2 (j.wk (e.map d)) g ..) (c8 (b:=u) r eO)
def HV(d:pd)(f:Dp d)(e:b4×Nat)(h:e∈j6):PC (vC cr (a+5)) 38 [.f (ez d),.f (.a3 [.ad e.1])] (ez d):=by
 have:=vA (a:=a) d.1 f.ly f.bd e h ([] :List Unit) (fun g=>.bX) (fy _) (fun g i=>absurd i gD)
 rw [Ck,Hd.BJ f.bX] at this
 exact this
def O4(h:Hd){e:Cd}(l:gR e c)(m:Bd e){d:List pd}(n:d.length≤500)(j:∀g∈d,Dp g)(f:b4×Nat)(i:f∈j6):PC (vC cr (a+6)) 38 [.f (cf (h.wk (d.map ez)) e),.f (.a3 [.ad f.1])] (cf (h.wk (d.map ez)) e):=
 vA (a:=a+1) h l m f i d ez n fun g k=>HV g (j g k) f i
end
def FM(a:Op):b4:=MK a.cT b1 (O 4)
def AF(b:bS)(a:Op):jY b ar (.f (.ad a.cT)) (.f .bX) (.f (.Z 4))=O (.f (.ad (FM a)),b):=if_pos (of_decide_eq_true (jf (b:=fun a=>dY (a.cT.length≤100000)) (by kernel_rfl) a))
def kl(a:Op):(FM a==("jump":b4))=a.b8:=dr (jf (b:=fun a=>(FM a==("jump":b4))==a.b8) (by kernel_rfl) a)
def u7(b:List Nat)(a:Nat):ic (.Z a) (cU b)=O (b.contains a):=by
 unfold ic
 induction b with
 |nil=>rfl
 |cons c b d=>
  show zu (.Z a) (.Z c::cU b)=_
  unfold zu
  (refine bT (if_pos (show (gh (.Z c)&&gh (.Z a))=ar from rfl)) ?_;refine bT d ?_;refine bT (show nt 1 (.Z c) (.Z a)=O ((c:Int)==(a:Int)) from rfl) ?_;refine bT List.contains_cons ?_;rewrite [sZ,tn,F8];refine bT ML ?_;rfl)
def oO{c:bS}{a b:List Nat}(d:(a++b).length≤500):pn c ar .dc (.f (.a3 (cU a))) (.f (.a3 (cU b)))=O (.f (.a3 (cU (a++b))),c):=by
 have:=lh (a:=c) (c:=e8) d
 rw [r8] at this
 unfold cU;refine bT r8 ?_;exact this
def ii(c:Cd)(b:Nat)(a:R):List Nat:=((c.b6.filter (·.c4 b)).map (·.cP)++(if a.bV.b8 then [a.t] else []))++(if a.bV.dR then [] else [b+1])
def u8(a:Cd)(b:Nat)(d:R):(ii a b d).length≤2+a.b6.length:=by
 unfold ii
 have:=r7 (fun c:Ct=>c.c4 b) a.b6
 (refine bT dZ ?_;refine bT dZ ?_;rw [et])
 split<;>split<;>simp<;>lia
def E8{b:Cd}{e:Nat}{i:R}(d:b.a2[e]? =O i)(f:cx b.nc e):∀g∈ii b e i,cx b.nc g:=fun g a=>by
 unfold ii at a
 rcases my.mp a with a|a
 ·rcases my.mp a with a|a
  ·refine bU fun h=>?_
   obtain ⟨c,j,rfl⟩:=hJ.mp a
   obtain ⟨k,l⟩:=l3.mp j
   refine h ?_;try clear h
   exact .dJ f (dF.mpr d) k l
  ·split at a
   ·rename_i c;simp at a;subst a;exact .cI f (dF.mpr d) c
   ·cases a
 ·split at a
  ·cases a
  ·rename_i c;simp at a;subst a;exact .eK f (dF.mpr d) (by simpa using c)
def CT{e:Cd}{f:List Nat}(k:∀a∈e.cp,a∈f)(g:∀a∈f,∀h,e.a2[a]? =O h→∀j∈ii e a h,j∈f):∀a,cx e.nc a→a∈f:=fun a m=>by
 induction m with
 |dH l=>exact k _ l
 |lg _ b _=>exact absurd b (sY _)
 |eK _ b d c=>exact g _ c _ (dF.mp b) _ (by unfold ii;refine bT d ?_;simp)
 |cI _ b d c=>exact g _ c _ (dF.mp b) _ (by unfold ii;refine bT (if_pos d) ?_;simp)
 |dJ _ b i d c=>exact g _ c _ (dF.mp b) _ (by
  unfold ii
  exact ow _ (ow _ (hJ.mpr ⟨_,l3.mpr ⟨i,d⟩,rfl⟩)))
def sw(b:Nat)(c:List Nat):Nat:=ww b fun a=>c.contains a
def I3{a:Nat}{c d:List Nat}{b:Nat}(q:b<a)(j:b∉c)(k:b∈d)(h:∀f∈c,f∈d):sw a d+1≤sw a c:=by
 unfold sw ww
 show (f5 a).countP (fun b=>!d.contains b)+1≤(f5 a).countP fun b=>!c.contains b
 induction a with
 |zero=>lia
 |succ a i=>
  (refine bT vT ?_;refine bT Go ?_;refine bT Go ?_;refine bT Gk ?_;refine bT Gk ?_)
  have p:(f5 a).countP (fun b=>!d.contains b)≤(f5 a).countP fun b=>!c.contains b:=List.countP_mono_left fun f n g=>by
   simp only [B5,vO,decide_eq_false_iff_not] at g⊢
   exact fun e=>g (h f e)
  have o:(if (!d.contains a)=ar then 1 else 0)≤(if (!c.contains a)=ar then 1 else 0):=by
   by_cases e:a∈c
   ·have:=h a e;simp [e,this]
   ·by_cases m:a∈d<;>simp [e,m]
  by_cases l:b=a
  ·subst l
   have:(if (!d.contains b)=ar then 1 else 0)+1=(if (!c.contains b)=ar then 1 else 0):=by simp [j,k]
   lia
  ·have:=i (by lia)
   lia
def s3(b:Cd)(a:List Nat)(c:Nat):List Nat:=match b.a2[c]? with
 |some e=>a++(ii b c e).filter fun d=>!a.contains d
 |none=>a
def rA(a:Cd)(d:Nat)(b:List Nat):Prop:=(∀c∈b,cx a.nc c)∧(b.length+(3+a.b6.length)*sw a.a2.length b≤d)
section
variable{a:Cd}{d:Nat}{b:List Nat}(c:rA a d b)
include c
def rA.mH:∀e∈b,cx a.nc e:=c.1
def rA.s4:b.length+(3+a.b6.length)*sw a.a2.length b≤d:=c.2
end
def xR{a:Cd}(e:∀c,cx a.nc c→c<a.a2.length){s:Nat}{d:List Nat}{b:Nat}(t:rA a s d)(g:cx a.nc b):rA a s (s3 a d b)∧d <+: s3 a d b∧(s3 a d b=d∨sw a.a2.length (s3 a d b)+1≤sw a.a2.length d)∧∀o,a.a2[b]? =O o→∀c∈ii a b o,c∈s3 a d b:=by
 have p:a.a2[b]? =O (a.a2[b]'(e b g)):=gS _
 have w:s3 a d b=d++(ii a b (a.a2[b]'(e b g))).filter fun c=>!d.contains c:=by unfold s3;simp only [p]
 refine bT w ?_
 have n:=E8 p g
 have r:=r7 (fun c=>!d.contains c) (ii a b (a.a2[b]'(e b g)))
 have y:=u8 a b (a.a2[b]'(e b g))
 have v:∀c∈ii a b (a.a2[b]'(e b g)),c∈d++(ii a b (a.a2[b]'(e b g))).filter fun c=>!d.contains c:=fun c f=>by
  by_cases i:c∈d
  ·exact ow _ i
  ·exact nU _ (l3.mpr ⟨f,by (rewrite [vO];refine bT (decide_eq_false i) ?_);rfl⟩)
 refine ⟨?_,vP _ _,?_,fun o u c f=>by rw [p] at u;obtain rfl:=dg u;exact v c f⟩
 ·refine ⟨fun c f=>(my.mp f).elim (t.mH c) fun f=>n c (l3.mp f).1,?_⟩
  have q:=t.s4
  refine bT dZ ?_
  cases k:(ii a b (a.a2[b]'(e b g))).filter (fun c=>!d.contains c) with
  |nil=>rw [kX];exact q
  |cons h m=>
   obtain ⟨l,j⟩:=l3.mp (k▸fD:h∈(ii a b (a.a2[b]'(e b g))).filter fun c=>!d.contains c)
   have:=I3 (a:=a.a2.length) (c:=d) (d:=d++h::m) (e h (n h l)) (fun i=>by rw [vO,decide_eq_true i] at j;exact dy j) (nU _ fD) (fun c f=>ow _ f)
   have x:(3+a.b6.length)*sw a.a2.length (d++h::m)+(3+a.b6.length)≤(3+a.b6.length)*sw a.a2.length d:=by
    rw [← y7];exact v9 _ this
   rw [k] at r
   exact WP q (cu r (cu (u8 _ _ _) (m7 (by decide) _))) x
 ·cases k:(ii a b (a.a2[b]'(e b g))).filter (fun c=>!d.contains c) with
  |nil=>rw [kX];exact .inl rfl
  |cons h m=>
   obtain ⟨l,j⟩:=l3.mp (k▸fD:h∈(ii a b (a.a2[b]'(e b g))).filter fun c=>!d.contains c)
   exact .inr (I3 (e h (n h l)) (fun i=>by rw [vO,decide_eq_true i] at j;exact dy j) (nU _ fD) (fun c f=>ow _ f))
def O5{a:Cd}(t:∀d,cx a.nc d→d<a.a2.length){u:Nat}:∀{c b:List Nat},(∀g∈c,cx a.nc g)→rA a u b→b <+: c.foldl (s3 a) b∧(c.foldl (s3 a) b=b∨sw a.a2.length (c.foldl (s3 a) b)+1≤sw a.a2.length b)∧∀g∈c,∀h,a.a2[g]? =O h→∀d∈ii a g h,d∈c.foldl (s3 a) b:=by
 intro c
 induction c with
 |nil=>
  intro b _ p
  exact ⟨jU _,.inl rfl,fun z x=>absurd x gD⟩
 |cons g c r=>
  intro b n p
  refine bU fun o=>?_
  obtain ⟨s,w,f,v⟩:=xR t p (n g fD)
  obtain ⟨k,e,y⟩:=r (fun d j=>n d (ia _ j)) s
  refine o ?_;try clear o
  refine ⟨w.trans k,?_,fun d j h q l m=>(eP.mp j).elim (fun i=>k.subset (v h (i▸q) l (i▸m))) fun i=>y d i h q l m⟩
  refine bT Gr ?_
  rcases e with e|e
  ·refine bT e ?_;exact f
  ·rcases f with f|f
   ·rw [f] at e⊢;exact .inr e
   ·exact .inr (cu e (lC f))
section
variable{a:Nat}{b:Bool}
def sJ{e:bS}(d:List Nat)(c:Nat):fh cr e .fY (.f (.Z c)) (.f (.a3 (cU d)))=O (!d.contains c):=congrArg Ww (u7 d c)
def RW{e:bS}(d:List Nat)(c:Nat):fh cr e .ft (.f (.Z c)) (.f (.a3 (cU d)))=O (d.contains c):=u7 d c
def BL{d:Type}{e:d→bl}{f:bS}{c:List d}(g:c.length≤500):eW f ar 1 [.f (.a3 (c.map e))] =O (.f (.a3 (c.map e)),f):=lh g
def Ki{z:cK}{u:bS}(p:Hd){d:Cd}(r:Bd d){e:List Nat}{c:Nat}{h:R}(C:d.a2[c]? =O h)(ae:e.length≤300){x t q T:Option bZ}{w:cV→bS→Prop}{K:KS}(y:∀G Q L:Option bZ,w [O (.f (cf p d)),O (.f (.a3 (cU (s3 d e c)))),x,G,Q,L,b1,b1] u):
  jP [O (.f (cf p d)),O (.f (.a3 (cU e))),x,t,q,T,b1,b1] [3] b2 (.Z c) fun X=>fG ⟨cr,z⟩ rj X u (jQ w K):=by
 have F:=u8 d c h
 have ab:=r.b6
 apply aj;exact hC C r.iB.1
 apply aj;exact eh r.iB.2.1
 refine k6 k0 (·.c4 c) (fun f=>e8 f.cP) (fun f P K Y n m=>?_) ?_
 ·have W:f.c4 c=(dY ((f.d1:Int)≤c)&&dY ((c:Int)<f.iz)):=by
   unfold Ct.c4
   rw [decide_eq_decide.mpr (pN (m:=f.d1) (n:=c)),decide_eq_decide.mpr (kY (n:=c) (m:=f.iz))]
  rw [W] at n m
  refine cD (fun j=>?_) fun j=>?_<;>rw [j] at n m
  ·exact cD (fun j=>n j) fun j=>m j
  ·exact m rfl
 have s:((d.b6.filter (·.c4 c)).map (·.cP)).length≤d.b6.length:=by
  rw [et];exact r7 _ _
 rw [Gp,show ((d.b6.filter (·.c4 c)).map fun f=>e8 f.cP)=cU ((d.b6.filter (·.c4 c)).map (·.cP)) by unfold cU;refine bT lO ?_;rfl]
 apply aj;exact lh (cu s r.iB.2.1)
 have I:s3 d e c=e++(ii d c h).filter fun i=>!e.contains i:=by unfold s3;simp only [C]
 have g:∀(t q:Option bZ),fG ⟨cr,z⟩ (.J (.ch 1 (.eD ar .dc (.bW 1) ri)) .N) [O (.f (cf p d)),O (.f (.a3 (cU e))),x,t,q,O (.f (.a3 (cU (ii d c h)))),b1,b1] u (jQ w K):=fun t q=>by
  apply aj;exact eh (cu F (by lia))
  refine k6 e8 (fun i=>!e.contains i) e8 (fun i P K ac n m=>?_) ?_
  ·apply aj;exact sJ e i
   exact cD n m
  have aa:=r7 (fun i=>!e.contains i) (ii d c h)
  rw [Gp]
  apply aj;exact lh (by lia)
  apply aj;exact oO (by refine bT dZ ?_;lia)
  rw [I] at y
  exact y _ _ _
 unfold ii at g
 generalize (d.b6.filter (·.c4 c)).map (·.cP)=l at s g⊢
 apply aj;exact AF _ _
 have k:∀{A:Nat},A≤d.b6.length+2→A≤500:=fun p=>cu p (by lia)
 refine cD (fun v=>?_) fun v=>?_<;>rw [kl] at v<;>rw [v] at g
 ·apply aj (c:=(.f (.a3 (cU (l++[h.t]))),u));refine bT (fi v) ?_;exact oO (b:=[h.t]) (k (by refine bT dZ ?_;show _+1≤_;lia))
  apply aj;exact xP _
  refine cD (fun o=>?_) fun o=>?_<;>rw [o] at g
  ·apply aj;exact oO (a:=l++[h.t]) (b:=[]) (k (by (rewrite [kX];refine bT dZ ?_);show _+1≤_;lia))
   exact g _ _
  ·apply aj;exact oO (a:=l++[h.t]) (b:=[c+1]) (k (by (refine bT dZ ?_;refine bT dZ ?_);show _+1+1≤_;lia))
   exact g _ _
 ·apply aj;exact oO (a:=l) (b:=[]) (k (by rw [kX];exact cu s (fg _ _)))
  apply aj;exact xP _
  refine cD (fun o=>?_) fun o=>?_<;>rw [o] at g
  ·apply aj;exact oO (a:=l++[]) (b:=[]) (k (by rw [kX,kX];exact cu s (fg _ _)))
   exact g _ _
  ·apply aj;exact oO (a:=l++[]) (b:=[c+1]) (k (by (rewrite [kX];refine bT dZ ?_);show _+1≤_;lia))
   exact g _ _
def WL(e:Hd)(c:Cd)(f:List Nat)(d:Int)(i g h:Option bZ):cV:=[O (.f (cf e c)),O (.f (.a3 (cU f))),O (.f (.Z d)),i,g,h,b1,b1]
def yk{u:cK}{x:bS}(g:Hd){d:Cd}(C:Bd d)(s:∀w,cx d.nc w→w<d.a2.length){k:Nat}(r:k≤300){c:List Nat}(p:rA d k c){o:Int}{f i h:Option bZ}{m:cV→bS→Prop}{K:KS}(y:o<c.length)(n:rA d k (c.foldl (s3 d) c)→∀f i h,m (WL g d (c.foldl (s3 d) c) c.length f i h) x):
  zx (vE ⟨cr,u⟩ ni) (WL g d c o f i h) x (kWh (fG ⟨cr,u⟩ nl) m K (WL g d c o f i h)):=by
 have I:c.length≤300:=cu (fg _ _) (cu p.s4 r)
 have l:c.length≤500:=cu I (by decide)
 apply aj;exact eZ (d:=e8) l
 refine gL (decide_eq_true y) ?_
 apply aj;exact eZ (d:=e8) l
 apply aj;exact BL (e:=e8) l
 apply aj;exact eh (c:=e8) l
 refine Xw (o:=e8) (d:=c) (s3 d) (rA d k) (fun q (e:Option bZ×Option bZ×Option bZ)=>WL g d q c.length e.1 e.2.1 e.2.2) (b:=(f,i,h)) (fun q t e m F j n=>?_) p fun j e=>n j _ _ _
 have v:=p.mH t F
 exact Ki g C (gS (s t v)) (cu (fg _ _) (cu j.s4 r)) fun z G A=>n (xR s j v).1 (z,G,A)
def Kj(w:Hd){d:Cd}(L:Bd d)(v:∀n,cx d.nc n→n<d.a2.length){k:Nat}(C:k≤300):∀(s:Nat){c:List Nat},rA d k c→sw d.a2.length c<s→∃j,rA d k j∧c <+: j∧(∀l∈j,∀Q,d.a2[l]? =O Q→∀n∈ii d l Q,n∈j)∧
  ∀(p:cK)(r:bS)(K:KS)(g:Nat)(m:Int)(h i f:Option bZ),m<c.length→s<g→(∀m h i f,K .cc (WL w d j m h i f) r)→qb (zx (vE ⟨cr,p⟩ ni)) (fG ⟨cr,p⟩ nl) K g (WL w d c m h i f) r:=by
 intro s
 induction s with
 |zero=>
  intro c _ F
  exact absurd F (tP _)
 |succ s x=>
  intro c e F
  refine bU fun q=>?_
  obtain ⟨z,Y,G⟩:=O5 v e.mH e
  refine q ?_;try clear q
  by_cases u:c.foldl (s3 d) c=c
  ·rw [u] at G
   refine ⟨c,e,jU _,G,fun p r K g m h i f A t y=>?_⟩
   match g,t with
   |g+2,_=>
   refine yk w L v C e A fun I h i f=>?_
   refine bT u ?_
   have ab:c.length≤500:=cu (fg _ _) (cu e.s4 (cu C (by decide)))
   unfold qb
   apply aj;exact eZ (d:=e8) ab
   exact ee (decide_eq_false (UM _)) (y _ _ _ _)
  ·have af:=Y.resolve_left u
   have I:rA d k (c.foldl (s3 d) c):=by
    have:∀{o c:List Nat},(∀l∈o,cx d.nc l)→rA d k c→rA d k (o.foldl (s3 d) c):=fun {o}=>by
     induction o with
     |nil=>exact fun T e=>e
     |cons l o x=>exact fun P e=>x (fun n aa=>P n (ia _ aa)) (xR v e (P l fD)).1
    exact this e.mH e
   have X:c.length<(c.foldl (s3 d) c).length:=y5 z.length_le fun f=>u (z.eq_of_length f).symm
   refine bU fun q=>?_
   obtain ⟨j,ac,R,W,ae⟩:=x I (hH af (qk F))
   refine q ?_;try clear q
   refine ⟨j,ac,z.trans R,W,fun p r K g m h i f A t y=>?_⟩
   match g,t with
   |g+1,t=>
   exact yk w L v C e A fun T h i f=>ae p r K g _ h i f (kY.mpr X) (LO t) y
def NJ(n:Hd)(c:Cd)(x:gk c b)(f:Bd c):∃e:List Nat,(∀d,d∈e↔cx c.nc d)∧e.length≤500∧∀a,PC (vC cr (a+1)) 55 [.f (cf n c)] (.a3 (cU e)):=by
 refine bU fun k=>?_
 obtain ⟨z,q⟩:=x.gK
 have s:∀g,cx c.nc g→g<c.a2.length:=fun g h=>by
  have:=q.kJ g h
  unfold Cd.nc at this;rw [et] at this;exact this
 have j:c.cp.length+(3+c.b6.length)*c.a2.length≤300:=by
  have:(3+c.b6.length)*c.a2.length≤11*20:=Gf (jq f.b6 3) f.a2
  have:=f.cp
  lia
 have m:sw c.a2.length c.cp≤c.a2.length:=BI _ _
 obtain ⟨e,l,o,p,t⟩:=Kj n f s j 21 (c:=c.cp) ⟨fun d i=>.dH i,jq (v9 _ m) _⟩ (vM (cu m f.a2))
 refine k ?_;try clear k
 have y:e.length≤300:=cu (fg _ _) (cu l.s4 j)
 refine ⟨e,fun d=>⟨l.mH d,fun h=>CT (fun d i=>o.subset i) p d h⟩,cu y (by decide),fun a=>pf rfl rfl rfl rfl fun v A w u r=>?_⟩
 apply aj;exact BL (e:=e8) f.iB.2.2
 refine t v w _ 1000 (-1) b1 b1 b1 (GS (by decide) (sb _)) (by decide) fun F C G h=>?_
 exact c8 (b:=u) r eO
end
def Eb{a:Cd}{c:Nat}{b:R}(d:a.a2[c]? =O b):hP a.a2 c=(b.bV== .cI):=by unfold hP;(refine bT d ?_;rfl)
def QV(b:Cd)(a:Nat):bl:=if hP b.a2 a then .bX else .Z a
def FN{b:bS}{a:Nat}{c:List Nat}(e:b[a]? =O (O (.a3 (cU c))))(d:Nat):fh cr b .ft (.f (.Z d)) (.cq a)=O (c.contains d):=by
 show ((ud b (.cq a)).bind si).bind _=_
 refine bT (xb e) ?_
 exact u7 c d
def Kk{c:bS}{b:Nat}{d:List Nat}(e:c[b]? =O (O (.a3 (cU d))))(a:Nat):fh cr c .fY (.f (.Z a)) (.cq b)=O (!d.contains a):=congrArg Ww (FN e a)
def XE{a:bS}{b:List Nat}{c:Nat}{d:bS}(e:b.length≤1100):jk cr (a++O (.a3 (cU b))::d) .eJ (.cq a.length) [.f (.Z c)] =O (.f .bX,a++O (.a3 (cU (b++[c])))::d):=by
 (refine bT (on (tE e)) ?_;rw [py])
section
variable{b:Nat}{a:Bool}
def aam(I:Hd){c:Cd}(ac:gR c a)(t:Bd c){d:Nat}(u:d<c.a2.length)(Q:mr c.a2 d=d):PC (vC cr (b+1)) 56 [.f (cf I c),.f (.Z d)] (QV c d):=pf rfl rfl rfl rfl fun ak p G z k=>by
 have P:=ac.hM.gH
 have r:=t.iB.1
 apply aj;exact g4 (fy _)
 unfold QV at k
 have K:c.a2[d]? =O c.a2[d] :=gS u
 rcases Ax P u with ⟨m,am,g,w,af⟩|⟨g,w⟩
 ·have ag:m=0:=by
   induction m with
   |zero=>rfl
   |succ m=>
    exfalso
    have ae:=af.symm.trans Q
    have:lX c.a2 (0+(m+1)) d=lX c.a2 0 d:=by rewrite [wm,ae];rfl
    rw [kU] at this
    have o:=w 0 (Nat.zero_lt_succ _)
    rw [← this,g] at o;exact dy o
  subst ag
  rw [lX] at g
  rw [g] at k
  have v:(c.a2[d].bV.cT==("jump":b4))=b2:=by (rewrite [ny];refine gT (Eb K) ?_);exact g
  apply aj;exact hC K r
  refine ee v ?_
  refine ee v ?_
  apply aj;exact FN (c:=[]) (eo _ _ _) d
  exact c8 (b:=z) k (jB _ _)
 ·have Y:hP c.a2 d=ar:=g 0
  rw [Y] at k
  have j:∀e,lX c.a2 e d<c.a2.length:=fun e=>OI (g e)
  refine wv (fun q F x=>∃(e:Nat)(f:List Nat),F=[O (.f (cf I c)),O (.f (.Z (lX c.a2 e d))),O (.cq G.length)] ∧x=G++[O (.a3 (cU f))] ∧f.Nodup∧(∀l∈f,l<c.a2.length)∧c.a2.length+1≤q+f.length) (fun q F x ai ab W=>?_) (b:=c.a2.length+1) ⟨0,[],rfl,rfl,Mh,(fun l i=>absurd i gD),dX _⟩ (by lia)
  refine bU fun A=>?_
  obtain ⟨e,f,rfl,rfl,C,y,X⟩:=ab
  refine A ?_;try clear A
  have ah:=DR _ f C y
  have n:c.a2[lX c.a2 e d]? =O (c.a2[lX c.a2 e d]'(j e)):=gS (j e)
  have s:((c.a2[lX c.a2 e d]'(j e)).bV== .cI)=ar:=by refine gT (Eb n) ?_;exact g e
  apply aj;exact hC n r
  refine gL ((ny _).trans s) ?_
  apply aj;exact Kk (eo _ _ _) _
  refine cD (fun h=>?_) fun h=>?_
  ·apply aj;exact dK (eo _ _ _)
   apply aj;exact XE (by lia)
   apply aj;exact hC n r
   have T:fa (c.a2[lX c.a2 e d]'(j e))=.Z (lX c.a2 (e+1) d):=by
    rw [fi (by refine bT (dr s) ?_;rfl),mW,DS,n]
   have h:=nN h
   have R:lX c.a2 e d∉f:=fun o=>by rw [vO,decide_eq_true o] at h;exact dy h
   refine W (q-1) _ _ (by lia) ⟨e+1,f++[lX c.a2 e d],by (refine gT T ?_;rfl),rfl,zb.mpr ⟨C,vU.mpr ⟨gD,Mh⟩,fun al aa t L p=>R (by rw [ib.mp L] at p;exact p▸aa)⟩,fun l i=>(my.mp i).elim (y l) fun i=>ib.mp i▸j e,by (refine bT dZ ?_;refine bT uM ?_);exact ZF X ah⟩
  ·apply aj;exact FN (eo _ _ _) _
   refine gL (pW h) ?_
   exact c8 (b:=z) k (jB _ _)
def E9(m:Hd){d:Cd}(i:gR d a)(o:Bd d){f:Nat}{c:R}(n:d.a2[f]? =O c)(j:c.bV.b8=ar):PC (vC cr (b+2)) 57 [.f (cf m d),.f (.Z f),.f (eR c)] (.b3 b2):=pf rfl rfl rfl rfl fun z y r h g=>by
 have q:=gj n
 have p:=i.hM.gH c q j
 obtain ⟨w,x⟩:=i.mr q j
 have u:=i.M0.2 f c n j
 have k:=fi j
 have v:PC z 56 [.f (cf m d),.f (fa c)] (QV d c.t):=by (refine bT k ?_;refine bT y ?_);exact aam m i o p w
 refine pc rfl v ?_
 have t:fh cr r .cZ (.f (fa c)) (.f (.Z ((f:Int)+1)))=O b2:=by
  refine bT k ?_;exact congrArg O ((sZ c.t (f+1)).trans (beq_false_of_ne u))
 apply aj;exact t
 have s:d.a2[c.t]? =O d.a2[c.t] :=gS p
 unfold QV
 cases C:hP d.a2 c.t with
 |true=>
  refine cD (fun e=>?_) fun e=>?_
  ·exact c8 (b:=h) g eO
  ·refine bT e ?_
   exact c8 (b:=h) g eO
 |false=>
  have A:fh cr r .ne (.f (.Z c.t)) (.f (fa c))=O b2:=by
   refine bT k ?_;exact congrArg O (by refine bT (show ((c.t:Int)==(c.t:Int))=ar from beq_self_eq_true _) ?_;rfl)
  apply aj;exact A
  refine cD (fun e=>?_) fun e=>?_
  ·have l:=x (dr (ny _▸e))
   unfold gP at l
   simp only [s] at l
   apply aj;exact hC s o.iB.1
   have:(d.a2[c.t].bV.cT==("leave":b4))=b2:=(D3 _).trans l
   exact c8 (b:=h) (by refine bT this ?_;exact g) eO
  ·exact c8 (b:=h) (by refine bT e ?_;exact g) eO
end
def VB(c:gp)(d:cv)(b:cV)(a:bS)(e:Bool):Prop:=∀K:KE,K (.f (.b3 e)) a→vE c d b a K
def AG{c:gp}{h f:cv}{b:cV}{d:bS}{a e:Bool}(i:VB c h b d a)(j:a=ar→VB c f b d e):VB c (.ev (.J h (.J f .N))) b d (a&&e):=fun K g=>i _ (by
 induction a with
 |false=>exact g
 |true=>exact j rfl K g)
def QW{c:gp}{i g f:cv}{b:cV}{d:bS}{a e j:Bool}(k:VB c i b d a)(l:a=ar→VB c g b d e)(m:a=ar→e=ar→VB c f b d j):VB c (.ev (.J i (.J g (.J f .N)))) b d (a&&(e&&j)):=fun K h=>k _ (by
 induction a with
 |false=>exact h
 |true=>exact AG (l rfl) (m rfl) K h)
def VO{c:gp}{h f:cv}{b:cV}{d:bS}{a e:Bool}(i:VB c h b d a)(j:a=b2→VB c f b d e):VB c (.hK (.J h (.J f .N))) b d (a||e):=fun K g=>i _ (by
 induction a with
 |true=>exact g
 |false=>exact j rfl K g)
def wd(a:Option R):b4:=match a with|some b=>b.bV.cT|none=>""
noncomputable def xd(b:Option R)(a:Op→Bool):Bool:=match b with|some c=>a c.bV|none=>b2
def CU(b:Option R)(a:Op):(wd b==a.cT)=xd b (· ==a):=by
 induction b with
 |none=>exact dr (jf (b:=fun a=>(("":b4)==a.cT)==b2) (by kernel_rfl) a)
 |some c=>exact gr _ _
def VQ{e:bS}{b:List bl}{d:Op→Bool}(f:(fu.all fun c=>eA (ic (.ad c.cT) b) (d c))=ar)(g:eA (ic (.ad "") b) b2=ar)(a:Option R):fh cr e .ft (.f (.ad (wd a))) (.f (.cQ b))=O (xd a d):=by
 induction a with
 |none=>exact pw g
 |some h=>exact ol f h.bV
def Kl:(fu.all fun a=>eA (ic (.ad a.cT) [.ad "swap",.ad "dup"]) (a== .dt||a== .kq))=ar:=by kernel_rfl
def O6:eA (ic (.ad "") IS) b2=ar:=by kernel_rfl
def HW:eA (ic (.ad "") rt) b2=ar:=by kernel_rfl
section
variable{b:Nat}{a:Bool}
def Fa(X:Hd){h:Cd}(l:gR h a)(z:Bd h){j:Nat}{e:R}(k:h.a2[j]? =O e)(f m:Option R)(g:∀d,f=O d→h.a2[j+1]? =O d∧h.c2 (j+1)=b2)(P:∀d,m=O d→(∃o,f=O o)∧h.a2[j+2]? =O d∧h.c2 (j+2)=b2):
  PC (vC cr (b+1)) 58 [.f (cf X h),.f (.Z j),.f (.a3 [.ad e.bV.cT,.ad (wd f),.ad (wd m)])] (.b3 b2):=pf rfl rfl rfl rfl fun aa Y ab T F=>by
 have q:=z.iB.1
 have W:(e.bV.i6&&xd f (· == .gA))=b2:=by
  induction f with
  |none=>exact qz _
  |some d=>exact (l.J7 k (g d rfl).1 (g d rfl).2).1
 have y:((e.bV== .dt||e.bV== .kq)&&xd f (· == .dt))=b2:=by
  induction f with
  |none=>exact qz _
  |some d=>exact (l.J7 k (g d rfl).1 (g d rfl).2).2.1
 have w:(e.bV== .kq&&(xd f Op.fQ&&xd m (· == .gA)))=b2:=by
  induction m with
  |none=>(refine bT (show xd b1 (· ==Op.gA)=b2 from rfl) ?_;rw [qz,qz])
  |some o=>
   refine bU fun r=>?_
   obtain ⟨⟨d,rfl⟩,x,G⟩:=P o rfl
   refine r ?_;try clear r
   rw [← Tt];exact l.Xt k (g d rfl).1 x (g d rfl).2 G
 have Q:(e.bV== .d0&&xd f Op.cg)=b2:=by
  induction f with
  |none=>exact qz _
  |some d=>exact (l.J7 k (g d rfl).1 (g d rfl).2).2.2.1
 refine VO (AG (a:=e.bV.i6) (e:=xd f (· == .gA)) (fun K c=>?_) fun i K c=>?_) (fun i=>AG (a:=e.bV== .dt||e.bV== .kq) (e:=xd f (· == .dt)) (fun K c=>?_) fun i K c=>?_) _ ?_
 ·apply aj;exact ol BE e.bV
  exact c
 ·rw [← CU] at c;exact c
 ·apply aj;exact qf Kl e.bV
  exact c
 ·rw [← CU] at c;exact c
 refine ee (by (refine bT W ?_;refine bT y ?_);rfl) ?_
 refine VO (QW (a:=e.bV== .kq) (e:=xd f Op.fQ) (j:=xd m (· == .gA)) (fun K c=>?_) (fun i K c=>?_) fun i i K c=>?_) (fun i=>AG (a:=e.bV== .d0) (e:=xd f Op.cg) (fun K c=>?_) fun i K c=>?_) _ ?_
 ·rw [← gr] at c;exact c
 ·apply aj;exact VQ xO O6 f
  exact c
 ·rw [← CU] at c;exact c
 ·rw [← gr] at c;exact c
 ·apply aj;exact VQ px HW f
  exact c
 refine ee (by (refine bT w ?_;refine bT Q ?_);rfl) ?_
 refine QW (a:=e.bV.cg) (e:=xd f (· == .cI)) (j:=e.t==j+2) (fun K c=>?_) (fun i K c=>?_) (fun v i K c=>?_) _ ?_
 ·apply aj;exact gU e.bV
  exact c
 ·rw [← CU] at c;exact c
 ·apply aj;exact hC k q
  apply aj (b:=fh cr _ .cZ (.f (fa e)) _) (c:=e.t==j+2);refine bT (fi (rm v)) ?_;exact congrArg O (sZ e.t (j+2))
  exact c
 have C:(e.bV.cg&&(xd f (· == .cI)&&e.t==j+2))=b2:=by
  induction f with
  |none=>(refine bT (show xd b1 (· ==Op.cI)=b2 from rfl) ?_;rw [Tr,qz])
  |some d=>rw [← Tt];exact (l.J7 k (g d rfl).1 (g d rfl).2).2.2.2.1
 refine ee C ?_
 refine QW (a:=e.bV== .d0) (e:=xd f (· == .cI)) (j:=b2) (fun K c=>?_) (fun i K c=>?_) (fun A n K c=>?_) _ ?_
 ·rw [← gr] at c;exact c
 ·rw [← CU] at c;exact c
 ·induction f with
  |none=>exact dy n
  |some d=>
   have n:(d.bV== .cI)=ar:=n
   obtain ⟨p,L⟩:=g d rfl
   have u:d.bV.b8=ar:=by refine bT (dr n) ?_;rfl
   have I:=l.hM.gH d (gj p) u
   have t:h.a2[d.t]? =O h.a2[d.t] :=gS I
   have s:=(l.J7 k p L).2.2.2.2
   rw [A,n,t] at s
   apply aj;exact hC p q
   apply aj (b:=jX cr _ _ (.f (fa d)));refine bT (fi u) ?_;exact hC t q
   apply aj;exact gU _
   refine bT (show h.a2[d.t].bV.cg=b2 from s) ?_;exact c
 rw [qz,qz]
 exact c8 (b:=T) F eO
end
def ur(a:Cd):List Nat:=((a.a2.filter fun b=>b.bV.b8).map (·.t)++a.b6.map (·.cP))++a.cp
def Fb(a:Cd)(b:Nat):(ur a).contains b=a.c2 b:=by
 unfold ur Cd.c2
 rw [vJ]
 simp only [vO,decide_eq_true_eq,my,hJ,l3,LM,tS,B6,beq_iff_eq,and_assoc]
def wl(e:R)(a c:Option R):List bl:=.ad e.bV.cT::(match a with|none=>[] |some d=>.ad d.bV.cT::(match c with|none=>[] |some b=>[.ad b.bV.cT]))
noncomputable def wn(a b:Option R):Nat:=match a with|none=>1 |some _=>(match b with|none=>2 |some _=>3)
def FO(c:R)(a b:Option R):(wl c a b).length=wn a b:=by induction a<;>induction b<;>rfl
def M3(a b:Option R):1≤wn a b∧wn a b≤3:=by induction a<;>induction b<;>exact ⟨er rfl,er rfl⟩
def XF(c:R)(a b:Option R)(d:b.isSome→a.isSome):x6 (wl c a b++[.ad "",.ad ""]) b1 (O 3)=[.ad c.bV.cT,.ad (wd a),.ad (wd b)] :=by
 induction a<;>induction b<;>first|rfl|exact absurd (d rfl) (by decide)
structure VR(c:Cd)(p:Nat)(o1 o2:Option R):Prop where
 o9:∀r',o1=O r'→c.a2[p+1]? =O r'∧c.c2 (p+1)=b2
 XG:∀r',o2=O r'→(∃r'',o1=O r'')∧c.a2[p+2]? =O r'∧c.c2 (p+2)=b2
section
variable{b:Nat}{a:Bool}
def WdL(f:Hd)(c:Cd)(d:Option bZ)(e:Nat)(h:R)(g:Nat):cV:=[O (.f (cf f c)),O (.f (.a3 (cU (ur c)))),d,O (.f (.Z e)),O (.f (eR h)),O (.cq g),b1,b1]
def RX{y:cK}{h:bS}{f:Cd}(G:f.a2.length≤500){i:Hd}{g:Nat}{e:R}{u:Option bZ}{K:KS}(W:f.a2[g]? =O e)(P:∀d c,VR f g d c→K .cc (WdL i f u g e h.length) (h++[O (.a3 (wl e d c))])):
  qb (zx (vE ⟨cr,y⟩ n6)) (fG ⟨cr,y⟩ n7) K 1000 (WdL i f u g e h.length) (h++[O (.a3 (wl e b1 b1))]):=by
 refine wv (fun m I F=>∃d c,I=WdL i f u g e h.length∧F=h++[O (.a3 (wl e d c))] ∧3≤m+wn d c∧VR f g d c) (fun m I F Y Q A=>?_) (b:=2) ⟨b1,b1,rfl,rfl,dX 3,(fun l i=>cG i),(fun l i=>cG i)⟩ (by decide)
 refine bU fun n=>?_
 obtain ⟨d,c,rfl,rfl,x,L⟩:=Q
 refine n ?_;try clear n
 have C:(wl e d c).length≤100000:=by rw [FO];exact cu (M3 d c).2 (by decide)
 have p:eW (h++[O (.a3 (wl e d c))]) ar 0 [.cq h.length] =O (.f (.Z (wn d c)),h++[O (.a3 (wl e d c))]):=by (refine bT (uo (eo _ _ _) C) ?_;rw [FO])
 refine QW (c:=⟨cr,y⟩) (a:=dY ((wn d c:Int)<3)) (e:=dY (((g+wn d c:Nat):Int)<f.a2.length)) (j:=!f.c2 (g+wn d c)) (fun K k=>?_) (fun l K k=>?_) (fun l l K k=>?_) _ ?_
 ·apply aj;exact p
  exact k
 ·apply aj;exact p
  apply aj;exact eZ G
  exact k
 ·apply aj;exact p
  apply aj;exact sJ (ur f) (g+wn d c)
  rw [Fb];exact k
 refine cD (fun r=>?_) fun r=>P d c L
 rw [B6,B6] at r
 refine bU fun n=>?_
 obtain ⟨w,v,o⟩:=r
 refine n ?_;try clear n
 have w:=of_decide_eq_true w
 have v:g+wn d c<f.a2.length:=kY.mp (of_decide_eq_true v)
 have o:=nN o
 have q:f.a2[g+wn d c]? =O f.a2[g+wn d c] :=gS v
 apply aj;exact dK (eo _ _ _)
 apply aj;exact p
 apply aj;exact hC q G
 apply aj;exact on C
 generalize f.a2[g+wn d c] =j at q⊢
 have aa:=(M3 d c).2
 rcases d with _|z
 ·have t:wl e b1 c++[.ad j.bV.cT] =wl e (O j) b1:=rfl
  refine bT t ?_
  exact A (m-1) _ _ (abB x) ⟨O j,b1,rfl,rfl,abC x,fun T s=>by obtain rfl:=dg s;exact ⟨q,o⟩,fun l i=>cG i⟩
 rcases c with _|X
 ·have t:wl e (O z) b1++[.ad j.bV.cT] =wl e (O z) (O j):=rfl
  refine bT t ?_
  exact A (m-1) _ _ (abD x) ⟨O z,O j,rfl,rfl,abE m,L.o9,fun T s=>by obtain rfl:=dg s;exact ⟨⟨_,rfl⟩,q,o⟩⟩
 ·exact absurd w (UM 3)
def XH{d:bS}{c:List bl}(e:c.length≤100000):jY d ar (.f (.a3 c)) (.f .bX) (.f (.Z 3))=iI d ar (x6 c b1 (O 3)):=if_pos e
def AH(j:Hd){d:Cd}(s:gR d a)(h:Bd d):PC (vC cr (b+3)) 59 [.f (cf j d)] (.b3 ar):=by
 refine bU fun i=>?_
 obtain ⟨u,G,al,L⟩:=NJ j d s.hM.cF h
 refine i ?_;try clear i
 refine pf rfl rfl rfl rfl fun an k n ac X=>?_
 have w:=h.iB.1
 have aq:=h.a2
 have ak:=h.b6
 have ah:=h.cp
 have ao:=r7 (fun c:R=>c.bV.b8) d.a2
 apply aj;exact eh w
 refine k6 eR (fun c=>c.bV.b8) (fun c=>fa c) (fun c T K C P aa=>?_) ?_
 ·apply aj;exact AF _ _
  refine cD (fun l=>P ((kl _).symm.trans l)) fun l=>aa ((kl _).symm.trans l)
 rw [Gp,show ((d.a2.filter fun c=>c.bV.b8).map fun c=>fa c)=cU ((d.a2.filter fun c=>c.bV.b8).map (·.t)) by
  unfold cU;refine bT lO ?_;exact y9 fun c C=>fi (l3.mp C).2]
 apply aj;exact lh (by rw [et];lia)
 apply aj;exact eh h.iB.2.1
 refine iD k0 (fun r=>e8 r.cP) (fun r T K ag I=>I) ?_
 rw [show (d.b6.map fun r=>e8 r.cP)=cU (d.b6.map (·.cP)) by unfold cU;refine bT lO ?_;rfl]
 apply aj;exact lh (by rw [et];exact h.iB.2.1)
 apply aj;exact oO (by (refine bT dZ ?_;rw [et,et]);lia)
 apply aj;exact oO (by (refine bT dZ ?_;refine bT dZ ?_;rw [et,et]);lia)
 refine pc k (L _) ?_
 apply aj;exact m3 w
 refine wo (fun y v=>∃m p o g,y=[O (.f (cf j d)),O (.f (.a3 (cU (ur d)))),O (.f (.a3 (cU u))),m,p,o,b1,b1] ∧v=n++g) (fun ai y v W ae x Y=>?_) ⟨_,_,_,[],rfl,(kX _).symm⟩ fun y v x=>?_
 ·refine bU fun i=>?_
  obtain ⟨m,p,o,g,rfl,rfl⟩:=x
  obtain ⟨q,c,t,rfl⟩:=DU ae
  refine i ?_;try clear i
  apply aj;exact g4 (er rfl)
  refine RX w t fun f e z=>?_
  have af:u.contains q=ar:=by
   rw [vO]
   exact decide_eq_true ((G q).mpr (s.J5.2 q (fJ.mp t).1))
  apply aj;exact sJ u q
  refine ee (by refine bT af ?_;rfl) ?_
  have F:(wl c f e++[bl.ad "",bl.ad ""]).length≤100000:=by
   (refine bT dZ ?_;rw [FO])
   exact cu (m7 (M3 f e).2 _) (er rfl)
  have ab:pn (n++g++[O (.a3 (wl c f e))]) ar .dc (.cq (n++g).length) (.f (.a3 [.ad "",.ad ""]))=O (.f (.a3 (wl c f e++[.ad "",.ad ""])),n++g++[O (.a3 (wl c f e))]):=by
   have k:kI (n++g++[O (.a3 (wl c f e))]) (.cq (n++g).length)=O (wl c f e):=FC (eo _ _ _)
   show (kI _ _).bind _=_
   refine bT k ?_;exact lw F
  apply aj;exact ab
  apply aj;exact (XH F).trans (by
   rw [XF c f e (by
    induction e with
    |none=>exact fun j=>dy j
    |some Q=>obtain ⟨⟨am,k⟩,_⟩:=z.XG Q rfl;intro _;refine bT k ?_;rfl)]
   exact lw (er rfl))
  refine pc k (Fa j s h t f e z.o9 z.XG) ?_
  apply aj;exact AF _ _
  have A:∀(m p o:Option bZ),W [O (.f (cf j d)),O (.f (.a3 (cU (ur d)))),O (.f (.a3 (cU u))),m,p,o,b1,b1] (n++g++[O (.a3 (wl c f e))]):=fun m p o=>Y _ _ ⟨m,p,o,g++[O (.a3 (wl c f e))],rfl,m8 ..⟩
  refine cD (fun l=>?_) fun l=>?_
  ·refine pc k (E9 j s h t ((kl _).symm.trans l)) ?_
   exact A _ _ _
  ·exact ee l (A _ _ _)
 ·refine bU fun i=>?_
  obtain ⟨m,p,o,g,rfl,rfl⟩:=x
  refine i ?_;try clear i
  exact c8 (b:=ac) X (jB _ _)
end
def tF(a:Hd):Prop:=(gh a.dm=ar)∧(gh a.cJ=ar)∧(gh a.b9=ar)∧(∃b,a.gc=.a3 b∧b.length≤100∧∀c∈b,gh c=ar)
section
variable{a:Hd}(b:tF a)
include b
def tF.dm:gh a.dm=ar:=b.1
def tF.cJ:gh a.cJ=ar:=b.2.1
def tF.b9:gh a.b9=ar:=b.2.2.1
def tF.gc:∃c,a.gc=.a3 c∧c.length≤100∧∀d∈c,gh d=ar:=b.2.2.2
end
def M4(a:R):bl:=.cQ [.ad a.bV.cT,.ad ((gY (fa a)).getD ""),a.b,a.c,.Z a.e6]
noncomputable def M5(a:Ct):bl:=.cQ [a.mF,.Z a.d1,.Z a.iz,.Z a.cP,.Z a.dG]
def nO(a:Hd)(b:Cd)(c:List bl):bl:=.a3 [a.dm,a.cJ,a.b9,a.gc,.a3 (b.a2.map M4),.a3 (b.b6.map M5),.a3 (cU b.cp),.a3 c]
def k1(b:Nat)(a:bl):Prop:=nt b a a=O ar
def fC{c:Nat}{a:bl}(b:gh a=ar):k1 (c+1) a:=by
 cases a<;>first|rfl|exact congrArg O (beq_self_eq_true _)|exact dy b
def AI{c:Nat}:∀{a:List bl},(∀b∈a,k1 c b)→sg (nt c) a a=O ar:=by
 intro a
 induction a with
 |nil=>
  intro _
  exact rfl
 |cons b a e=>
  intro d
  show (nt c b b).bind _=_
  (refine bT (d b fD) ?_;rewrite [tn];refine bT (e fun g f=>d g (ia _ f)) ?_)
  rfl
def j8{b:Nat}{a:List bl}(d:∀c∈a,k1 b c):k1 (b+1) (.a3 a):=by
 show (if a.length=a.length then sg (nt b) a a else O b2)=_
 (refine bT (if_pos rfl) ?_;refine bT (AI d) ?_;rfl)
def xS{b:Nat}{a:List bl}(d:∀c∈a,k1 b c):k1 (b+1) (.cQ a):=by
 show (if a.length=a.length then sg (nt b) a a else b1)=_
 (refine bT (if_pos rfl) ?_;refine bT (AI d) ?_;rfl)
def Km{b:Nat}(c:List Nat):k1 (b+2) (.a3 (cU c)):=j8 fun e a=>by
 obtain ⟨d,_,rfl⟩:=hJ.mp a
 exact fC rfl
def XI{g:Nat}{d:Bool}{b:R}(f:b.cF d=ar):k1 (g+2) (M4 b):=by
 obtain ⟨_,c,e⟩:=FL f
 refine xS fun h a=>?_
 simp only [eP,gD,or_false] at a
 rcases a with rfl|rfl|rfl|rfl|rfl
 ·exact fC rfl
 ·exact fC rfl
 ·exact fC c
 ·exact fC e
 ·exact fC rfl
def XJ{d:Nat}{b:Ct}(c:gh b.mF=ar):k1 (d+2) (M5 b):=by
 refine xS fun e a=>?_
 simp only [eP,gD,or_false] at a
 rcases a with rfl|rfl|rfl|rfl|rfl
 ·exact fC c
 ·exact fC rfl
 ·exact fC rfl
 ·exact fC rfl
 ·exact fC rfl
def s5(b:Cd):Prop:=∀a∈b.b6,gh a.mF=ar
def rB{j:Nat}{i:Hd}{g:Cd}{h:List bl}{l:Bool}(d:tF i)(p:s5 g)(o:∀f∈g.a2,f.cF l=ar)(k:∀c∈h,k1 (j+3) c):k1 (j+5) (nO i g h):=by
 refine j8 fun c a=>?_
 simp only [eP,gD,or_false] at a
 refine bU fun b=>?_
 obtain ⟨r,q,_,n⟩:=d.gc
 refine b ?_;try clear b
 rcases a with rfl|rfl|rfl|rfl|rfl|rfl|rfl|rfl
 ·exact fC d.dm
 ·exact fC d.cJ
 ·exact fC d.b9
 ·refine bT q ?_;exact j8 fun c a=>fC (n c a)
 ·exact j8 fun c a=>by
   refine bU fun b=>?_
   obtain ⟨f,e,rfl⟩:=hJ.mp a
   refine b ?_;try clear b
   exact XI (o f e)
 ·exact j8 fun c a=>by
   refine bU fun b=>?_
   obtain ⟨m,e,rfl⟩:=hJ.mp a
   refine b ?_;try clear b
   exact XJ (p m e)
 ·exact Km _
 ·exact j8 k
def RY{k:Bool}{f:R}(g:f.cF k=ar)(n:f.bV.b8=ar→f.t≤1000):gY (fa f)=O ((gY (fa f)).getD ""):=by
 have p:∃c,gY (fa f)=O c:=by
  have l:∀{b:bl},dW b=ar→∃c,gY b=O c:=fun d=>by refine bT (iA d) ?_;exact ⟨_,rfl⟩
  have i:∀{b:bl},rP 0 b=ar→∃c,gY b=O c:=fun d=>by refine bT (mG d) ?_;exact ⟨_,rfl⟩
  have e:∀{h:b4}{b:bl},(GK h).length≤100000→lv h b=ar→∃c,gY b=O c:=fun q d=>by refine bT (j1 d) ?_;exact ⟨_,if_pos q⟩
  refine bU fun j=>?_
  obtain ⟨o,m,u,s,v,r⟩:=f
  refine j ?_;try clear j
  induction o
  case hV|e5|eL|cI=>exact ⟨_,if_pos (show (m:Int).natAbs<_ from kT (n rfl) (by decide))⟩
  all_goals refine eE (show _=ar from g) fun g w=>eE g fun a t=>?_
  all_goals first
   |exact uV a
   |exact l a
   |exact i a
   |exact i (iX.mp a).2
   |exact e (h:="@x") (by decide+kernel) a
   |exact e (h:="$x") (by decide+kernel) a
   |exact e (h:="C") (by decide+kernel) a
   |exact e (h:="u") (by decide+kernel) a
   |exact e (h:="E") (by decide+kernel) a
   |exact oX a (e (h:="t") (by decide+kernel)) (e (h:="u") (by decide+kernel))
 obtain ⟨c,d⟩:=p
 refine bT d ?_;rfl
section
variable{a:Nat}{b:Bool}
def FP{c:bS}{d:bl}{e:b4}(g:gY d=O e){fz:Bool}:eW c fz 6 [.f d] =O (.f (.ad e),c):=congrArg (nG fun f=>(bZ.f (.ad f),c)) g
def AJ{o:Type}(d:Hd){k:Cd}(F:tF d)(v:Bd k)(z:∀c∈k.a2,c.cF b=ar)(y:∀c∈k.a2,c.bV.b8=ar→c.t≤1000)(f:List o)(i m:o→bl)(r:f.length≤500)(s:∀g∈f,PC (vC cr a) 54 [.f (i g)] (m g)):
  PC (vC cr (a+1)) 54 [.f (cf (d.wk (f.map i)) k)] (nO d k (f.map m)):=pf rfl rfl rfl rfl fun L t l A w=>by
 refine bU fun j=>?_
 obtain ⟨q,p,u⟩:=v.iB
 refine j ?_;try clear j
 apply aj;exact eh q
 refine iD eR M4 (fun c n K h e=>?_) ?_
 ·apply aj;exact FP (RY (z c h) (y c h))
  exact e
 apply aj;exact lh q
 apply aj;exact eh p
 refine iD k0 M5 (fun g n K h e=>e) ?_
 apply aj;exact lh p
 apply aj;exact eh (c:=i) r
 refine iD i m (fun g n K h e=>pc t (s g h) e) ?_
 apply aj;exact lh r
 refine bU fun j=>?_
 obtain ⟨I,G,x,_⟩:=F.gc
 refine j ?_;try clear j
 have C:∀l,eW l ar 1 [.f (d.wk (f.map i)).gc] =O (.f d.gc,l):=fun l=>by
  show eW l ar 1 [.f d.gc] =_
  refine bT G ?_;exact lw (cu x (by decide))
 apply aj;exact C _
 apply aj;exact BL (e:=e8) u
 exact c8 (b:=A) w eO
def wz(c:pd):Prop:=(tF c.1)∧(Bd c.2)∧(∀d∈c.2.a2,d.cF b2=ar)∧(∀d∈c.2.a2,d.bV.b8=ar→d.t≤1000)∧(c.1.fB=[])
section
variable{c:pd}(d:wz c)
include d
def wz.hd:tF c.1:=d.1
def wz.bd:Bd c.2:=d.2.1
def wz.cF:∀e∈c.2.a2,e.cF b2=ar:=d.2.2.1
def wz.Kn:∀e∈c.2.a2,e.bV.b8=ar→e.t≤1000:=d.2.2.2.1
def wz.bX:c.1.fB=[] :=d.2.2.2.2
end
def O7(c:pd)(K:wz c):PC (vC cr (a+1)) 54 [.f (ez c)] (nO c.1 c.2 []):=by
 have:=AJ (a:=a) c.1 K.hd K.bd K.cF K.Kn ([] :List Unit) (fun d=>.bX) (fun d=>.bX) (fy _) (fun d e=>absurd e gD)
 rw [Ck,Hd.BJ K.bX] at this
 exact this
def NK(f:Hd){d:Cd}(k:tF f)(l:Bd d)(h:∀g∈d.a2,g.cF b=ar)(n:∀g∈d.a2,g.bV.b8=ar→g.t≤1000){e:List pd}(m:e.length≤500)(i:∀c∈e,wz c):
  PC (vC cr (a+2)) 54 [.f (cf (f.wk (e.map ez)) d)] (nO f d (e.map fun c=>nO c.1 c.2 [])):=
 AJ f k l h n e ez _ m fun c j=>O7 c (i c j)
end
def O8{a b:bS}(d:bS)(c:b.take a.length=a):(b++d).take a.length=a:=by
 have:a.length≤b.length:=by
  have:=congrArg qE c
  rw [zd] at this;lia
 (refine bT (TQ this) ?_;refine bT c ?_;rfl)
structure iZ(σ τ:bS)(ks:Nat)(sk:List bl)(kd:Kd)(de:List bl):Prop where
 jm:τ[ks]? =O (O (.a3 sk.reverse))
 en:τ[σ.length+1]? =O (O (.a3 de))
 fU:τ[σ.length+2]? =O (O (.d4 kd))
 ju:τ.take σ.length=σ
 mC:σ.length≤ks
 n1:ks≠σ.length+1
 Ko:ks≠σ.length+2
def qw{a b:bS}{c:Nat}{e:Option dw}(d:b.take a.length=a)(f:a.length≤c):(b.set c e).take a.length=a:=by
 (refine bT (List.take_set_of_le f) ?_;refine bT d ?_;rfl)
section
variable{b a:bS}{c:Nat}{g:List bl}{d:Kd}{e:List bl}
def iZ.l9(f:iZ b a c g d e)(i h:List bl)(j:h=i.reverse):iZ b (a.set c (O (.a3 h))) c i d e:=by
 subst j
 have k:=(fJ.mp f.jm).1
 refine ⟨by simp [k],?_,?_,qw f.ju f.mC,f.mC,f.n1,f.Ko⟩
 ·rw [pi f.n1];exact f.en
 ·rw [pi f.Ko];exact f.fU
def iZ.xT(f:iZ b a c g d e)(h:List bl):iZ b (a.set (b.length+1) (O (.a3 h))) c g d h:=by
 have i:=(fJ.mp f.en).1
 refine ⟨?_,by simp [i],?_,qw f.ju (by lia),f.mC,f.n1,f.Ko⟩
 ·rw [pi (Cv f.n1)];exact f.jm
 ·rw [pi (by lia)];exact f.fU
def iZ.O9(f:iZ b a c g d e)(h:Kd):iZ b (a.set (b.length+2) (O (.d4 h))) c g h e:=by
 have i:=(fJ.mp f.fU).1
 refine ⟨?_,?_,by simp [i],qw f.ju (by lia),f.mC,f.n1,f.Ko⟩
 ·rw [pi (Cv f.Ko)];exact f.jm
 ·rw [pi (by lia)];exact f.en
def iZ.mN(f:iZ b a c g d e)(i h:List bl)(k:h=i.reverse):iZ b (a++[O (.a3 h)]) a.length i d e:=by
 subst k
 have j:=(fJ.mp f.en).1
 have l:=(fJ.mp f.fU).1
 refine ⟨eo _ _ _,?_,?_,O8 _ f.ju,by lia,by lia,by lia⟩
 ·rw [ph j];exact f.en
 ·rw [ph l];exact f.fU
def Ec{i:bl}{k:Sum Int b4}{f:Nat}{l:Kd}{j:bl}(h:a[f]? =O (O (.d4 l)))(n:jM i=O k)(m:fA k l=O j):jX cr a (.cq f) (.f i)=O j:=by
 cases i<;>first|cases n|skip
 ·show (nG bl.a3 (il a f)).elim ((ml a f).bind _) _=_
  (refine bT (BF h) ?_;refine bT (qP h) ?_)
  exact m
 ·show (ml a f).bind _=_
  refine bT (qP h) ?_
  exact m
def Pa{i j:bl}{k:Sum Int b4}{f:Nat}{h:Kd}(l:a[f]? =O (O (.d4 h)))(m:jM i=O k)(n:h.length≤1000):l4 a (.cq f) (.f i) (.f j)=O (a.set f (O (.d4 (gF h k j)))):=by
 show (il a f).elim ((ml a f).bind _) _=_
 (refine bT (BF l) ?_;refine bT (qP l) ?_)
 refine (if_pos n).trans ?_
 show (jM i).map _=_
 refine bT m ?_;rfl
def wA{i:Nat}{h:bl}{f:List bl}(l:a[i]? =O (O (.a3 (h::f).reverse)))(m:f.length+1≤100000):jk cr a .gA (.cq i) [] =O (.f h,a.set i (O (.a3 f.reverse))):=by
 have j:(h::f).reverse=f.reverse++[h] :=uN
 have k:(h::f).reverse.length-1=f.reverse.length:=by (refine bT rd ?_;refine bT rd ?_);rfl
 rw [VI l (by refine bT rd ?_;exact m) (by (refine bT k ?_;refine bT j ?_;rw [la (dX _),pg]);rfl),k,j,L0 (dX _),pg]
 (refine bT (show [h].eraseIdx 0=[] from rfl) ?_;rw [kX])
def Kp{j:Nat}{i h:bl}{f:List bl}(m:a[j]? =O (O (.a3 (i::h::f).reverse)))(n:f.length+2≤100000):jk cr a .gA (.cq j) [.f (.Z (-2))] =O (.f h,a.set j (O (.a3 (i::f).reverse))):=by
 have k:(i::h::f).reverse=f.reverse++[h,i] :=by (refine bT uN ?_;refine bT uN ?_;rw [m8]);rfl
 have l:g8 (-2) (i::h::f).reverse.length=O f.reverse.length:=by
  unfold g8
  rw [rd,rd,if_neg (by decide),if_pos (by (refine bT lZ ?_;refine bT lZ ?_);lia)]
  (refine bT lZ ?_;refine bT lZ ?_);congr 1;lia
 rw [aai m (by refine bT rd ?_;exact n) l (by (refine bT k ?_;rw [la (dX _),pg]);rfl),k,L0 (dX _),pg,uN]
 rfl
def I5{i:Nat}{h:bl}{f:List bl}(k:a[i]? =O (O (.a3 (h::f).reverse))):jX cr a (.cq i) (.f (.Z (-1)))=O h:=by
 show (ud a (.cq i)).elim _ _=_
 refine bT (xb k) ?_
 have j:g8 (-1) (h::f).reverse.length=O f.reverse.length:=by
  unfold g8
  rw [rd,rd,if_neg (by decide),if_pos (by refine bT lZ ?_;lia)]
  refine bT lZ ?_;congr 1;lia
 refine (congrArg (jG · _) j).trans ?_
 show (h::f).reverse[f.reverse.length]? =_
 (refine bT uN ?_;rw [la (dX _),pg]);rfl
end
section
variable{a:Nat}
def Kq{b:bl}(e:∀(c:bS)(d:KE),vC cr (a+1) 60 [.f b] c d=d (.f (.b3 (dI b))) (c.take c.length)):PC (vC cr (a+1)) 60 [.f b] (.b3 (dI b)):=⟨fun c d f=>by
 (rewrite [e];refine bT eO ?_);exact f⟩
set_option tactic.hygienic true in
def RZ{c:bl}(b:gZ c=true):PC (vC cr (a+1)) 60 [.f c] (.b3 (dI c)):=by
 refine Kq fun e f=>?_
 unfold gZ at b
 split at b
 ·kernel_rfl
 ·rename_i d
  induction d<;>kernel_rfl
 ·simp only [Bool.or_eq_true,beq_iff_eq] at b
  rcases b with rfl|rfl<;>kernel_rfl
 ·rename_i g
  simp only [List.contains_eq_mem,decide_eq_true_eq,List.mem_cons,List.not_mem_nil,or_false] at b
  rcases b with rfl|rfl|rfl|rfl|rfl|rfl<;>kernel_rfl
 ·exact Bool.noConfusion b
end
noncomputable def fo:Nat→cW→cW
 | 0,a=>a
 |c+1,.J _ b=>fo c b
 |_+1,.N=>.N
def xe(a:Op):b4:=MK a.cT b1 (O 3)
def wB(b:bS)(a:Op):jY b ar (.f (.ad a.cT)) (.f .bX) (.f (.Z 3))=O (.f (.ad (xe a)),b):=if_pos (of_decide_eq_true (jf (b:=fun a=>dY (a.cT.length≤100000)) (by kernel_rfl) a))
noncomputable def CV:Op→Bool
 |.kB|.uQ|.uR=>ar
 |_=>b2
def yl(a:Op):(xe a==("get":b4))=CV a:=dr (jf (b:=fun a=>(xe a==("get":b4))==CV a) (by kernel_rfl) a)
def ym(a:Op):(xe a==("set":b4))=a.fQ:=dr (jf (b:=fun a=>(xe a==("set":b4))==a.fQ) (by kernel_rfl) a)
def AK(a:Op):Bool:=a== .nv||(a== .sq||a== .j0)
def CW(a:Op):Bool:=a== .d0||(a== .iQ||(a== .g9||AK a))
def aan:(fu.all fun a=>eA (ic (.ad a.cT) [.ad "getl",.ad "setl"]) (a== .kB||a== .kC))=ar:=by kernel_rfl
def NL:(fu.all fun a=>eA (ic (.ad a.cT) [.ad "text",.ad "undef",.ad "lambda"]) (AK a))=ar:=by kernel_rfl
def VS:(fu.all fun a=>eA (ic (.ad a.cT) [.ad "push",.ad "self",.ad "blockgiven",.ad "text",.ad "undef",.ad "lambda"]) (CW a))=ar:=by kernel_rfl
def m4:Nat→Op→Bool
 | 2,a=>AK a
 | 3,a=>CW a
 | 4,a=>CV a
 | 5,a=>a.fQ
 | 6,a=>a== .gA
 | 7,a=>a== .kq
 | 8,a=>a== .dt
 | 9,a=>a== .ew
 | 10,a=>a== .cI||a== .eL
 | 11,a=>a.cg
 | 12,a=>a== .gz ()
 |_,_=>ar
noncomputable abbrev RL(g:Hd)(c:Cd)(j:bl)(d:Bool)(h:Option bZ)(b:bl)(k:Nat)(a:bS)(l f i e:Option bZ):cV:=[O (.f (cf g c)),O (.f j),O (.f (.b3 d)),h,O (.f b),O (.cq k),O (.cq (a.length+1)),O (.cq (a.length+2)),l,f,i,e,b1]
section
variable{o:cK}{j:Hd}{c:Cd}{i:bl}{e:Bool}{k:Option bZ}{b:bl}{m:Nat}{h d:bS}{n l g:Option bZ}{K:KS}{a:Op}
def ut{a:Op}(f:Op)(p:(a==f)=b2):(a.cT==f.cT)=b2:=(gr a f).trans p
def aao:∀q:Nat,q<13→m4 q a=b2→fG ⟨cr,o⟩ (fo (q+1) c1) (RL j c i e k b m h n (O (.f (.ad a.cT))) l g) d K→fG ⟨cr,o⟩ (fo q c1) (RL j c i e k b m h n (O (.f (.ad a.cT))) l g) d K:=
 oB (fun f s=>dy f) (oB (fun f s=>dy f) (oB (fun f p=>aj (qf NL a) (ee f p)) (oB (fun f p=>aj (qf VS a) (ee f p)) (oB (fun f p=>aj (wB _ a) (ee ((yl a).trans f) p)) (oB (fun f p=>aj (wB _ a) (ee ((ym a).trans f) p))
  (oB (fun f p=>ee (ut .gA f) p) (oB (fun f p=>ee (ut .kq f) p) (oB (fun f p=>ee (ut .dt f) p) (oB (fun f p=>ee (ut .ew f) p) (oB (fun f p=>have r:=Ga.mp f;ee (ut .cI r.1) (ee (ut .eL r.2) (ee (ut .eL r.2) p)))
   (oB (fun f p=>aj (gU a) (ee f (ee f p))) (oB (fun f p=>ee (ut (.gz ()) f) p) Wh))))))))))))
def mw:∀(p f:Nat),f+p≤13→((f5 p).all fun q=>!m4 (f+q) a)=ar→fG ⟨cr,o⟩ (fo (f+p) c1) (RL j c i e k b m h n (O (.f (.ad a.cT))) l g) d K→fG ⟨cr,o⟩ (fo f c1) (RL j c i e k b m h n (O (.f (.ad a.cT))) l g) d K:=by
 intro p
 induction p with
 |zero=>
  intro f _ _ r
  exact r
 |succ p v=>
  intro f t w r
  have u:∀q<p+1,m4 (f+q) a=b2:=fun q s=>nN (lD.mp w q (nf.mpr s))
  refine aao f (hH (B7 (nI p)) t) (u 0 (nI p)) (v (f+1) (nS f 1 p▸t) (lD.mpr fun q s=>?_) (nS f 1 p▸r))
  have:=u (q+1) (Ge (nf.mp s))
  (refine bT (show f+1+q=f+(q+1) from nS f 1 q) ?_;refine bT this ?_);rfl
def kt(f p:Nat)(q:f+p=13)(t:((f5 p).all fun r=>!m4 (f+r) a)=ar)(s:K .cc (RL j c i e k b m h n (O (.f (.ad a.cT))) l g) d):fG ⟨cr,o⟩ (fo f c1) (RL j c i e k b m h n (O (.f (.ad a.cT))) l g) d K:=
 mw p f (jH q) t (q▸s)
end
def gd(a:R):bl:=if a.bV== .kB||a.bV== .kC then a.b else fa a
def Kr{a:R}(b:a.bV.b8=b2):gd a=oG a:=by
 unfold gd oG
 cases c:a.bV<;>first|rfl|(unfold fa;refine bT b ?_;rfl)|(rw [c] at b;cases b)
def wC(b:Bool)(a:R):bl:=if a.bV== .d0 then gd a else if a.bV== .g9 then .b3 b else .ad a.bV.cT
def R0{a:Op}(c:CW a=ar):((f5 9).all fun b=>!m4 (4+b) a)=ar:=by
 have:=jf (b:=fun a=>!CW a||(f5 9).all fun b=>!m4 (4+b) a) (by kernel_rfl) a
 rw [c] at this;exact this
section
variable{q:cK}{x:Nat}{h:Hd}{g:Cd}{i:bl}{e:Bool}{k:Option bZ}{o:bl}{d:Nat}{c l:bS}{p w s j:Option bZ}{K:KS}{a:R}{n:List bl}{r:Kd}{m:List bl}
def R1{t:Nat}{z:bl}(A:g.a2[t]? =O a)(F:g.a2.length≤500)(f:fG ⟨cr,q⟩ (fo 2 c1) (RL h g i e (O (.f z)) (.Z ((t+1:Nat):Int)) d c (O (.f (eR a))) (O (.f (.ad a.bV.cT))) (O (.f (gd a))) j) l K):
  jP (RL h g i e k (.Z t) d c p w s j) [3] b2 z fun C=>fG ⟨cr,q⟩ c1 C l K:=by
 apply aj;exact hC A F
 apply aj;exact qf aan a.bV
 unfold gd at f
 refine cD (fun y=>?_) fun y=>?_
 ·rw [if_pos y] at f;exact f
 ·rw [if_neg (by refine bT y ?_;exact kx)] at f;exact f
variable(b:iZ c l d n r m)(u:n.length≤1000)(v:m.length≤1000)
include b u v
theorem I6(G:CW a.bV=ar)(t:∀y,iZ c y d (wC e a::n) r (if AK a.bV then m++[.ad a.bV.cT] else m)→K .cc (RL h g i e k o d c p (O (.f (.ad a.bV.cT))) (O (.f (gd a))) j) y):
  fG ⟨cr,q⟩ (fo 2 c1) (RL h g i e k o d c p (O (.f (.ad a.bV.cT))) (O (.f (gd a))) j) l K:=by
 have F:∀{I:Nat},I≤1000→I≤100000:=fun h=>cu h (by decide)
 have L:∀{l:bS}{m:List bl},iZ c l d n r m→(∀y,iZ c y d (wC e a::n) r m→K .cc (RL h g i e k o d c p (O (.f (.ad a.bV.cT))) (O (.f (gd a))) j) y)→fG ⟨cr,q⟩ (fo 3 c1) (RL h g i e k o d c p (O (.f (.ad a.bV.cT))) (O (.f (gd a))) j) l K:=fun {l m} b t=>by
  have C:∀z,wC e a=z→fG ⟨cr,q⟩ (fo 4 c1) (RL h g i e k o d c p (O (.f (.ad a.bV.cT))) (O (.f (gd a))) j) (l.set d (O (.a3 (n.reverse++[z])))) K:=fun z Q=>
   kt 4 9 rfl (R0 G) (t _ (b.l9 (wC e a::n) _ (by (refine bT uN ?_;refine bT Q ?_;rfl))))
  have A:n.reverse.length≤100000:=by refine bT rd ?_;exact F u
  apply aj;exact qf VS a.bV
  refine gL G ?_
  apply aj;exact dK b.jm
  refine cD (fun f=>?_) fun f=>?_
  ·apply aj;exact io b.jm A
   exact C _ (by unfold wC;(refine bT (if_pos ((gr a.bV .d0).symm.trans f)) ?_;rfl))
  ·have P:wC e a=if a.bV== .g9 then .b3 e else .ad a.bV.cT:=by unfold wC;rw [if_neg (by refine bT ((gr a.bV .d0).symm.trans f) ?_;exact kx)]
   refine cD (fun f=>?_) fun f=>?_
   ·apply aj;exact io b.jm A
    exact C _ (by (refine bT P ?_;refine bT (if_pos ((gr a.bV .g9).symm.trans f)) ?_;rfl))
   ·apply aj;exact io b.jm A
    exact C _ (by rw [P,if_neg (by refine bT ((gr a.bV .g9).symm.trans f) ?_;exact kx)])
 apply aj;exact qf NL a.bV
 refine cD (fun f=>?_) fun f=>?_<;>rw [f] at t
 ·apply aj;exact dK b.en
  apply aj;exact io b.en (F v)
  exact L (b.xT _) t
 ·exact L b t
theorem R2{A:Sum Int b4}{f:bl}(F:CV a.bV=ar)(G:jM (gd a)=O A)(Q:fA A r=O f)(I:∀z,iZ c z d (f::n) r m→K .cc (RL h g i e k o d c p (O (.f (.ad a.bV.cT))) (O (.f (gd a))) j) z):
  fG ⟨cr,q⟩ (fo 2 c1) (RL h g i e k o d c p (O (.f (.ad a.bV.cT))) (O (.f (gd a))) j) l K:=by
 have C:=jf (b:=fun t=>!CV t||(((f5 2).all fun y=>!m4 (2+y) t)&&(f5 8).all fun y=>!m4 (5+y) t)) (by kernel_rfl) a.bV
 rw [F] at C
 obtain ⟨P,L⟩:=iX.mp C
 refine mw 2 2 (by decide) P ?_
 apply aj;exact wB _ a.bV
 refine gL ((yl a.bV).trans F) ?_
 apply aj;exact dK b.jm
 apply aj;exact Ec b.fU G Q
 apply aj;exact io b.jm (by refine bT rd ?_;exact cu u (by decide))
 exact kt 5 8 rfl L (I _ (b.l9 (f::n) _ uN.symm))
theorem R3{f:List bl}{A:Sum Int b4}{t:bl}{Q:b4}(Y:r.length≤1000)(I:a.bV.fQ=ar)(F:jM (gd a)=O A)(X:gY t=O Q)(aa:n=t::f)(R:∀P,iZ c P d f (gF r A t) (m++[.cQ [.ad a.bV.cT,gd a,.ad Q]])→K .cc (RL h g i e k o d c p (O (.f (.ad a.bV.cT))) (O (.f (gd a))) j) P):
  fG ⟨cr,q⟩ (fo 2 c1) (RL h g i e k o d c p (O (.f (.ad a.bV.cT))) (O (.f (gd a))) j) l K:=by
 subst aa
 have G:=jf (b:=fun C=>!C.fQ||(((f5 3).all fun z=>!m4 (2+z) C)&&(f5 7).all fun z=>!m4 (6+z) C)) (by kernel_rfl) a.bV
 rw [I] at G
 obtain ⟨ab,T⟩:=iX.mp G
 have W:f.length+1≤100000:=cu u (by decide)
 refine mw 3 2 (by decide) ab ?_
 apply aj;exact wB _ a.bV
 refine gL ((ym a.bV).trans I) ?_
 apply aj;exact mY b.jm
 apply aj;exact wA b.jm W
 have L:=b.l9 f f.reverse rfl
 apply aj;exact Pa L.fU F Y
 have y:=L.O9 (gF r A t)
 apply aj;exact dK y.en
 apply aj;exact Ec y.fU F (by (rewrite [ug];refine bT (if_pos rfl) ?_;rfl))
 apply aj;exact FP X
 apply aj;exact io y.en (cu v (by decide))
 exact kt 6 7 rfl T (R _ (y.xT _))
theorem R4{z:bl}{f:List bl}(t:a.bV=.gA)(C:n=z::f)(A:∀y,iZ c y d f r m→K .cc (RL h g i e k o d c p (O (.f (.ad a.bV.cT))) s j) y):
  fG ⟨cr,q⟩ (fo 2 c1) (RL h g i e k o d c p (O (.f (.ad a.bV.cT))) s j) l K:=by
 subst C
 refine mw 4 2 (by decide) (by refine bT t ?_;rfl) ?_
 refine gL ((gr a.bV .gA).trans (by refine bT t ?_;rfl)) ?_
 apply aj;exact mY b.jm
 apply aj;exact wA b.jm (cu u (by decide))
 exact kt 7 6 rfl (by refine bT t ?_;rfl) (A _ (b.l9 f _ rfl))
theorem R5{f:bl}{t:List bl}(y:a.bV=.kq)(C:n=f::t)(A:∀z,iZ c z d (f::f::t) r m→K .cc (RL h g i e k o d c p (O (.f (.ad a.bV.cT))) s j) z):
  fG ⟨cr,q⟩ (fo 2 c1) (RL h g i e k o d c p (O (.f (.ad a.bV.cT))) s j) l K:=by
 subst C
 refine mw 5 2 (by decide) (by refine bT y ?_;rfl) ?_
 refine gL ((gr a.bV .kq).trans (by refine bT y ?_;rfl)) ?_
 apply aj;exact dK b.jm
 apply aj;exact I5 b.jm
 apply aj;exact io b.jm (by refine bT rd ?_;exact cu u (by decide))
 exact kt 8 5 rfl (by refine bT y ?_;rfl) (A _ (b.l9 (f::f::t) _ uN.symm))
theorem Pb{f z:bl}{t:List bl}(y:a.bV=.dt)(G:n=f::z::t)(F:∀C,iZ c C d (z::f::t) r m→K .cc (RL h g i e k o d c p (O (.f (.ad a.bV.cT))) s j) C):
  fG ⟨cr,q⟩ (fo 2 c1) (RL h g i e k o d c p (O (.f (.ad a.bV.cT))) s j) l K:=by
 subst G
 refine mw 6 2 (by decide) (by refine bT y ?_;rfl) ?_
 refine gL ((gr a.bV .dt).trans (by refine bT y ?_;rfl)) ?_
 apply aj;exact dK b.jm
 apply aj;exact mY b.jm
 apply aj;exact Kp b.jm (cu u (by decide))
 have A:=b.l9 (f::t) (f::t).reverse rfl
 apply aj;exact io A.jm (by refine bT rd ?_;exact cu (lC u) (by decide))
 exact kt 9 4 rfl (by refine bT y ?_;rfl) (F _ (A.l9 (z::f::t) _ uN.symm))
theorem Ks{z:bl}{f:List bl}{F:b4}(t:a.bV=.ew)(P:n=z::f)(Q:gY z=O F)(G:∀L C,C.take c.length=c→K (.cw (.f (.cQ [.a3 (m++[.cQ [.ad "leave",.ad F]]),.b3 ar]))) L C):
  fG ⟨cr,q⟩ (fo 2 c1) (RL h g i e k o d c p (O (.f (.ad a.bV.cT))) s j) l K:=by
 subst P
 refine mw 7 2 (by decide) (by refine bT t ?_;rfl) ?_
 refine gL ((gr a.bV .ew).trans (by refine bT t ?_;rfl)) ?_
 apply aj;exact mY b.jm
 apply aj;exact wA b.jm (cu u (by decide))
 apply aj;exact FP Q
 have A:=b.l9 f f.reverse rfl
 have I:∀y:bl,pn (l.set d (O (.a3 f.reverse))) ar .dc (.cq (c.length+1)) (.f (.a3 [y]))=O (.f (.a3 (m++[y])),l.set d (O (.a3 f.reverse))):=fun y=>by
  have t:kI (l.set d (O (.a3 f.reverse))) (.cq (c.length+1))=O m:=FC A.en
  show (kI _ _).bind _=_
  refine bT t ?_;exact lw (by refine bT dZ ?_;exact cu (m7 v 1) (by decide))
 apply aj;exact I _
 refine bT t ?_
 exact G _ _ A.ju
theorem Pc(f:a.bV=.cI)(y:∀z,iZ c z d n r m→K .cc (RL h g i e k (.Z a.t) d c (O (.f (eR a))) (O (.f (.ad a.bV.cT))) s j) z):
  fG ⟨cr,q⟩ (fo 2 c1) (RL h g i e k o d c (O (.f (eR a))) (O (.f (.ad a.bV.cT))) s j) l K:=by
 refine mw 8 2 (by decide) (by refine bT f ?_;rfl) ?_
 have t:(a.bV.cT==("jump":b4))=ar:=(gr a.bV .cI).trans (by refine bT f ?_;rfl)
 refine gL t ?_
 refine gL t ?_
 rw [← fi (a:=a) (by refine bT f ?_;rfl)] at y
 exact kt 11 2 rfl (by refine bT f ?_;rfl) (y _ b)
theorem Fc{t:bl}{F:List bl}{A:Nat}(f:a.bV=.eL)(G:n=t::F)(y:∀C,iZ c C d n r m→K .cc (RL h g i e k (.Z ((cond (dW t) a.t A:Nat):Int)) d c (O (.f (eR a))) (O (.f (.ad a.bV.cT))) s j) C):
  fG ⟨cr,q⟩ (fo 2 c1) (RL h g i e k (.Z A) d c (O (.f (eR a))) (O (.f (.ad a.bV.cT))) s j) l K:=by
 subst G
 refine mw 8 2 (by decide) (by refine bT f ?_;rfl) ?_
 refine ee ((gr a.bV .cI).trans (by refine bT f ?_;rfl)) ?_
 refine gL ((gr a.bV .eL).trans (by refine bT f ?_;rfl)) ?_
 apply aj;exact I5 b.jm
 have I:(bZ.f t).gv=dW t:=by cases t<;>rfl
 refine cD (fun z=>?_) fun z=>?_<;>have z:=I.symm.trans z<;>rw [z] at y
 ·rw [show cond ar a.t A=a.t from rfl,← fi (a:=a) (by refine bT f ?_;rfl)] at y
  exact kt 11 2 rfl (by refine bT f ?_;rfl) (y _ b)
 ·exact kt 11 2 rfl (by refine bT f ?_;rfl) (y _ b)
theorem yn{f:bl}{t:List bl}{A:Nat}(W:q=vC cr (x+1))(G:a.bV.cg=ar)(T:n=f::t)(Y:gZ f=ar)(y:∀L,iZ c L d t r m→K .cc (RL h g i e k (.Z ((cond (a.bV.eM (dI f)) a.t A:Nat):Int)) d c (O (.f (eR a))) (O (.f (.ad a.bV.cT))) s j) L):
  fG ⟨cr,q⟩ (fo 2 c1) (RL h g i e k (.Z A) d c (O (.f (eR a))) (O (.f (.ad a.bV.cT))) s j) l K:=by
 subst T
 have Q:=jf (b:=fun C=>!C.cg||(((f5 9).all fun F=>!m4 (2+F) C)&&(f5 1).all fun F=>!m4 (12+F) C)) (by kernel_rfl) a.bV
 rw [G] at Q
 obtain ⟨X,P⟩:=iX.mp Q
 refine mw 9 2 (by decide) X ?_
 apply aj;exact gU a.bV
 refine gL G ?_
 apply aj;exact mY b.jm
 apply aj;exact wA b.jm (cu u (by decide))
 refine pc W (RZ Y) ?_
 have R:(dI f==(a.bV.cT==("jumpif":b4)))=a.bV.eM (dI f):=by unfold Op.eM;rw [← gr];rfl
 have I:=b.l9 t t.reverse rfl
 refine cD (fun z=>?_) fun z=>?_<;>have z:=R.symm.trans z<;>rw [z] at y
 ·rw [show cond ar a.t A=a.t from rfl,← fi (a:=a) (rm G)] at y
  exact kt 12 1 rfl P (y _ I)
 ·exact kt 12 1 rfl P (y _ I)
end
end
section
open PySem
set_option linter.unusedSectionVars false
def bnd{a:Nat}(b:a≤1000):rO (.f (.Z a))=O (O a):=if_pos ⟨sb a,kT b (by decide)⟩
def xU{c:bS}{d:bZ}{b:Nat}{a:List bl}(g:ud c d=O (.a3 a))(e:a.length≤1000)(h:b≤1000):jY c ar d (.f .bX) (.f (.Z b))=O (.f (.a3 (a.take b)),c):=by
 unfold jY
 (refine bT (bnd h) ?_;refine bT (show rO (.f .bX)=O b1 from rfl) ?_;rewrite [tn,tn];refine bT g ?_)
 show (if a.length≤100000 then iI c ar (x6 a b1 (O b)) else b1)=_
 have f:x6 a b1 (O b)=a.take b:=Um
 exact (if_pos (cu e (by decide))).trans (by refine bT f ?_;exact lw (cu (yB ..) (cu e (by decide))))
def s6{a:bS}:fh cr a .cZ (.f (.a3 [])) (.f (.a3 []))=O ar:=by
 show lE _ _=_
 unfold lE;rfl
def s7{c:bS}{a:bl}{b:List bl}:fh cr c .cZ (.f (.a3 (a::b))) (.f (.a3 []))=O b2:=by
 show lE _ _=_
 unfold lE;rfl
section
variable{s:cK}{u:Nat}{q:Hd}{c:Cd}{o:bl}{k:Bool}{l:Option bZ}{r:Nat}{d j:bS}{n p m h:Option bZ}{K:KS}{b:R}{e:List bl}{i:Kd}{g:List bl}
def Pd{f:Nat}(I:iZ d j r e i g)(G:e.length≤1000)(ac:g.length≤1000)(y:b.bV=.gz ())(L:c.b6.length≤500)(ai:∀a∈c.b6,a.c4 f=ar→a.dG≤e.length)
  (C:c.b6.find? (·.c4 f)=b1→∀Y v,v.take d.length=d→K (.cw (.f (.cQ [.a3 (g++[.ad "fail"]),.b3 ar]))) Y v)
  (z:∀a,c.b6.find? (·.c4 f)=O a→∀R v h,iZ d v R (.ad "way"::e.drop (e.length-a.dG)) i (g++[.ad "fail"])→K .cc (RL q c o k l (.Z a.cP) R d n (O (.f (.ad b.bV.cT))) m h) v):
  fG ⟨cr,s⟩ (fo 2 c1) (RL q c o k l (.Z ((f+1:Nat):Int)) r d n (O (.f (.ad b.bV.cT))) m h) j K:=by
 refine mw 10 2 (by decide) (by refine bT y ?_;rfl) ?_
 refine gL ((gr b.bV (.gz ())).trans (by refine bT y ?_;rfl)) ?_
 apply aj;exact eh L
 refine k6 k0 (·.c4 f) k0 (fun a al K am A w=>?_) ?_
 ·have ag:a.c4 f=(dY ((a.d1:Int)<((f+1:Nat):Int))&&dY (((f+1:Nat):Int)≤(a.iz:Int))):=by
   unfold Ct.c4
   rw [decide_eq_decide.mpr (show (a.d1:Int)<((f+1:Nat):Int)↔a.d1≤f from kY.trans Nat.lt_succ_iff),decide_eq_decide.mpr (show ((f+1:Nat):Int)≤(a.iz:Int)↔f<a.iz from pN)]
  rw [ag] at A w
  refine cD (fun t=>?_) fun t=>?_<;>rw [t] at A w
  ·exact cD (fun t=>A t) fun t=>w t
  ·exact w rfl
 have F:(c.b6.filter (·.c4 f)).length≤500:=cu (r7 _ _) L
 apply aj;exact lh F
 have x:=I.xT (g++[.ad "fail"])
 have W:b.bV.cT="fail":=by refine bT y ?_;rfl
 apply aj;exact dK I.en
 apply aj;refine bT W ?_;exact io I.en (cu ac (by decide))
 rw [← List.head?_filter] at C z
 have T:∀a∈c.b6.filter (·.c4 f),a.dG≤e.length:=fun a ae=>by obtain ⟨ah,aa⟩:=l3.mp ae;exact ai a ah aa
 generalize c.b6.filter (·.c4 f)=af at F C z T⊢
 induction af with
 |nil=>
  apply aj;exact s6
  apply aj;exact js x.en
  exact C rfl _ _ (qw x.ju (fM _))
 |cons a X=>
  have Q:=T a fD
  have P:∀j,jX cr j (.f (.a3 (k0 a::X.map k0))) (.f (.Z 0))=O (k0 a):=fun j=>qu (c:=0) rfl (by
   (refine bT lZ ?_;rw [et]);exact cu F (by decide))
  apply aj;exact s7
  apply aj;exact P _
  have ak:ud (j.set (d.length+1) (O (.a3 (g++[.ad "fail"])))) (.cq r)=O (.a3 e.reverse):=xb x.jm
  apply aj;exact xU ak (by refine bT rd ?_;exact G) (cu Q G)
  have ab:(e.reverse.take a.dG++[bl.ad "way"]).length≤100000:=by
   refine bT dZ ?_;exact cu (m7 (cu (yB ..) (by refine bT rd ?_;exact G)) 1) (by decide)
  apply aj;exact g4 ab
  apply aj;exact P _
  refine z a rfl _ _ _ (x.mN _ _ ?_)
  (refine bT uN ?_;refine bT List.reverse_drop ?_;refine bT (show e.length-(e.length-a.dG)=a.dG from TF Q) ?_;rfl)
def aap(au:s=vC cr (u+1)){az:Bool}(aB:c.a2.length≤500)(T:c.b6.length≤500){x:ek}(aq:c.a2[x.pc]? =O b)(aH:b.cF az=ar){ai:Sum (List bl) ek}(aD:eT c.b6 k x.pc b x=O ai)
   (ag:∀aa∈x.jm,gZ aa=ar) (A:iZ d j r x.jm x.fU x.en) (z:x.jm.length≤1000) (y:x.en.length≤1000) (aw:x.fU.length≤1000) (av:b.bV=.gz ()→∀I∈c.b6,I.c4 x.pc=ar→I.dG≤x.jm.length) {ae:cV→bS→Prop} {aa:bl}
   (ab:∀X,ai=.inl X→∀P v,v.take d.length=d→K (.cw (.f (.cQ [.a3 X,.b3 ar]))) P v)
   (ak:∀G,ai=.inr G→∀Q v l n p m h,iZ d v Q G.jm G.fU G.en→ae (RL q c o k l (.Z G.pc) Q d n p m h) v):
   jP (RL q c o k l (.Z x.pc) r d n p m h) [3] b2 aa fun aC=>fG ⟨cr,s⟩ c1 aC j (jQ ae K):=by
 refine R1 aq aB ?_
 obtain ⟨Y,e,i,g⟩:=x
 refine bU fun {aG} fz=>?_
 obtain ⟨an,a,ac⟩:=tm.mp aD
 dsimp only at aq a ag A z y aw av ab ak fz
 have F:∀{W:nw}{G:ek},O W=O an→rQ c.b6 Y b.t e i g W=.inr G→∀Q v l n p m h,iZ d v Q G.jm G.fU G.en→ae (RL q c o k l (.Z G.pc) Q d n p m h) v:=fun f I=>ak _ (ac.symm.trans ((congrArg _ (dg f)).symm.trans I))
 have ao:∀{W:nw}{X:List bl},O W=O an→rQ c.b6 Y b.t e i g W=.inl X→∀P v,v.take d.length=d→K (.cw (.f (.cQ [.a3 X,.b3 ar]))) P v:=fun f I=>ab _ (ac.symm.trans ((congrArg _ (dg f)).symm.trans I))
 clear ab ak ac
 have al:∀{R:Op},b.bV=R→R.b8=b2→gd b=oG b:=fun f I=>Kr (f▸I)
 unfold Ah at a
 obtain ⟨R,f⟩:∃R,b.bV=R:=⟨_,rfl⟩
 rw [f] at a
 induction R
 case d0=>
  exact fz (I6 A z y (by refine bT f ?_;rfl) fun v t=>F a rfl _ _ _ _ _ _ _ (by
    have aA:wC k b=b.a:=by unfold wC gd fa;refine bT f ?_;rfl
    rw [aA,f] at t;exact t))
 case iQ|g9|nv|sq|j0=>exact fz (I6 A z y (by refine bT f ?_;rfl) fun v t=>F a rfl _ _ _ _ _ _ _ (by unfold wC at t;rw [f] at t;exact t))
 case kB|uQ|uR=>
  exact lf a fun I T a=>by
   obtain ⟨C,ay,a⟩:=tm.mp a
   exact fz (R2 A z y (by refine bT f ?_;rfl) ((al f rfl).symm▸T) ay fun v t=>F (congrArg O a) rfl _ _ _ _ _ _ _ t)
 case kC|uS|uT|uU=>
  exact fc a fun C L w a=>lf a fun I T a=>by
   obtain ⟨aE,af,a⟩:=tm.mp a
   exact fz (R3 A z y aw (by refine bT f ?_;rfl) ((al f rfl).symm▸T) af w fun v t=>F (congrArg O a) rfl _ _ _ _ _ _ _ (by
     rw [al f rfl] at t;exact t))
 case gA=>exact fc a fun C L w a=>fz (R4 A z y f w fun v t=>F a rfl _ _ _ _ _ _ _ t)
 case kq=>exact fc a fun C L w a=>fz (R5 A z y f w fun v t=>F a rfl _ _ _ _ _ _ _ t)
 case dt=>exact fc a fun C L w a=>fc a fun aJ aI aF a=>fz (Pb A z y f (w.trans (congrArg (C:: ·) aF)) fun v t=>F a rfl _ _ _ _ _ _ _ t)
 case ew=>
  exact fc a fun C L w a=>by
   obtain ⟨aE,af,a⟩:=tm.mp a
   exact fz (Ks A z y f w af fun P v ah=>ao (congrArg O a) rfl P v ah)
 case cI=>exact fz (Pc A z y f fun v t=>F a rfl _ _ _ _ _ _ _ t)
 case eL=>exact fc a fun C L w a=>fz (Fc A z y f w fun v t=>F a rfl _ _ _ _ _ _ _ (w▸t))
 case hV=>exact fc a fun C L w a=>fz (yn A z y au (by refine bT f ?_;rfl) w (ag C (w▸fD)) fun v t=>F (G:=⟨cond (b.bV.eM (dI C)) b.t (Y+1),L,i,g⟩) a (by (refine bT f ?_;rw [xA]);rfl) _ _ _ _ _ _ _ t)
 case e5=>exact fc a fun C L w a=>fz (yn A z y au (by refine bT f ?_;rfl) w (ag C (w▸fD)) fun v t=>F (G:=⟨cond (b.bV.eM (dI C)) b.t (Y+1),L,i,g⟩) a (by (refine bT f ?_;rw [xB]);rfl) _ _ _ _ _ _ _ t)
 case gz=>exact fz (Pd A z y f T (av f) (fun am P v ah=>ao a (congrArg (zy g e i) am) P v ah) fun I am Q v h t=>F a (congrArg (zy g e i) am) _ _ _ _ _ _ _ t)
end
noncomputable def CX(a:Bool):Kd:=[(.inl 0,.b3 a),(.inl 1,.Z 5),(.inr "@x",.b3 (!a)),(.inr "$x",.bX)]
def FQ(a:Bool):DE (CX a):=lY.mpr ⟨⟨.b3 a,rfl,rfl⟩,lY.mpr ⟨⟨.Z 5,rfl,rfl⟩,lY.mpr ⟨⟨.b3 (!a),rfl,rfl⟩,List.forall_mem_singleton.mpr ⟨.bX,rfl,rfl⟩⟩⟩⟩
def Fd(a:Kd)(b:Sum Int b4)(c:bl):(gF a b c).length≤a.length+1:=by
 unfold gF
 split
 ·rw [et];exact fM _
 ·refine bT dZ ?_;exact dX _
def kN(b:List bl):Prop:=∀a∈b,k1 11 a
def AL{b c:List bl}(e:kN b)(d:kN c):kN (b++c):=fun a f=>(my.mp f).elim (e a) (d a)
def j9:kN [] :=fun b a=>absurd a gD
def u9(b:b4):kN [.ad b] :=fun c a=>by
 refine bT (ib.mp a) ?_;exact fC rfl
def AM{a:List bl}(c:a.all gh=ar):kN [.cQ a] :=fun f d=>by
 refine bT (ib.mp d) ?_;exact xS fun e b=>fC (lD.mp c e b)
def R6{a:bl}{b:Sum Int b4}(c:jM a=O b):gh a=ar:=by
 cases a<;>first|rfl|exact cG c
inductive CY(s:ek):Sum (List bl) ek→Prop
 |yV {pc:Nat} {st:List bl} {kd:Kd} {dd:Option bl} (h1:st.length≤s.jm.length+1) (h2:kd.length≤s.fU.length+1) (h4:kN dd.toList):CY s (.inr ⟨pc,st,kd,G7 s.en dd⟩)
 |gG {x:bl} (h:kN [x]):CY s (.inl (s.en++[x]))
def Wx(c:List bl)(e:Kd):nw→Prop
 |.cc b d a=>b.length≤c.length+1∧d.length≤e.length+1∧kN a.toList
 |.cI b _=>b.length≤c.length+1
 |.gG a=>kN [a]
 |.gz=>True
section
variable{e:Bool}{d:R}{a:List bl}{c:Kd}{b:nw}
def R7(h:wg d a c=O b):Wx a c b:=MW h fun i l m k f g j=>⟨f▸uL (fM _),Fd ..,AM (show (ar&&(gh (oG d)&&(ar&&ar)))=ar by refine bT (R6 g) ?_;rfl)⟩
def R8(g:yP d a c=O b):Wx a c b:=MV g fun i h f f=>⟨dX _,fM _,j9⟩
def R9:Ah e d a c=O b→Wx a c b:=by
 refine bU fun j=>?_
 obtain ⟨k,r,t,q,n,s⟩:=d
 refine j ?_;try clear j
 induction k
 case kB|uQ|uR=>exact R8
 case kC|uS|uT|uU=>exact R7
 case kq=>exact fun f=>fc f fun i h g f=>dT f ⟨g▸dX _,fM _,j9⟩
 case gA=>exact fun f=>fc f fun i h g f=>dT f ⟨g▸uL (fM _),fM _,j9⟩
 case dt=>exact fun f=>fc f fun i h g f=>fc f fun u o l f=>dT f ⟨by (refine bT g ?_;refine bT l ?_);exact fM _,fM _,j9⟩
 case hV|e5=>exact fun f=>fc f fun i h g f=>dT f (show h.length≤a.length+1 from g▸uL (fM _))
 case eL=>exact fun f=>fc f fun i h g f=>dT f (show (i::h).length≤a.length+1 from g▸fM _)
 case cI=>exact fun f=>dT f (fM a.length)
 case ew=>exact fun f=>fc f fun i h g f=>fV f fun p m=>AM rfl
 case gz=>exact fun f=>dT f trivial
 case nv|sq|j0=>exact fun f=>dT f ⟨dX _,fM _,u9 _⟩
 all_goals exact fun f=>dT f ⟨dX _,fM _,j9⟩
end
def VT{f:List Ct}{g:Bool}{e:Nat}{m:R}{b:ek}{c:Sum (List bl) ek}(i:eT f g e m b=O c):CY b c:=fV (d:=CY b) i fun l h=>by
 have a:=R9 h
 induction l with
 |cc k p j=>exact .yV a.1 a.2.1 a.2.2
 |cI k o=>exact .yV (dd:=b1) a (fM _) j9
 |gG j=>exact .gG a
 |gz=>exact nW (c:=CY b) (fun d=>.gG (u9 _)) fun n d=>.yV (dd:=O (.ad "fail")) (iF (by refine bT zc ?_;exact y8 ..)) (fM _) (u9 _)
def Kt{c:List bl}(b:kN c):∀{a:Option bl},kN a.toList→kN (G7 c a)
 |none,_=>b
 |some a,d=>AL b d
def Ed(a:List bl)(b:Option bl):(G7 a b).length≤a.length+1:=by
 induction b
 ·exact fM _
 ·exact jH (dZ ..)
def Zb{d b a c:Nat}(e:d≤b+1)(f:b+(a+1)≤c):d+a≤c:=cu (m7 e a) (cu (jH (y4 ..)) f)
def Ee{g:Nc}{m:Bool}:∀{a:Nat}{c:ek}{b:List bl×Bool},kZ g m a c=O b→kN c.en→kN b.1∧b.1.length≤c.en.length+a:=by
 intro a
 induction a with
 |zero=>
  intro c b f e
  exact dg f▸⟨e,dX _⟩
 |succ a d=>
  intro c b f e
  exact xr f fun s r o h h n i k=>by
   cases VT n with
   |gG j=>exact i _ rfl▸⟨AL e j,by refine bT dZ ?_;exact jq (iF (fy a)) _⟩
   |yV p q l=>
    have d:=d (k _ rfl) (Kt e l)
    exact ⟨d.1,cu d.2 (Zb (Ed ..) (dX _))⟩
section
variable{a:Nat}
def Pe{L:cK}(ak:L=vC cr (a+1))(Y:Hd){c:Cd}{ac:Bool}(al:c.a2.length≤500)(ab:c.b6.length≤500){W:Nat→Nat}(F:ed c.nc W)(X:fm c.nc ac){x:Bool}{Q:bl}{j:bS}{u:List bl×Bool}{K:KS}
  (A:∀C q,q.take j.length=j→u.2=ar→K (.cw (.f (.cQ [.a3 u.1,.b3 ar]))) C q) (I:∀b f e k m i l h,iZ j e f b.jm b.fU b.en→u=(b.en,b2)→K .cc (RL Y c Q x k (.Z (b:ek).pc) f j m i l h) e) (y:Nat):
  ∀(d:List bl){b:ek}{f:Nat}{e:bS}{k m i l h:Option bZ},Dm c.nc W b→iZ j e f b.jm b.fU b.en→b.jm.length+d.length≤y→b.en.length+d.length≤y→b.fU.length+d.length≤y→y≤1000→kZ c.nc x d.length b=O u→
  jZ (fG ⟨cr,L⟩ c1) [3] b2 K d (RL Y c Q x k (.Z b.pc) f j m i l h) e:=by
 intro d
 induction d with
 |nil=>
  intro b f e k m i l h g G s v w p n
  exact I b f e _ _ _ _ _ G (dg n).symm
 |cons av d aa=>
  intro b f e k m i l h g G s v w p n
  have ah:b.pc<c.a2.length:=by have:=F.kJ _ g.mH;unfold Cd.nc at this;rw [et] at this;exact this
  have R:c.a2[b.pc]? =O c.a2[b.pc] :=gS ah
  have r:=dF.mpr R
  refine bU fun T=>?_
  obtain ⟨az,P,ao⟩:=Ai F X (c:=x) g r
  refine T ?_;try clear T
  have am:=F.dh _ _ g.mH r
  rw [lZ,rk r,P] at n
  rw [lZ] at s v w
  have af:=VT P
  refine aap (ae:=jZ (fG ⟨cr,L⟩ c1) [3] b2 K d) ak al ab R (X _ _ r) P g.hM G (cu (fg ..) (cu s p)) (cu (fg ..) (cu v p)) (cu (fg ..) (cu w p)) (fun o ae aq an=>by refine bT g.cC ?_;exact am.gz o ae aq an) (fun aw o C q ai=>?_) fun t o ay q k m i l h ag=>?_
  ·subst o
   obtain rfl:=dg n
   exact A C q ai rfl
  ·subst o
   have z:t.jm.length≤b.jm.length+1∧t.en.length≤b.en.length+1∧t.fU.length≤b.fU.length+1:=by
    cases af with|yV A I au=>exact ⟨A,Ed ..,I⟩
   exact aa (ao t rfl) ag (Zb z.1 s) (Zb z.2.1 v) (Zb z.2.2 w) p n
def Wy(b:Int):cW:=.J (.eg [4,5,6,7] (.J (.bW 1) (.J (.a3 b2 .N) (.J (.a3 b2 .N) (.J (.d4 (.J (.Z 0) (.J (.bW 2) (.J (.Z 1) (.J (.Z 5) (.J (.ad "@x") (.J (.gn (.bW 2)) (.J (.ad "$x") (.J .bX .N))))))))) .N)))))
 (.J (.fT [3] b2 (.gb (.Z b)) c1) (.J (.cw (.cQ (.J (.pR (.bW 6)) (.J (.b3 b2) .N)))) .N))
def Hl(b:Int):dz:={x7 with cN:=.cA (Wy b)}
def Ku{f:gp}{b:bS}{K:KS}{e:bl}{c:Int}{d:Bool}(g:K .cc [O (.f e),O (.f (.Z c)),O (.f (.b3 d)),b1,O (.f (.Z c)),O (.cq b.length),O (.cq (b.length+1)),O (.cq (b++[O (dw.a3 []),O (.a3 [])]).length),b1,b1,b1,b1,b1] ((b++[O (dw.a3 []),O (.a3 [])])++[O (.d4 (CX d))])):
  vS f (.eg [4,5,6,7] (.J (.bW 1) (.J (.a3 b2 .N) (.J (.a3 b2 .N) (.J (.d4 (.J (.Z 0) (.J (.bW 2) (.J (.Z 1) (.J (.Z 5) (.J (.ad "@x") (.J (.gn (.bW 2)) (.J (.ad "$x") (.J .bX .N))))))))) .N))))) [O (.f e),O (.f (.Z c)),O (.f (.b3 d)),b1,b1,b1,b1,b1,b1,b1,b1,b1,b1] b K:=by
 refine aj (g4 (a:=b) (b:=[]) (fy _)) ?_
 refine aj (qQ (a:=b) (b:=[]) (fy _)) ?_
 exact g
def aaq{i:cK}(u:i=vC cr (a+1))(n:Hd){f:Cd}{w:Bool}(Q:f.a2.length≤500)(t:f.b6.length≤500){s:Nat→Nat}(q:ed f.nc s)(R:fm f.nc w){e:Nat}(p:e∈f.cp)(c:Bool)(d:Nat)(C:d≤500){h:List bl×Bool}(l:kZ f.nc c d ⟨e,[],CX c,[]⟩=O h){b:bS}{g:KE}(m:g (.f (.cQ [.a3 h.1,.b3 h.2])) b):
  Ag ⟨cr,i⟩ (Hl d) (Wy d) [.f (cf n f),.f (.Z e),.f (.b3 c)] b g:=by
 have K:Dm f.nc s ⟨e,[],CX c,[]⟩:=⟨.dH p,(q.dH e p).symm,(fun T P=>absurd P gD),FQ c⟩
 refine Ku ?_
 apply aj;exact ip (cu C (by decide))
 have L:(b++[O (dw.a3 []),O (.a3 [])])++[O (.d4 (CX c))] =b++[O (.a3 []),O (.a3 []),O (.d4 (CX c))] :=m8 ..
 have A:(b++[O (dw.a3 []),O (.a3 [])]).length=b.length+2:=by refine bT dZ ?_;rfl
 have x:kZ f.nc c (dL d).length ⟨e,[],CX c,[]⟩=O h:=by rw [li];exact l
 have o:=li d
 have F:=Pe (K:=Dl (fG ⟨cr,i⟩ (.J (.cw (.cQ (.J (.pR (.bW 6)) (.J (.b3 b2) .N)))) .N)) (lG (Hl d).cR b.length g)) (u:=h) (Q:=.Z e) (j:=b) (x:=c) u n Q t q R (fun X ab I v=>c8 (b:=g) (by rw [v] at m;exact m) I) (fun Y af j ac ag aa ae W r l=>by
  subst l
  apply aj;exact js r.en
  exact c8 (b:=g) m (qw r.ju (fM _))) (4+d) (dL d) (b:=⟨e,[],CX c,[]⟩) (f:=b.length) (e:=b++[O (.a3 []),O (.a3 []),O (.d4 (CX c))]) (k:=b1) (m:=b1) (i:=b1) (l:=b1) (h:=b1) K ⟨eo _ _ _,kM _ _ _ _,zB _ _ _ _ _,jB _ _,dX _,kW (h9 _),kW (B7 (by decide))⟩ (by refine bT o ?_;exact m7 (fy 4) d) (by refine bT o ?_;exact m7 (fy 4) d) (by refine bT o ?_;exact dX _) (by lia) x
 have z:∀(j:bS)(k:Nat),j=b++[O (.a3 []),O (.a3 []),O (.d4 (CX c))] →k=b.length+2→jZ (fG ⟨cr,i⟩ c1) [3] b2 (Dl (fG ⟨cr,i⟩ (.J (.cw (.cQ (.J (.pR (.bW 6)) (.J (.b3 b2) .N)))) .N)) (lG (Hl d).cR b.length g)) (dL d) [O (.f (cf n f)),O (.f (.Z e)),O (.f (.b3 c)),b1,O (.f (.Z e)),O (.cq b.length),O (.cq (b.length+1)),O (.cq k),b1,b1,b1,b1,b1] j:=fun j k G y=>by
  subst G y;exact F
 exact z _ _ L A
def VU(k:Hd){b:Cd}{n:Bool}(r:b.a2.length≤500)(l:b.b6.length≤500){i:Nat→Nat}(g:ed b.nc i)(j:fm b.nc n){e:Nat}(f:e∈b.cp)(c:Bool):
  ∃d,kZ b.nc c 26 ⟨e,[],CX c,[]⟩=O d∧PC (vC cr (a+2)) 61 [.f (cf k b),.f (.Z e),.f (.b3 c)] (.cQ [.a3 d.1,.b3 d.2]):=by
 have p:Dm b.nc i ⟨e,[],CX c,[]⟩:=⟨.dH f,(g.dH e f).symm,(fun s q=>absurd q gD),FQ c⟩
 obtain ⟨d,h⟩:=xw g j (c:=c) 26 p
 exact ⟨d,h,pf (d:=Hl 26) (h:=Wy 26) rfl rfl rfl rfl fun u m v t o=>aaq m k r l g j f c 26 (by decide) h o⟩
end
end
section
open PySem
def BM{c:bS}{a:List bl}(b:kN a):fh cr c .ne (.f (.a3 a)) (.f (.a3 a))=O b2:=by
 show (lE (.a3 a) (.a3 a)).map _=_
 unfold lE
 refine bT (show nt k5 (.a3 a) (.a3 a)=O ar from j8 b) ?_;rfl
section
variable{a:Nat}
def AN{G:cK}(x:G=vC cr (a+2))(s m:Hd){c b:Cd}{y:Bool}(ak:c.a2.length≤500)(T:c.b6.length≤500)(ao:b.a2.length≤500)(an:b.b6.length≤500)(al:b.cp.length≤500)(R:gk c y)(z:gk b y)(ah:fH c.nc b.nc)
  {f i Q:Nat} (C:c.cp[f]? =O i) (o:b.cp[f]? =O Q) (d:Bool) {e:bS} {n l p u:Option bZ} {K:KS} (w:∀n l p u,K .cc [O (.f (cf s c)),O (.f (cf m b)),O (.f (.Z f)),O (.f (.Z i)),O (.f (.b3 d)),n,l,p,u] e):
  fG ⟨cr,G⟩ mD [O (.f (cf s c)),O (.f (cf m b)),O (.f (.Z f)),O (.f (.Z i)),O (.f (.b3 d)),n,l,p,u] e K:=by
 refine bU fun I=>?_
 obtain ⟨av,af⟩:=R.gK
 obtain ⟨au,Y⟩:=z.gK
 obtain ⟨h,P,ag⟩:=VU (a:=a) s ak T af R.cF (gj C) d
 obtain ⟨ac,F,aa⟩:=VU (a:=a) m ao an Y z.cF (gj o) d
 obtain ⟨j,ai,A⟩:=ah.2 f i Q C o d (CX d) 26 h (FQ d) P
 obtain rfl:j=ac:=dg (ai.symm.trans F)
 obtain ⟨q,k⟩:=Ee P j9
 obtain ⟨ab,t⟩:=Ee F j9
 refine I ?_;try clear I
 rw [List.length_nil,kU] at k t
 have r:j.1.take h.1.length=h.1:=(List.prefix_iff_eq_take.mp A.1).symm
 have g:=A.2
 refine pc x ag ?_
 apply aj;exact hB (d:=e8) o al
 refine pc x aa ?_
 generalize h.1=L at q k r g⊢
 generalize h.2=ae at g⊢
 generalize j.1=v at ab t r g⊢
 generalize j.2=aq at g⊢
 apply aj;exact xQ (cu k (by decide))
 have X:∀e,jY e ar (.f (.a3 v)) (.f .bX) (.f (.Z L.length))=O (.f (.a3 L),e):=fun e=>by
  (refine bT (xU (a:=v) rfl (cu t (by decide)) (cu k (by decide))) ?_;refine bT r ?_;rfl)
 apply aj;exact X _
 apply aj;exact BM q
 induction ae with
 |false=>exact w _ _ _ _
 |true=>
  obtain ⟨am,W⟩:=g rfl
  (refine bT am ?_;refine bT W ?_)
  apply aj;exact BM q
  exact w _ _ _ _
def vB(f e:Hd){c b:Cd}{y:Bool}(A:c.a2.length≤500)(v:c.b6.length≤500)(I:b.a2.length≤500)(F:b.b6.length≤500)(r:c.cp.length≤500)(G:gk c y)(z:gk b y)(l:fH c.nc b.nc):
  PC (vC cr (a+3)) 62 [.f (cf f c),.f (cf e b)] (.b3 ar):=pf rfl rfl rfl rfl fun ae w X W Q=>by
 have k:c.cp.length=b.cp.length:=l.1
 have o:b.cp.length≤500:=k▸r
 apply aj;exact eZ (d:=e8) r
 apply aj;exact eZ (d:=e8) o
 refine ee (by (refine bT k ?_;refine bT (show ((b.cp.length:Int)==(b.cp.length:Int))=ar from beq_self_eq_true _) ?_);rfl) ?_
 apply aj;exact m3 (b:=e8) r
 refine wo (fun q m=>∃n i g t s u h,q=[O (.f (cf f c)),O (.f (cf e b)),n,i,g,t,s,u,h] ∧m=X) (fun aa q m ab K p R=>?_) ⟨_,_,_,_,_,_,_,rfl,rfl⟩ fun q m p=>?_
 ·refine bU fun d=>?_
  obtain ⟨n,i,g,t,s,u,h,rfl,rfl⟩:=p
  obtain ⟨x,ac,j,rfl⟩:=DU (e:=e8) K
  refine d ?_;try clear d
  have C:b.cp[x]? =O (b.cp[x]'(k▸(fJ.mp j).1)):=gS _
  refine AN w f e A v I F o G z l j C b2 fun P L T Y=>?_
  refine AN w f e A v I F o G z l j C ar fun P L T Y=>?_
  exact R _ _ ⟨_,_,_,_,_,_,_,rfl,rfl⟩
 ·refine bU fun d=>?_
  obtain ⟨n,i,g,t,s,u,h,rfl,rfl⟩:=p
  refine d ?_;try clear d
  exact c8 (b:=W) Q eO
end
noncomputable def yW:Op→List b4
 |.d0=>["v"] |.nv=>["t"] |.kB=>["c","c"] |.kC=>["c","c"] |.uQ|.uS|.uR|.uT|.uU|.sq=>["n"] |.cI|.hV|.e5|.eL=>["p"] |.j0=>["c"] |.gz _=>["n","t"]
 |_=>[]
section
variable{d:Nat}{e:bS}
def aar(a:Op):jX cr e (.f (.ob 0)) (.f (.ad a.cT))=O (.cQ [.Z a.c0,.Z a.fS]):=by
 induction a<;>kernel_rfl
def Pf(a:R):PC (vC cr (d+1)) 6 [.f (eR a)] (.cQ [.Z a.bV.c0,.Z a.bV.fS]):=pf rfl rfl rfl rfl fun g f e b c=>by
 apply aj;exact aar a.bV
 exact c8 (b:=b) c eO
def s8(a:Int):PC (vC cr (d+1)) 7 [.f (.Z a)] (.b3 ar):=pf rfl rfl rfl rfl fun g f e b c=>c8 (b:=b) c eO
def BN{f b:bl}{c:b4}(g:∀(e:bS)(a:KE),vC cr (d+2) 8 [.f f,.f (.ad c),.f b] e a=a (.f (.b3 ar)) (e.take e.length)):PC (vC cr (d+2)) 8 [.f f,.f (.ad c),.f b] (.b3 ar):=⟨fun e a h=>by
 (rewrite [g];refine bT eO ?_);exact h⟩
def VV(b:bl)(a:b4):PC (vC cr (d+2)) 8 [.f b,.f (.ad "n"),.f (.ad a)] (.b3 ar):=BN (by intro e c;kernel_rfl)
def VW(b:bl)(a:b4):PC (vC cr (d+2)) 8 [.f b,.f (.ad "t"),.f (.ad a)] (.b3 ar):=BN (by intro e c;kernel_rfl)
def aas(b a:bl):PC (vC cr (d+2)) 8 [.f b,.f (.ad "v"),.f a] (.b3 ar):=BN (by intro e c;kernel_rfl)
def VX{f:bl}{a:Nat}{c:b4}(h:∀(e:bS)(b:KE),vC cr (d+2) 8 [.f f,.f (.ad c),.f (.Z a)] e b=b (.f (.b3 (dY (0≤(a:Int))))) ((e.take e.length).take e.length)):PC (vC cr (d+2)) 8 [.f f,.f (.ad c),.f (.Z a)] (.b3 ar):=⟨fun e b g=>by
 (rewrite [h];refine bT eO ?_;refine bT eO ?_;refine bT (decide_eq_true (sb a)) ?_);exact g⟩
def CZ(a:bl)(b:Nat):PC (vC cr (d+2)) 8 [.f a,.f (.ad "c"),.f (.Z b)] (.b3 ar):=VX (by intro e c;kernel_rfl)
def aat(a:bl)(b:Nat):PC (vC cr (d+2)) 8 [.f a,.f (.ad "p"),.f (.Z b)] (.b3 ar):=VX (by intro e c;kernel_rfl)
def Hm(d:Nat)(h:R)(g:List b4)(f:List bl):Prop:=∀(a:Nat)(c:b4),g[a]? =O c→∃b,f[a]? =O b∧PC (vC cr (d+2)) 8 [.f (eR h),.f (.ad c),.f b] (.b3 ar)
def Hm.N{c:R}{a:List bl}:Hm d c [] a:=fun f g b=>cG b
def Hm.J{f:R}{i:b4}{h:List b4}{b:bl}{g:List bl}(j:PC (vC cr (d+2)) 8 [.f (eR f),.f (.ad i),.f b] (.b3 ar))(k:Hm d f h g):Hm d f (i::h) (b::g):=fun c l a=>match c,a with
 | 0,a=>⟨b,rfl,dg a▸j⟩
 |c+1,a=>k c l a
def XK{x:Bool}{i:R}(j:i.cF x=ar):Hm d i (yW i.bV) [fa i,i.b,i.c] ∧∀l∈([fa i,i.b,i.c] :List bl).drop (yW i.bV).length,l=.bX:=by
 unfold R.cF at j
 have o:i.bV.b8=b2→fa i=i.a:=fun r=>by unfold fa;rw [if_neg (by refine bT r ?_;exact kx)]
 have p:∀{g a:bl},dW g=ar→dW a=ar→∀l∈ [g,a],l=.bX:=fun s q l m=>by
  rcases eP.mp m with rfl|m
  ·exact iA s
  ·exact iA (ib.mp m▸q)
 have u:∀{a:bl},dW a=ar→∀l∈ [a],l=.bX:=fun q l m=>iA (ib.mp m▸q)
 have y:∀{k g a:bl},dW k=ar→dW g=ar→dW a=ar→∀l∈ [k,g,a],l=.bX:=fun z s q l m=>by
  rcases eP.mp m with rfl|m
  ·exact iA z
  ·exact p s q l m
 obtain ⟨t,v⟩:∃t,i.bV=t:=⟨_,rfl⟩
 rw [v] at j o⊢
 have n:∀{k g a:Bool},(k&&g&&a)=ar→k=ar∧g=ar∧a=ar:=fun {k g a} j=>by
  induction k<;>induction g<;>induction a<;>first|exact ⟨rfl,rfl,rfl⟩|exact dy j
 have w:∀{k g a d:Bool},(k&&g&&a&&d)=ar→k=ar∧g=ar∧a=ar∧d=ar:=fun {k g a d} j=>by
  induction k<;>induction g<;>induction a<;>induction d<;>first|exact ⟨rfl,rfl,rfl,rfl⟩|exact dy j
 induction t
 case d0=>obtain ⟨c,h,f⟩:=n j;exact ⟨.J (aas _ _) .N,p h f⟩
 case nv=>
  refine bU fun b=>?_
  obtain ⟨c,h,f⟩:=n j
  refine b ?_;try clear b
  refine bT (o rfl) ?_
  rcases nR.mp c with c|c<;>refine bT (j1 c) ?_<;>exact ⟨.J (VW _ _) .N,p h f⟩
 case uQ|uS|uR|uT|uU|sq=>
  refine bU fun b=>?_
  obtain ⟨c,h,f⟩:=n j
  refine b ?_;try clear b
  (refine bT (o rfl) ?_;refine bT (j1 c) ?_)
  exact ⟨.J (VV _ _) .N,p h f⟩
 case cI|hV|e5|eL=>
  refine bU fun b=>?_
  obtain ⟨c,h,f⟩:=n j
  refine b ?_;try clear b
  rw [fi (a:=i) (by refine bT v ?_;rfl)]
  exact ⟨.J (aat _ _) .N,p h f⟩
 case j0=>
  refine bU fun b=>?_
  obtain ⟨_,c,h,f⟩:=w j
  refine b ?_;try clear b
  (refine bT (o rfl) ?_;refine bT (mG c) ?_)
  exact ⟨.J (CZ _ 0) .N,p h f⟩
 case kB|kC=>
  refine bU fun b=>?_
  obtain ⟨c,h,f⟩:=n j
  refine b ?_;try clear b
  (refine bT (o rfl) ?_;refine bT (mG c) ?_)
  rcases tw h with r|r<;>refine bT r ?_
  ·exact ⟨.J (CZ _ 0) (.J (CZ _ 0) .N),u f⟩
  ·exact ⟨.J (CZ _ 0) (.J (CZ _ 1) .N),u f⟩
 case gz=>
  refine bU fun b=>?_
  obtain ⟨c,h,f⟩:=n j
  refine b ?_;try clear b
  (refine bT (o rfl) ?_;refine bT (j1 c) ?_;refine bT (j1 h) ?_)
  exact ⟨.J (VV _ _) (.J (VW _ _) .N),u f⟩
 all_goals (obtain ⟨c,h,f⟩:=n j;refine bT (o rfl) ?_;exact ⟨.N,y c h f⟩)
end
structure RC(C:cK)(k:Nat)(args:List bZ)(x:bl)(σ AO:bS):Prop where
 eI:∀Q:KE,Q (.f x) AO→C k args σ Q
def rc{g d:cK}{f:Nat}{b:List bZ}{h:bl}{e c:bS}(i:g=d)(k:RC d f b h e c){a:KE}(j:a (.f h) c):g f b e a:=i▸k.eI a j
def rf{j d:Nat}{e h:List bZ}{c:dz}{i:cW}{k:bl}{g f:bS}(m:cr.p9[d]? =O c)(n:c.cN=.cA i)(q:l5 c e=O h)(l:jJ d 1000=ar)(r:∀(b:cK),b=vC cr j→∀(a:KE),a (.f k) f→Ag ⟨cr,b⟩ c i h g a):RC (vC cr (j+1)) d e k g f:=
 ⟨fun a p=>Hi (fun b o=>r b o a p) m n q l⟩
structure zK(σ:bS)(i:Nat)(h:Hd)(c:Cd)(Do:List bl)(jd jw:Nat):Prop where
 jv:zv cr σ (.fK i) "code"=O (.f (cf h c))
 Do:zv cr σ (.fK i) "seen"=O (.f (.a3 Do))
 AP:zv cr σ (.fK i) "depths"=O (.cq jd)
 BO:zv cr σ (.fK i) "waiting"=O (.cq jw)
def zK.eI{e:bS}{c f d:Nat}{h:Hd}{b:Cd}{g:List bl}(a:e[c]? =O (O (.jW 3 [.f (cf h b),.f (.a3 g),.cq f,.cq d]))):zK e c h b g f d:=by
 have a:=wq a
 constructor<;>exact congrArg (jG · _) a
def Wz(b:Op):bl:=match cr.ll[1]? with
 |some a=>(a.lookup b.cT).getD (.ad "")
 |none=>.bX
section
variable{d:Nat}{a:bS}{fz:Bool}
def HX(b:Op):fh cr a .fY (.f (.ad b.cT)) (.f (.ob 0))=O b2:=by induction b<;>kernel_rfl
def Pg(b:Op):w1 ar (.f (Wz b))=O (eV ((yW b).map .ad)):=by induction b<;>kernel_rfl
def Sa(b:Op):eW a fz 0 [.f (Wz b)] =O (.f (.Z (yW b).length),a):=by induction b<;>kernel_rfl
def Ph(b:Op):(yW b).length≤2:=by induction b<;>exact er rfl
def wD:fh cr a .ne (.f (.a3 [])) (.f (.a3 []))=O b2:=by
 show (lE _ _).map _=_
 unfold lE;rfl
def Kv{i:cV→bS→List bl→KL→Prop}{j:List Nat}{k:Bool}{h:cV}{b:List bl}(o:∀K:KL,K b a→jP h j k .bX fun n=>i n a b K){K:KL}:∀{c:List bl},(∀e∈c,e=.bX)→K b a→og i h j k c a b K:=by
 intro c
 induction c with
 |nil=>
  intro _ f
  exact f
 |cons e q l=>
  intro g f
  exact g e fD▸o _ (l (fun p m=>g p (ia _ m)) f)
def XL{q:Bool}{b:R}(I:b.cF q=ar){z:Hd}{e:Cd}{f p w h:Nat}{x:List bl}(K:zK a f z e x p w)(y:e.a2.length≤500)(L:b.bV.b8=ar→b.t<e.a2.length):RC (vC cr (d+3)) 12 [.fK f,.f (.Z h),.f (eR b)] .bX a a:=rf rfl rfl rfl rfl fun W o k g=>by
 obtain ⟨u,j⟩:=XK (d:=d) I
 refine ee (dg (HX (a:=a) b.bV)) ?_
 apply aj;exact Pg b.bV
 refine Fz (fun P=>a) (fun _ (c:Option bZ×Option bZ)=>[O (.fK f),O (.f (.Z h)),O (.f (eR b)),O (.f (Wz b.bV)),O (.f (.cQ [fa b,b.b,b.c])),c.1,c.2,b1]) (a:=(b1,b1)) (fun t s c T G v=>?_) fun c=>?_
 ·refine bU fun l=>?_
  obtain ⟨Q,n,C⟩:=u t s G
  refine l ?_;try clear l
  apply aj;exact IU n (er rfl)
  exact pc o C (v (_,_))
 have i:=cu (Ph b.bV) (er rfl:2≤3)
 have r:jY a ar (.f (.cQ [fa b,b.b,b.c])) (.f (.Z (yW b.bV).length)) (.f .bX)=O (.f (.cQ ([fa b,b.b,b.c].drop (yW b.bV).length)),a):=by
  unfold jY
  (refine bT (bnd (cu i (er rfl))) ?_;refine bT (show rO (.f .bX)=O b1 from rfl) ?_;rw [tn,tn])
  exact if_pos ⟨i,er rfl⟩
 apply aj;exact Sa b.bV
 apply aj;exact r
 have m:([fa b,b.b,b.c].drop (yW b.bV).length).length≤3:=by refine bT zc ?_;exact y8 _ _
 generalize [fa b,b.b,b.c].drop (yW b.bV).length=X at j m⊢
 apply aj;exact FA (cu m (er rfl))
 refine Kv (fun K F=>?_) j ?_
 ·exact F
 apply aj;exact wD
 apply aj;exact om b.bV
 refine cD (fun c=>?_) fun c=>?_
 ·apply aj;exact K.jv
  apply aj;exact eZ y
  have A:fh cr a .mC (.f (fa b)) (.f (.Z e.a2.length))=O b2:=by
   refine bT (fi c) ?_
   exact congrArg O (decide_eq_false (GU.mpr (kY.mpr (L c))))
  apply aj;exact A
  exact c8 (b:=k) g eO
 ·refine ee c ?_
  exact c8 (b:=k) g eO
end
section
variable{d:Nat}{c:bS}
def Sb{o:Bool}{a:R}(g:a.cF o=ar)(C:a.bV=.kB∨a.bV=.kC){b:Hd}{f:Cd}{i n y w:Nat}{e:List bl}(K:zK c i b f (cf b f::e) n y)(F:e.length≤5){q G:bl}(u:b.gc=.a3 [q,G]):RC (vC cr (d+1)) 13 [.fK i,.f (.Z w),.f (eR a)] .bX c c:=rf rfl rfl rfl rfl fun L h z v=>by
 have A:fa a=.Z 0∧sr a.b=ar:=by
  unfold R.cF at g
  unfold fa
  rcases C with h|h<;>rw [h] at g⊢ <;>obtain ⟨g,P⟩:=iX.mp g<;>obtain ⟨r,x⟩:=iX.mp g<;>exact ⟨mG r,x⟩
 obtain ⟨j,m⟩:=A
 have k:(cf b f::e).length≤100000:=iF (cu F (er rfl))
 have t:fh cr c .mC (.f (fa a)) (.f (.Z (cf b f::e).length))=O b2:=by
  refine bT j ?_
  exact congrArg O (decide_eq_false (GU.mpr (kY.mpr (nI e.length))))
 have p:jX cr c (.f (.a3 (cf b f::e))) (.f (fa a))=O (cf b f):=by
  refine bT j ?_;exact qu (c:=0) rfl k
 have s:fh cr c .mC (.f a.b) (.f (.Z 2))=O b2:=by rcases tw m with l|l<;>refine bT l ?_<;>rfl
 have I:eW c ar 0 [.f b.gc] =O (.f (.Z 2),c):=by refine bT u ?_;rfl
 apply aj;exact K.Do
 apply aj;exact xQ k
 apply aj;exact t
 apply aj;exact K.Do
 apply aj;exact p
 apply aj;exact I
 apply aj;exact s
 exact c8 (b:=z) v eO
def AQ{e b:bl}(f:∀(c:bS)(a:KE),vC cr (d+1) 9 [.f e] c a=a (.f b) (c.take c.length)):PC (vC cr (d+1)) 9 [.f e] b:=⟨fun c a g=>by
 (rewrite [f];refine bT eO ?_);exact g⟩
def Sd{a:R}(f:a.bV≠ .j0):PC (vC cr (d+1)) 9 [.f (eR a)] .bX:=by
 refine bU fun b=>?_
 obtain ⟨e,k,l,j,g,i⟩:=a
 refine b ?_;try clear b
 induction e<;>first|exact absurd rfl f|exact AQ (by intro c h;kernel_rfl)
def Kw{a:R}(b:a.bV=.j0):PC (vC cr (d+1)) 9 [.f (eR a)] (.cQ [a.a,.ad "block"]):=by
 obtain ⟨f,i,k,h,e,g⟩:=a
 dsimp only at b
 subst b
 exact AQ (by intro c j;kernel_rfl)
def C0{i:Bool}{b:R}(e:b.cF i=ar){h:Hd}{L:Cd}{n v F A:Nat}{G:List bl}(K:zK c n h L G v F){g:List pd}(l:h.fB=g.map ez)(T:g.length≤5)(t:i=ar→g≠ [])(u:∀w∈g,w.1.dm=.ad "block"):RC (vC cr (d+2)) 14 [.fK n,.f (.Z A),.f (eR b)] .bX c c:=rf rfl rfl rfl rfl fun X m p o=>by
 by_cases k:b.bV=.j0
 ·refine pc m (Kw k) ?_
  have I:i=ar∧b.a=.Z 0:=by
   unfold R.cF at e
   rw [k] at e
   have ⟨e,_⟩:=iX.mp e
   have ⟨e,_⟩:=iX.mp e
   have ⟨y,C⟩:=iX.mp e
   exact ⟨y,mG C⟩
  refine bU fun q=>?_
  obtain ⟨s,j⟩:=I
  obtain ⟨a,f,rfl⟩:∃a f,g=a::f:=List.exists_cons_of_ne_nil (t s)
  refine q ?_;try clear q
  have P:fh cr c .gm (.f (.Z 0)) (.f b.a)=O ar:=by refine bT j ?_;rfl
  have z:fh cr c .jL (.f b.a) (.f (.Z (a::f).length))=O ar:=by
   refine bT j ?_;exact congrArg O (decide_eq_true (kY.mpr (nI f.length)))
  have r:(a::f).length≤500:=cu T (er rfl)
  have x:jX cr c (.f (.a3 h.fB)) (.f b.a)=O (ez a):=by (refine bT j ?_;refine bT l ?_);exact hB (e:=0) rfl r
  have W:eW c ar 0 [.f (.a3 h.fB)] =O (.f (.Z (a::f).length),c):=by refine bT l ?_;exact eZ r
  have Q:fh cr c .ne (.f a.1.dm) (.f (.ad "block"))=O b2:=by refine bT (u a fD) ?_;kernel_rfl
  apply aj;exact P
  apply aj;exact K.jv
  apply aj;exact W
  apply aj;exact z
  apply aj;exact K.jv
  apply aj;exact x
  apply aj;exact Q
  exact c8 (b:=p) o eO
 ·refine pc m (Sd k) ?_
  exact c8 (b:=p) o eO
end
noncomputable def oP(c:Nat→Nat)(b:Nat→Bool)(a:Nat):bl:=cond (b a) (.Z (c a)) .bX
def iN(a:Nat)(c:Nat→Nat)(b:Nat→Bool):List bl:=(f5 a).map (oP c b)
noncomputable def tG(c:Nat→Bool)(b:Nat):Nat→Bool:=fun a=>c a||b==a
noncomputable def AR(c:Nat→Bool)(b:List Nat)(a:Nat):List Nat:=cond (c a) b (b++[a])
def NM{b:Nat→Bool}{a:Nat}(e:b a=ar):tG b a=b:=funext fun d=>by
 unfold tG
 by_cases c:a=d
 ·(refine gT c ?_;refine bT e ?_);rfl
 ·(refine bT (show (a==d)=b2 from beq_eq_false_iff_ne.mpr c) ?_;rw [vK])
def mZ{a:Nat}{c:Nat→Nat}{b:Nat→Bool}:(iN a c b).length=a:=by unfold iN;(rewrite [et];refine bT pk ?_;rfl)
def tH{c a:Nat}{b:Nat→Nat}{d:Nat→Bool}(e:a<c):(iN c b d)[a]? =O (oP b d a):=by
 unfold iN;rw [i4,L6 e];rfl
def Pi{f b:Nat}{e:Nat→Nat}{g:Nat→Bool}:(iN f e g).set b (.Z (e b))=iN f e (tG g b):=by
 refine vQ fun c=>?_
 rw [Mb]
 by_cases d:c<f
 ·(refine bT (tH d) ?_;refine bT (tH d) ?_)
  unfold oP tG
  by_cases a:b=c
  ·(refine bT (if_pos a) ?_;refine bT (if_pos (mZ.symm▸a.symm▸d)) ?_;refine gT a ?_;rw [beq_self_eq_true,Tv]);rfl
  ·(refine bT (if_neg a) ?_;refine bT (show (b==c)=b2 from beq_eq_false_iff_ne.mpr a) ?_;rw [vK])
 ·have h:(iN f e g)[c]? =b1:=Gl (mZ.symm▸ra d)
  have i:(iN f e (tG g b))[c]? =b1:=Gl (mZ.symm▸ra d)
  (refine bT h ?_;refine bT i ?_)
  by_cases a:b=c
  ·(refine bT (if_pos a) ?_;refine bT (if_neg (mZ.symm▸a.symm▸d)) ?_;rfl)
  ·(refine bT (if_neg a) ?_;rfl)
def CH(a:bS)(f:Hd)(b:Cd)(e:List bl)(d:Nat→Nat)(g:Nat→Bool)(c:List Nat):bS:=a++[O (.a3 (iN b.a2.length d g)),O (.a3 (cU c)),O (.jW 3 [.f (cf f b),.f (.a3 e),.cq a.length,.cq (a.length+1)])]
section
variable{i:Nat}{a:bS}{h:Hd}{d:Cd}{g:List bl}{b:Nat→Nat}{c:Nat→Bool}{e:List Nat}
def CH.k3:zK (CH a h d g b c e) (a.length+2) h d g a.length (a.length+1):=zK.eI (zB _ _ _ _ _)
def CH.cC:(CH a h d g b c e).length=a.length+3:=dZ
def CH.ju{j:Nat→Bool}{f:List Nat}:(CH a h d g b c e).take (CH a h d g b j f).length=CH a h d g b c e:=Cb (by (refine bT CH.cC ?_;refine bT CH.cC ?_);exact dX _)
def CH.AS:(CH a h d g b c e)[a.length]? =O (O (.a3 (iN d.a2.length b c))):=eo _ _ _
def CH.wai:(CH a h d g b c e)[a.length+1]? =O (O (.a3 (cU e))):=kM _ _ _ _
def CH.aau{f:Nat→Bool}:(CH a h d g b c e).set a.length (O (.a3 (iN d.a2.length b f)))=CH a h d g b f e:=kk _ _ _ _
def CH.zE{f:List Nat}:(CH a h d g b c e).set (a.length+1) (O (.a3 (cU f)))=CH a h d g b c f:=zC _ _ _ _ _
def Se(q:d.a2.length≤500)(y:e.length≤1000){f:Nat}(m:f<d.a2.length){n:Int}(r:n=b f)(x:bl):RC (vC cr (i+2)) 11 [.fK (a.length+2),.f (.Z f),.f (.Z n),.f x] .bX (CH a h d g b c e) (CH a h d g b (tG c f) (AR c e f)):=rf rfl rfl rfl rfl fun F s p k=>by
 subst r
 have K:zK (CH a h d g b c e) (a.length+2) h d g a.length (a.length+1):=CH.k3
 have o:(iN d.a2.length b c).length≤100000:=mZ.symm▸cu q (er rfl)
 have t:jX cr (CH a h d g b c e) (.cq a.length) (.f (.Z f))=O (oP b c f):=zD CH.AS (tH m) o
 refine pc s (s8 _) ?_
 apply aj;exact K.jv
 apply aj;exact eZ q
 refine ee (congrArg (! ·) (decide_eq_true (kY.mpr m))) ?_
 apply aj;exact K.AP
 apply aj;exact t
 have v:c f=ar∨c f=b2:=F9 _
 have u:l4 (CH a h d g b c e) (.cq a.length) (.f (.Z f)) (.f (.Z (b f)))=O (CH a h d g b (tG c f) e):=by
  rw [FD CH.AS (by refine bT mZ ?_;exact m) o,Pi,CH.aau]
 have A:zK (CH a h d g b (tG c f) e) (a.length+2) h d g a.length (a.length+1):=CH.k3
 have C:jN cr (CH a h d g b (tG c f) e) (.cq (a.length+1)) "append"=O .eJ:=dK CH.wai
 have z:jk cr (CH a h d g b (tG c f) e) .eJ (.cq (a.length+1)) [.f (.Z f)] =O (.f .bX,CH a h d g b (tG c f) (e++[f])):=by
  rw [io CH.wai (by unfold cU;rw [et];exact cu y (er rfl)),py,CH.zE]
 rcases v with j|j
 ·have l:fh cr (CH a h d g b c e) .wb (.f (oP b c f)) (.f .bX)=O b2:=by unfold oP;refine bT j ?_;rfl
  have w:fh cr (CH a h d g b c e) .ne (.f (oP b c f)) (.f (.Z (b f)))=O b2:=by
   unfold oP;refine bT j ?_
   exact congrArg O (congrArg (! ·) (beq_self_eq_true _))
  rw [NM j,show AR c e f=e by unfold AR;refine bT j ?_;rfl] at k
  refine ee (dg l) ?_
  apply aj;exact w
  exact c8 (b:=p) k eO
 ·have l:fh cr (CH a h d g b c e) .wb (.f (oP b c f)) (.f .bX)=O ar:=by unfold oP;refine bT j ?_;rfl
  rw [show AR c e f=e++[f] by unfold AR;refine bT j ?_;rfl] at k
  refine gL (dg l) ?_
  apply aj;exact K.AP
  apply aj;exact u
  apply aj;exact A.BO
  apply aj;exact C
  apply aj;exact z
  exact c8 (b:=p) k CH.ju
end
def AT(b:Nat)(a:Ct):Prop:=(a.mF=.ad "rescue"∨a.mF=.ad "ensure")∧(a.d1<a.iz)∧(a.iz≤b)∧(a.cP<b)
section
variable{c:Nat}{a:Ct}(b:AT c a)
include b
def AT.mF:a.mF=.ad "rescue"∨a.mF=.ad "ensure":=b.1
def AT.jL:a.d1<a.iz:=b.2.1
def AT.gm:a.iz≤c:=b.2.2.1
def AT.cP:a.cP<c:=b.2.2.2
end
section
variable{i:Nat}{a:bS}{d:Hd}{b:Cd}{h:List bl}{c g e:Nat}
def Pj:fh cr a .ft (.f (.b3 b2)) (.f (.a3 [.b3 ar,.b3 ar,.b3 ar,.b3 ar]))=O b2:=by kernel_rfl
def Sf{f:bl}(d:f=.ad "rescue"∨f=.ad "ensure"):fh cr a .fY (.f f) (.f (.cQ [.ad "rescue",.ad "ensure"]))=O b2:=by rcases d with rfl|rfl<;>kernel_rfl
def yX(K:zK a c d b h g e)(q:b.a2.length≤500)(m:b.b6.length≤500)(o:∀l∈b.b6,AT b.a2.length l):RC (vC cr (i+2)) 16 [.fK c] .bX a a:=rf rfl rfl rfl rfl fun v j p n=>by
 apply aj;exact K.jv
 apply aj;exact eh m
 refine qe (fun t=>a) (fun _ (f:Option bZ×Option bZ×Option bZ)=>[O (.fK c),f.1,f.2.1,f.2.2,b1]) (a:=(b1,b1,b1)) (fun u l f w r s=>?_) fun f=>?_
 ·have k:=o l (gj r)
  apply aj;exact K.jv
  apply aj;exact eZ q
  refine pc j (s8 _) ?_
  refine pc j (s8 _) ?_
  refine pc j (s8 _) ?_
  refine pc j (s8 _) ?_
  apply aj;exact Pj
  apply aj;exact Sf k.mF
  refine gL (decide_eq_true (kY.mpr k.jL)) ?_
  refine ee (congrArg (! ·) (decide_eq_true (pN.mpr k.gm))) ?_
  refine ee (congrArg (! ·) (decide_eq_true (kY.mpr k.cP))) ?_
  exact s (_,_,_)
 ·exact c8 (b:=p) n eO
end
def NN{j c n:Type}{q:cV→bS→KS→Prop}{p:List Nat}{s:Bool}{o:j→bl}{K:KS}(f:c→j→c)(g:c→Prop)(h:c→bS)(k:n→cV):∀{d:List j}{a:c}{b:n},
  (∀(a:c)(e:j)(b:n)(i:cV→bS→Prop),e∈d→g a→(g (f a e)→∀b,i (k b) (h (f a e)))→jP (k b) p s (o e) fun v=>q v (h a) (jQ i K))→
  g a→(g (d.foldl f a)→∀b,K .cc (k b) (h (d.foldl f a)))→jZ q p s K (d.map o) (k b) (h a):=by
 intro d
 induction d with
 |nil=>
  intro _ _ _ m l
  exact l m _
 |cons e z t=>
  intro a b r m l
  exact r a e b _ fD m fun w y=>t (fun a x b i u=>r a x b i (ia _ u)) w l
abbrev DW:=(Nat→Bool)×List Nat
def f3(a:DW)(b:Nat):DW:=(tG a.1 b,AR a.1 a.2 b)
def mO(b:Cd)(a:DW):Nat:=a.2.length+ww b.a2.length a.1
structure vD(c:Cd)(s:DW):Prop where
 pX:∀p,s.1 p=ar→cx c.nc p
 rz:∀p∈s.2,s.1 p=ar
 zF:mO c s≤c.a2.length
def Ef{b:DW}{c a:Nat}(d:b.1 a=ar):(f3 b c).1 a=ar:=by
 show (b.1 a||c==a)=ar
 refine bT d ?_;rfl
def Eg{b:DW}{a:Nat}:(f3 b a).1 a=ar:=by
 show (b.1 a||a==a)=ar
 rw [beq_self_eq_true,Tv]
def NO{c:DW}{d b:Nat}(a:(f3 c d).1 b=ar):c.1 b=ar∨d=b:=by
 rcases nR.mp (show (c.1 b||d==b)=ar from a) with a|a
 ·exact .inl a
 ·exact .inr (beq_iff_eq.mp a)
def Hn{a:DW}{b:Nat}(c:a.1 b=b2):(f3 a b).2=a.2++[b] :=by unfold f3 AR;refine bT c ?_;rfl
def M6{a:DW}{c:Nat}(b:a.1 c=ar):f3 a c=a:=by unfold f3 AR;(refine bT (NM b) ?_;refine bT b ?_);rfl
def Sg{b:DW}{c e:Nat}(a:(f3 b c).1 e=ar):b.1 e=ar∨e∈(f3 b c).2:=by
 rcases F9 (b.1 c) with d|d
 ·rw [M6 d] at a;exact .inl a
 ·rcases NO a with a|rfl
  ·exact .inl a
  ·exact .inr (by refine bT (Hn d) ?_;exact nU _ fD)
def Pk{b:DW}{c d:Nat}(e:d∈b.2):d∈(f3 b c).2:=by
 rcases F9 (b.1 c) with a|a
 ·refine bT (M6 a) ?_;exact e
 ·refine bT (Hn a) ?_;exact ow _ e
def vD.f3{b:Cd}{c:DW}(f:vD b c){d:Nat}(i:cx b.nc d)(j:d<b.a2.length):vD b (f3 c d)∧mO b (f3 c d)=mO b c:=by
 rcases F9 (c.1 d) with e|e
 ·refine bT (M6 e) ?_;exact ⟨f,rfl⟩
 ·have h:mO b (Mine.f3 c d)=mO b c:=by
   unfold mO
   (refine bT (Hn e) ?_;refine bT dZ ?_;refine gT (D5 j e) ?_)
   exact nS _ 1 _
  refine ⟨⟨fun g a=>?_,fun g a=>?_,h▸f.zF⟩,h⟩
  ·rcases NO a with a|rfl
   ·exact f.pX g a
   ·exact i
  ·rw [Hn e] at a
   rcases my.mp a with a|a
   ·exact Ef (f.rz g a)
   ·exact ib.mp a▸Eg
def XM{c b d a:Nat}(e:a+b=c+d):(c:Int)-(b:Int)+(d:Int)=(a:Int):=ZJ e
def q4{c:Cd}{f:Nat}{d:R}(e:c.a2[f]? =O d)(g:cx c.nc f):∀h∈ih c f d,cx c.nc h:=fun h a=>by
 unfold ih at a
 rcases my.mp a with a|a
 ·rcases my.mp a with a|a
  ·by_cases b:d.bV.b8=ar
   ·rw [if_pos b] at a
    exact ib.mp a▸ .cI g (dF.mpr e) b
   ·rw [if_neg b] at a;cases a
  ·by_cases b:d.bV.dR=ar
   ·rw [if_pos b] at a;cases a
   ·rw [if_neg b] at a
    exact ib.mp a▸ .eK g (dF.mpr e) (LL _▸b)
 ·refine bU fun i=>?_
  obtain ⟨b,j,rfl⟩:=hJ.mp a
  obtain ⟨k,l⟩:=l3.mp j
  refine i ?_;try clear i
  exact .dJ g (dF.mpr e) k l
section
variable{h:Nat}{b:bS}{g:Hd}{a:Cd}{e:List bl}{c:Nat→Nat}{d:DW}{i:cK}
def iS(b:bS)(g:Hd)(a:Cd)(e:List bl)(c:Nat→Nat)(d:DW):bS:=CH b g a e c d.1 d.2
def iS.k3:zK (iS b g a e c d) (b.length+2) g a e b.length (b.length+1):=CH.k3
def iS.ju{f:DW}:(iS b g a e c d).take (iS b g a e c f).length=iS b g a e c d:=CH.ju
def pz:jN cr (iS b g a e c d) (.fK (b.length+2)) "reach"=O (.fn 11):=by
 have f:(iS b g a e c d)[b.length+2]? =O (O (.jW 3 [.f (cf g a),.f (.a3 e),.cq b.length,.cq (b.length+1)])):=zB _ _ _ _ _
 exact congrArg (jG · _) (wq f)
def Ho(o:vD a d)(l:a.a2.length≤500){f:Nat}(n:f<a.a2.length){k:Int}(m:k=c f)(j:bl):RC (vC cr (h+2)) 11 [.fK (b.length+2),.f (.Z f),.f (.Z k),.f j] .bX (iS b g a e c d) (iS b g a e c (f3 d f)):=
 Se l (cu (fg _ _) (cu o.zF (cu l (er rfl)))) n m j
def XN(P:ed a.nc c)(X:∀f,cx a.nc f→∀m∈a.b6,m.c4 f=ar→m.dG≤c f)(n:vD a d)(x:a.a2.length≤500)(W:a.b6.length≤500){f:Nat}{k:R}(t:a.a2[f]? =O k)(Q:d.1 f=ar):RC (vC cr (h+3)) 15 [.fK (b.length+2),.f (.Z f)] .bX (iS b g a e c d) (iS b g a e c ((ih a f k).foldl f3 d)):=rf rfl rfl rfl rfl fun i p w l=>by
 have s:=n.pX f Q
 have C:=P.dh f k s (dF.mpr t)
 have r:∀o,cx a.nc o→o<a.a2.length:=fun o F=>by
  have:=P.kJ o F
  unfold Cd.nc at this;rw [et] at this;exact this
 have ae:=q4 t s
 have ab:=r f s
 have ac:(iN a.a2.length c d.1).length≤100000:=mZ.symm▸cu x (er rfl)
 have K:zK (iS b g a e c d) (b.length+2) g a e b.length (b.length+1):=iS.k3
 have Y:jX cr (iS b g a e c d) (.cq b.length) (.f (.Z f))=O (.Z (c f)):=by
  rw [show bl.Z (c f)=oP c d.1 f by unfold oP;refine bT Q ?_;rfl]
  exact zD CH.AS (tH ab) ac
 apply aj;exact K.jv
 apply aj;exact hC t x
 apply aj;exact K.AP
 apply aj;exact Y
 refine pc p (Pf k) ?_
 refine ee (decide_eq_false (zn.mpr (pN.mpr C.c0))) ?_
 have I:∀o,c o+k.bV.c0=c f+k.bV.fS→((c f:Int)-(k.bV.c0:Int)+(k.bV.fS:Int))=(c o:Int):=fun o p=>XM p
 unfold ih at ae l
 rw [tR,tR,List.foldl_map,List.foldl_filter] at l
 have T:∀v:DW,vD a v→w (.f .bX) (iS b g a e c (a.b6.foldl (fun d m=>if m.c4 f=ar then f3 d m.cP else d) v))→fG ⟨cr,i⟩ (.J (.fT [2] b2 (.cE (.bY (.bY (.bW 0) "code") "catches")) jO) .N) [O (.fK (b.length+2)),O (.f (.Z f)),b1,O (.f (eR k)),O (.f (.Z (c f))),O (.f (.Z k.bV.c0)),O (.f (.Z k.bV.fS))] (iS b g a e c v) (lG lB.cR (iS b g a e c d).length w):=fun v y l=>by
  have af:zK (iS b g a e c v) (b.length+2) g a e b.length (b.length+1):=iS.k3
  apply aj;exact af.jv
  apply aj;exact eh W
  refine NN (fun d m=>if m.c4 f=ar then f3 d m.cP else d) (vD a) (iS b g a e c) (fun (j:Option bZ)=>[O (.fK (b.length+2)),O (.f (.Z f)),j,O (.f (eR k)),O (.f (.Z (c f))),O (.f (.Z k.bV.c0)),O (.f (.Z k.bV.fS))]) (fun d m j ag G n A=>?_) y fun n j=>?_
  ·refine pc p (DZ m f) ?_
   refine cD (fun j=>?_) fun j=>?_
   ·rw [if_pos j] at A
    have l:cx a.nc m.cP:=.dJ s (dF.mpr t) G j
    refine ee (decide_eq_false (zn.mpr (pN.mpr (X f s m G j)))) ?_
    apply aj;exact pz
    refine rc p (Ho n x (r _ l) (by refine bT (C.dJ m G j) ?_;rfl) _) ?_
    exact A (n.f3 l (r _ l)).1 _
   ·rw [if_neg (LL _▸j)] at A
    exact A n _
  ·exact c8 (b:=w) l iS.ju
 have L:∀u:DW,vD a u→(vD a ((if k.bV.dR then [] else [f+1]).foldl f3 u)→w (.f .bX) (iS b g a e c (a.b6.foldl (fun d m=>if m.c4 f=ar then f3 d m.cP else d) ((if k.bV.dR then [] else [f+1]).foldl f3 u))))→fG ⟨cr,i⟩ (.J (.cB (.b7 (.bY (.bW 3) "op") (.J .fY (.b5 18) .N)) (.J (.df (.eQ (.bW 0) "reach" (.J (.eD ar .dc (.bW 1) (.Z 1)) (.J (.eD ar .dc (.eD ar .fw (.bW 4) (.bW 5)) (.bW 6)) (.J (.bW 1) .N))))) .N) .N) (.J (.fT [2] b2 (.cE (.bY (.bY (.bW 0) "code") "catches")) jO) .N)) [O (.fK (b.length+2)),O (.f (.Z f)),b1,O (.f (eR k)),O (.f (.Z (c f))),O (.f (.Z k.bV.c0)),O (.f (.Z k.bV.fS))] (iS b g a e c u) (lG lB.cR (iS b g a e c d).length w):=fun u z l=>by
  apply aj;exact sH k.bV
  refine cD (fun j=>?_) fun j=>?_
  ·have j:=nN j
   rw [if_neg (by refine bT j ?_;exact kx)] at l
   have q:cx a.nc (f+1):=.eK s (dF.mpr t) j
   apply aj;exact pz
   refine rc p (Ho z x (r _ q) (I _ (C.eK j)) _) ?_
   have y:=(z.f3 q (r _ q)).1
   exact T _ y (l y)
  ·rw [if_pos (pW j)] at l
   exact T _ z (l z)
 apply aj;exact om k.bV
 refine cD (fun j=>?_) fun j=>?_
 ·rw [if_pos j] at l
  have q:cx a.nc k.t:=.cI s (dF.mpr t) j
  have F:=Ho (h:=h) (b:=b) (g:=g) (e:=e) (c:=c) n x (r _ q) (I _ (C.cI j)) (.Z f)
  rw [← fi j] at F
  apply aj;exact pz
  refine rc p F ?_
  exact L _ (n.f3 q (r _ q)).1 fun aa=>l
 ·rw [if_neg (LL _▸j)] at l
  exact L _ n fun aa=>l
end
def AU(d:Cd)(e:List Nat)(c b:DW):Prop:=(vD d b)∧(Mine.mO d b=Mine.mO d c)∧(∀a,c.1 a=ar→b.1 a=ar)∧(∀a∈e,b.1 a=ar)∧(∀a∈c.2,a∈b.2)∧(∀a,b.1 a=ar→c.1 a=ar∨a∈b.2)
section
variable{d:Cd}{e:List Nat}{c a:DW}(b:AU d e c a)
include b
def AU.cF:vD d a:=b.1
def AU.mO:Mine.mO d a=Mine.mO d c:=b.2.1
def AU.cO:∀f,c.1 f=ar→a.1 f=ar:=b.2.2.1
def AU.c2:∀f∈e,a.1 f=ar:=b.2.2.2.1
def AU.rz:∀f∈c.2,f∈a.2:=b.2.2.2.2.1
def AU.mN:∀f,a.1 f=ar→c.1 f=ar∨f∈a.2:=b.2.2.2.2.2
end
def I7{g:Cd}:∀{e:List Nat}{f:DW},vD g f→(∀h∈e,cx g.nc h∧h<g.a2.length)→AU g e f (e.foldl f3 f):=by
 intro e
 induction e with
 |nil=>
  intro f k _
  exact ⟨k,rfl,fun i b=>b,(fun i b=>absurd b gD),fun i b=>b,fun i b=>Or.inl b⟩
 |cons h e m=>
  intro f k b
  obtain ⟨p,l⟩:=b h fD
  obtain ⟨o,n⟩:=k.f3 p l
  have d:=m o fun c a=>b c (ia _ a)
  refine ⟨d.cF,d.mO.trans n,fun c a=>d.cO c (Ef a),fun c a=>?_,fun c a=>d.rz c (Pk a),fun c a=>?_⟩
  ·rcases eP.mp a with rfl|a
   ·exact d.cO _ Eg
   ·exact d.c2 c a
  ·rcases d.mN c a with j|j
   ·exact (Sg j).imp id (d.rz c)
   ·exact .inr j
def va(c:Cd)(b:DW):Prop:=(vD c b)∧(∀a∈c.cp,b.1 a=ar)∧(∀(a:Nat)(d:R),b.1 a=ar→a∉b.2→c.a2[a]? =O d→∀e∈ih c a d,b.1 e=ar)
section
variable{b:Cd}{a:DW}(c:va b a)
include c
def va.cF:vD b a:=c.1
def va.cp:∀d∈b.cp,a.1 d=ar:=c.2.1
def va.ea:∀(d:Nat)(e:R),a.1 d=ar→d∉a.2→b.a2[d]? =O e→∀f∈ih b d e,a.1 f=ar:=c.2.2
end
def va.nz{e:Cd}{f:Nat→Bool}(h:va e (f,[])):f=j5 e:=funext fun c=>by
 have g:∀{c j:Nat}{k:R},f c=ar→e.a2[c]? =O k→j∈ih e c k→f j=ar:=fun i l o=>h.ea _ _ i (gD) l _ o
 rw [vJ,ln]
 refine ⟨h.cF.pX c,fun n=>?_⟩
 induction n with
 |dH i=>exact h.cp _ i
 |lg _ a _=>exact absurd a (sY _)
 |eK _ a d b=>exact g b (dF.mp a) (by unfold ih;refine bT d ?_;exact ow _ (nU _ fD))
 |cI _ a d b=>exact g b (dF.mp a) (by unfold ih;refine bT (if_pos d) ?_;exact ow _ (ow _ fD))
 |dJ _ a m d b=>exact g b (dF.mp a) (by unfold ih;exact nU _ (hJ.mpr ⟨_,l3.mpr ⟨m,d⟩,rfl⟩))
def va.fN{b:Cd}{d:Nat→Bool}{e:List Nat}{c:Nat}{n:R}(g:va b (d,e++[c]))(m:b.a2[c]? =O n)(u:∀a,cx b.nc a→a<b.a2.length):vD b (d,e)∧va b ((ih b c n).foldl f3 (d,e))∧mO b ((ih b c n).foldl f3 (d,e))+1=mO b (d,e++[c]):=by
 have s:d c=ar:=g.cF.rz c (nU _ fD)
 have q:mO b (d,e)+1=mO b (d,e++[c]):=by
  unfold mO
  refine bT dZ ?_
  exact nS _ _ 1
 have r:vD b (d,e):=⟨g.cF.pX,fun a f=>g.cF.rz a (ow _ f),cu (fM _) (q.symm▸g.cF.zF:mO b (d,e)+1≤b.a2.length)⟩
 have h:=I7 r fun a f=>⟨q4 m (g.cF.pX c s) a f,u a (q4 m (g.cF.pX c s) a f)⟩
 refine ⟨r,⟨h.cF,fun a f=>h.cO a (g.cp a f),fun a v f o l k t=>?_⟩,h.mO▸q⟩
 rcases h.mN a f with j|j
 ·by_cases p:a=c
  ·subst p
   rw [m] at l
   obtain rfl:=dg l
   exact h.c2 k t
  ·refine h.cO k (g.ea a v j (fun i=>?_) l k t)
   rcases my.mp i with i|i
   ·exact o (h.rz a i)
   ·exact p (ib.mp i)
 ·exact absurd j o
def jn(e:Hd)(a:Cd)(g:Bool)(f:Nat→Nat):Prop:=(e.dm=.ad "block"∨e.dm=.ad "method")∧(∃i h,e.gc=.a3 [i,h])∧(∀c∈a.a2,c.cF g=ar)∧(∀c∈a.a2,c.bV.b8=ar→c.t<a.a2.length)∧(∀b∈a.b6,AT a.a2.length b)∧(a.cp≠ [])∧(ed a.nc f)∧(∀d,cx a.nc d→∀b∈a.b6,b.c4 d=ar→b.dG≤f d)∧(Bd a)
section
variable{c:Hd}{a:Cd}{e:Bool}{d:Nat→Nat}(b:jn c a e d)
include b
def jn.dm:c.dm=.ad "block"∨c.dm=.ad "method":=b.1
def jn.gc:∃f g,c.gc=.a3 [f,g] :=b.2.1
def jn.a2:∀f∈a.a2,f.cF e=ar:=b.2.2.1
def jn.iV:∀f∈a.a2,f.bV.b8=ar→f.t<a.a2.length:=b.2.2.2.1
def jn.b6:∀f∈a.b6,AT a.a2.length f:=b.2.2.2.2.1
def jn.cp:a.cp≠ [] :=b.2.2.2.2.2.1
def jn.gK:ed a.nc d:=b.2.2.2.2.2.2.1
def jn.AS:∀f,cx a.nc f→∀g∈a.b6,g.c4 f=ar→g.dG≤d f:=b.2.2.2.2.2.2.2.1
def jn.bd:Bd a:=b.2.2.2.2.2.2.2.2
end
section
variable{g:Nat}{b:bS}{c:Hd}{a:Cd}{e:Bool}{d:Nat→Nat}
def Si{f:bl}(c:f=.ad "block"∨f=.ad "method"):fh cr b .fY (.f f) (.f (.cQ [.ad "method",.ad "block",.ad "class",.ad "program"]))=O b2:=by rcases c with rfl|rfl<;>kernel_rfl
noncomputable def WA:Op→Bool
 |.kB|.kC=>ar
 |_=>b2
def ace:(fu.all fun f=>eA (ic (.ad f.cT) [.ad "getl",.ad "setl"]) (WA f))=ar:=by kernel_rfl
def aav(f:Op):fh cr b .ft (.f (.ad f.cT)) (.f (.cQ [.ad "getl",.ad "setl"]))=O (WA f):=ol ace f
def Sj{f:Op}(c:WA f=ar):f=.kB∨f=.kC:=by
 induction f<;>first|exact .inl rfl|exact .inr rfl|exact dy c
def xf{i:DW}{f:List bl}:jN cr (iS b c a f d i) (.fK (b.length+2)) "need_form"=O (.fn 12)∧jN cr (iS b c a f d i) (.fK (b.length+2)) "need_slots"=O (.fn 13)∧jN cr (iS b c a f d i) (.fK (b.length+2)) "need_child"=O (.fn 14)∧jN cr (iS b c a f d i) (.fK (b.length+2)) "need_catches"=O (.fn 16)∧jN cr (iS b c a f d i) (.fK (b.length+2)) "step"=O (.fn 15):=by
 have h:(iS b c a f d i)[b.length+2]? =O (O (.jW 3 [.f (cf c a),.f (.a3 f),.cq b.length,.cq (b.length+1)])):=zB _ _ _ _ _
 have h:=wq h
 exact ⟨congrArg (jG · _) h,congrArg (jG · _) h,congrArg (jG · _) h,congrArg (jG · _) h,congrArg (jG · _) h⟩
def Sk(f:jn c a e d){y:List pd}(ah:c.fB=y.map ez)(aE:y.length≤5)(ak:e=ar→y≠ [])(al:∀am∈y,am.1.dm=.ad "block"){k:List bl}(aD:k.length≤5):RC (vC cr (g+4)) 17 [.fK (b.length+2)] .bX (iS b c a (cf c a::k) d (fun l=>b2,[])) (iS b c a (cf c a::k) d (j5 a,[])):=rf rfl rfl rfl rfl fun aA o az t=>by
 have n:a.a2.length≤500:=cu f.bd.a2 (er rfl)
 have ag:a.cp.length≤500:=cu f.bd.cp (er rfl)
 have T:a.b6.length≤500:=cu f.bd.b6 (er rfl)
 have K:zK (iS b c a (cf c a::k) d (fun l=>b2,[])) (b.length+2) c a (cf c a::k) b.length (b.length+1):=iS.k3
 apply aj;exact K.jv
 apply aj;exact Si f.dm
 apply aj;exact K.jv
 apply aj;exact eZ ag
 have z:a.cp.length≠0:=fun h=>f.cp (TW.mp h)
 refine ee (beq_false_of_ne fun h=>z (GZ h)) ?_
 apply aj;exact K.jv
 apply aj;exact m3 n
 refine Fz (fun l=>iS b c a (cf c a::k) d (fun l=>b2,[])) (fun _ (j:Option bZ×Option bZ)=>[O (.fK (b.length+2)),b1,j.1,j.2]) (a:=(b1,b1)) (fun au w j A aG u=>?_) fun j=>?_
 ·have v:=gj aG
  have I:=f.a2 w v
  apply aj;exact xf.1
  refine rc o (XL I K n (f.iV w v)) ?_
  have ac:∀P:KS,fG ⟨cr,aA⟩ (.J (.df (.eQ (.bW 0) "need_child" (.J (.bW 2) (.J (.bW 3) .N)))) .N) [O (.fK (b.length+2)),b1,O (.f (.Z au)),O (.f (eR w))] (iS b c a (cf c a::k) d (fun l=>b2,[])) (jQ A P):=fun P=>by
   apply aj;exact xf.2.2.1
   refine rc o (C0 I K ah aE ak al) ?_
   exact u (_,_)
  apply aj;exact aav w.bV
  refine cD (fun j=>?_) fun j=>?_
  ·refine bU fun x=>?_
   obtain ⟨s,aI,z⟩:=f.gc
   refine x ?_;try clear x
   apply aj;exact xf.2.1
   refine rc o (Sb I (Sj j) K aD z) ?_
   exact ac _
  ·exact ac _
 ·apply aj;exact xf.2.2.2.1
  refine rc o (yX K n T f.b6) ?_
  apply aj;exact K.jv
  apply aj;exact eh (c:=e8) ag
  have C:∀i,cx a.nc i→i<a.a2.length:=fun i h=>by
   have:=f.gK.kJ i h
   unfold Cd.nc at this;rw [et] at this;exact this
  have Q:∀i∈a.cp,cx a.nc i∧i<a.a2.length:=fun i t=>⟨.dH t,C i (.dH t)⟩
  have ab:vD a (fun l=>b2,[]):=⟨(fun l h=>dy h),(fun l h=>absurd h gD),cu (jH (kU _)) (BI _ _)⟩
  refine NN f3 (vD a) (iS b c a (cf c a::k) d) (fun (s:Option bZ)=>[O (.fK (b.length+2)),s,j.1,j.2]) (fun p i s A W r u=>?_) ab fun r s=>?_
  ·obtain ⟨aH,ae⟩:=Q i W
   apply aj;exact pz
   refine rc o (Ho r n ae (congrArg Int.ofNat (f.gK.dH i W).symm) _) ?_
   exact u (r.f3 aH ae).1 _
  ·have G:=I7 ab Q
   have F:va a (a.cp.foldl f3 (fun l=>b2,[])):=⟨G.cF,G.c2,fun m w av aF=>(G.mN m av).elim (fun h=>dy h) fun h=>absurd h aF⟩
   generalize a.cp.foldl f3 (fun l=>b2,[])=aw at F⊢
   refine wv (fun Y af aa=>∃p,af=[O (.fK (b.length+2)),s,j.1,j.2] ∧aa=iS b c a (cf c a::k) d p∧va a p∧mO a p=Y) (fun Y af aa A aB u=>?_) ⟨aw,rfl,rfl,F,rfl⟩ (kT (cu F.cF.zF n) (er rfl))
   refine bU fun x=>?_
   obtain ⟨p,rfl,rfl,q,ay⟩:=aB
   obtain ⟨X,L⟩:=p
   refine x ?_;try clear x
   have R:L.length≤500:=cu (fg _ _) (cu q.cF.zF n)
   have K:zK (iS b c a (cf c a::k) d (X,L)) (b.length+2) c a (cf c a::k) b.length (b.length+1):=iS.k3
   apply aj;exact K.BO
   apply aj;exact VL (cu R (er rfl))
   rcases T4 L with rfl|⟨ao,m,rfl⟩
   ·rw [← q.nz] at t
    exact c8 (b:=az) t iS.ju
   ·rw [T5] at*
    have aC:=q.cF.pX m (q.cF.rz m (nU _ fD))
    have v:a.a2[m]? =O (a.a2[m]'(C m aC)):=gS _
    have ⟨r,ai,an⟩:=q.fN v C
    have aq:=q.cF.rz m (nU _ fD)
    refine gL (decide_eq_true (by refine bT dZ ?_;exact kY.mpr (nI _))) ?_
    apply aj;exact xf.2.2.2.2
    apply aj;exact K.BO
    apply aj;exact mY CH.wai
    apply aj;exact VK (cu R (er rfl))
    refine rc o (XN (d:=(X,ao)) f.gK f.AS r n T v aq) ?_
    exact u _ _ _ (Nat.lt_of_succ_le (ay▸jH an)) ⟨_,rfl,rfl,ai,rfl⟩
end
section
variable{e:Nat}{a:bS}{c:Hd}{b:Cd}{g:Bool}{d:Nat→Nat}
def Sl{i:bl}{h:List bl}(j:b.a2.length≤500)(u:(c.dm=.ad "block"∧oe (.f i)=O h∧h.length≤5)∨(c.dm=.ad "method"∧h=[])){m:KE}(s:m (.fK (a.length+2)) (iS a c b (cf c b::h) d (fun f=>b2,[]))):vC cr (e+1) 1003 [.f (cf c b),.f i] a m:=by
 have o:pn a b2 .kF (.f (.a3 [.bX])) (.f (.Z b.a2.length))=O (.cq a.length,a++[O (.a3 (iN b.a2.length d fun f=>b2))]):=by
  have q:iN b.a2.length d (fun f=>b2)=ky b.a2.length .bX:=by
   unfold iN
   (refine bT (show oP d (fun f=>b2)=fun f=>bl.bX from rfl) ?_;refine bT Uh ?_;refine bT pk ?_;rfl)
  refine bT q ?_
  exact (u4 _ _ (cu j (er rfl))).trans (g4 (by refine bT L3 ?_;exact cu j (er rfl)))
 have t:(a++[O (dw.a3 (iN b.a2.length d fun f=>b2)),O (.a3 [])]).length=a.length+2:=dZ
 have n:m (.fK (a++[O (dw.a3 (iN b.a2.length d fun f=>b2)),O (.a3 [])]).length) ((a++[O (.a3 (iN b.a2.length d fun f=>b2)),O (.a3 [])])++[O (.jW 3 [.f (cf c b),.f (.a3 (cf c b::h)),.cq a.length,.cq (a.length+1)])]):=by
  (refine bT t ?_;rw [m8]);exact s
 rcases u with ⟨k,p,r⟩|⟨k,rfl⟩
 ·have l:fh cr a .cZ (.f c.dm) (.f (.ad "block"))=O ar:=by refine bT k ?_;kernel_rfl
  have v:Fr a (.f (cf c b)) (.f i)=O (.f (.a3 (cf c b::h)),a):=by
   show (oe (.f i)).bind _=_
   refine bT p ?_
   exact lw (iF (cu r (er rfl)))
  apply aj;exact l
  apply aj;exact v
  apply aj;exact eZ j
  apply aj;exact o
  apply aj;exact qQ (er rfl)
  exact n
 ·have l:fh cr a .cZ (.f c.dm) (.f (.ad "block"))=O b2:=by refine bT k ?_;kernel_rfl
  apply aj;exact l
  apply aj;exact eZ j
  apply aj;exact o
  apply aj;exact qQ (er rfl)
  exact n
def vc{k h:cK}(l:k=h){i:Nat}{f:List bZ}{a:bS}{j:KE}(m:h i f a j):k i f a j:=l▸m
def Pl{h:DW}{f:List bl}:jN cr (iS a c b f d h) (.fK (a.length+2)) "run"=O (.fn 17):=by
 have i:(iS a c b f d h)[a.length+2]? =O (O (.jW 3 [.f (cf c b),.f (.a3 f),.cq a.length,.cq (a.length+1)])):=zB _ _ _ _ _
 exact congrArg (jG · _) (wq i)
def iS.acf{h:DW}{f:List bl}{i:Option dw}:((iS a c b f d h).set a.length i).take a.length=a:=by
 unfold iS CH
 rw [kk]
 exact ze
def I8{w:List bZ}{q:bl}{i:List bl}(P:l5 sD w=O [.f (cf c b),.f q])(z:jn c b g d){f:List pd}(s:c.fB=f.map ez)(r:f.length≤5)(C:g=ar→f≠ [])(t:∀h∈f,h.1.dm=.ad "block")
  (v:(c.dm=.ad "block"∧oe (.f q)=O i∧i.length≤5)∨(c.dm=.ad "method"∧i=[]))
  (A:∀h∈f,∃u,PC (vC cr (e+5)) 18 [.f (ez h),.f (.a3 (cf c b::i))] u):PC (vC cr (e+6)) 18 w (.a3 (iN b.a2.length d (j5 b))):=pf rfl rfl P rfl fun ag o a Q G=>by
 have R:b.a2.length≤500:=cu z.bd.a2 (er rfl)
 have T:i.length≤5:=by
  rcases v with ⟨_,_,X⟩|⟨_,rfl⟩
  ·exact X
  ·exact fy _
 refine bU fun x=>?_
 obtain ⟨m,l,j,k,af⟩:=c
 refine x ?_;try clear x
 dsimp only at s
 subst s
 refine vc o (Sl (d:=d) R v ?_)
 apply aj;exact eh (cu r (er rfl))
 refine k6 ez (fun n=>b2) ez (fun aa ac K ah n W=>W rfl) ?_
 refine bT (TZ.mpr fun n n=>kx) ?_
 apply aj;exact wD
 apply aj;exact Pl
 refine rc o (Sk z rfl r C t T) ?_
 apply aj;exact eh (cu r (er rfl))
 refine qe (fun n=>iS a ⟨m,l,j,k,f.map ez⟩ b (cf ⟨m,l,j,k,f.map ez⟩ b::i) d (j5 b,[])) (fun _ (p:Option bZ)=>[O (.f (cf ⟨m,l,j,k,f.map ez⟩ b)),O (.f q),O (.fK (a.length+2)),p,b1]) (a:=b1) (fun ab h p ae Y L=>?_) fun p=>?_
 ·have y:=gj Y
  have I:fh cr (iS a ⟨m,l,j,k,f.map ez⟩ b (cf ⟨m,l,j,k,f.map ez⟩ b::i) d (j5 b,[])) .cZ (.f h.1.dm) (.f (.ad "block"))=O ar:=by refine bT (t h y) ?_;kernel_rfl
  obtain ⟨u,F⟩:=A h y
  apply aj;exact I
  apply aj;exact iS.k3.Do
  refine pc o F ?_
  exact L _
 ·apply aj;exact iS.k3.AP
  apply aj;exact js CH.AS
  exact c8 (b:=Q) G iS.acf
end
def Dq(a:pd):Prop:=(∃b,jn a.1 a.2 b2 b)∧(a.1.fB=[])∧(a.1.dm=.ad "block")
section
variable{a:pd}(b:Dq a)
include b
def Dq.cF:∃c,jn a.1 a.2 b2 c:=b.1
def Dq.bX:a.1.fB=[] :=b.2.1
def Dq.dm:a.1.dm=.ad "block":=b.2.2
end
section
variable{c:Nat}{b:Hd}{a:Cd}{e:Bool}{d:Nat→Nat}
def NQ(q:jn b a e d)(n:b.dm=.ad "method"){h:List pd}(j:b.fB=h.map ez)(r:h.length≤5)(p:e=ar→h≠ [])(i:∀f∈h,Dq f):PC (vC cr (c+8)) 63 [.f (cf b a)] (.a3 (iN a.a2.length d (j5 a))):=pf rfl rfl rfl rfl fun w o u s t=>by
 refine pc o (I8 (e:=c+1) (q:=.cQ []) (i:=[]) rfl q j r p (fun f j=>(i f j).dm) (.inr ⟨n,rfl⟩) fun f k=>?_) ?_
 ·obtain ⟨v,m⟩:=(i f k).cF
  exact ⟨_,I8 (e:=c) (q:=.a3 [cf b a]) (i:=[cf b a]) (f:=[]) rfl m (i f k).bX (fy _) (fun g=>dy g) (fun l g=>absurd g gD) (.inl ⟨(i f k).dm,rfl,er rfl⟩) fun l g=>absurd g gD⟩
 ·exact c8 (b:=s) t eO
end
def GB(e:Bool)(f:Nat)(d:dw):Prop:=∃c a b:Nat,d=.a3 [.Z c,.Z a,.Z b,.b3 e] ∧a<2 ^ 31∧b≤f
def GB.up{c:Bool}{d b:Nat}{a:dw}(j:GB c d a)(e:d≤b):GB c b a:=by obtain ⟨f,i,k,g,h,l⟩:=j;exact ⟨f,i,k,g,h,cu l e⟩
structure EC(C:cK)(k:Nat)(args:List bZ)(fl:Bool)(j:Nat)(P:bl→Prop):Prop where
 eI:∀(m:Nat)(b:dw)(τ:bS)(Q:KE),m+j≤5000→GB fl m b→(∀(b':dw)(v:bl),GB fl (m+j) b'→P v→Q (.f v) (O b'::τ))→C k args (O b::τ) Q
section
variable{b:Nat}{a:bS}{fz:Bool}
def aaw{c d:Int}(e:c.natAbs<2 ^ 64)(f:d.natAbs<2 ^ 64):pn a fz .kF (.f (.Z c)) (.f (.Z d))=O (.f (.Z (c*d)),a):=if_pos ⟨e,f⟩
def VY{d c:Int}(e:c≠0):pn a fz .qK (.f (.Z d)) (.f (.Z c))=O (.f (.Z (pO d c)),a):=if_neg e
def aax{e c:Int}(g:c≠0)(f:c.natAbs<1073741824):pn a fz .ua (.f (.Z e)) (.f (.Z c))=O (.f (.Z (Cr e c)),a):=if_neg fun d=>d.elim g fun d=>d f
def aay{d c:Int}(e:d.natAbs<2 ^ 64)(g:0≤c)(f:c≤100):pn a fz (.sd ()) (.f (.Z d)) (.f (.Z c))=O (.f (.Z (d ^ c.toNat)),a):=if_pos ⟨e,g,f⟩
def wE{d:Int}{c:Nat}(f:0<c):∃i<c,pO d c=(i:Nat):=by
 have g:(c:Int)≠0:=fun j=>LX f (GZ j)
 have e:=Int.emod_nonneg d g
 have h:=Int.emod_lt_of_pos d (kY.mpr f)
 refine bT (Int.fmod_eq_emod_of_nonneg d (sb c)) ?_
 exact ⟨(d % c).toNat,(UO e).mpr h,(UG e).symm⟩
def aaz{d:Int}{c:Nat}(g:0<c):(pO d c).natAbs<c:=by
 obtain ⟨h,e,f⟩:=wE (d:=d) g
 refine bT f ?_;exact e
def FR{d c:Int}{f e:Nat}(h:d.natAbs≤f)(g:c.natAbs≤e):(d+c).natAbs≤f+e:=cu (Int.natAbs_add_le d c) (pH h g)
def XO{f d:Int}{e c:Nat}(h:f.natAbs≤e)(g:d.natAbs≤c):(f*d).natAbs≤e*c:=by rw [Int.natAbs_mul];exact Gf h g
def M7{f e:Int}{c d:Nat}(g:f.natAbs≤c)(h:e.natAbs≤d)(k:c<2 ^ 64)(l:d<2 ^ 64):∃i:Int,i.natAbs≤c*d∧∀(a:bS)(fz:Bool),pn a fz .kF (.f (.Z f)) (.f (.Z e))=O (.f (.Z i),a):=
 ⟨f*e,XO g h,fun j j=>aaw (kT g k) (kT h l)⟩
def VZ{e c:Int}{d:Nat}(g:e.natAbs≤d)(i:d<2 ^ 64)(j:0≤c)(h:c≤100):∃k:Int,∀(a:bS)(fz:Bool),pn a fz (.sd ()) (.f (.Z e)) (.f (.Z c))=O (.f (.Z k),a):=
 ⟨_,fun f f=>aay (kT g i) j h⟩
def f7{i:Bool}{c:Nat}(k:0<c)(I:c<1000):EC (vC cr (b+1)) 40 [.cq 0,.f (.Z c)] i 1 fun y=>∃h<c,y=.Z (h:Nat):=⟨fun Y X q r T w p=>by
 refine bU fun d=>?_
 obtain ⟨e,f,g,rfl,n,l⟩:=w
 have o:(c:Int)≠0:=fun R=>LX k (GZ R)
 have u:((g:Int)+1).natAbs≤5000:=cu (iF l) T
 have t:(5000:Nat)<2 ^ 64:=by decide
 obtain ⟨P,A,G⟩:=M7 (f:=40169) (c:=40169) (by decide) u (by decide) t
 obtain ⟨s,x⟩:=VZ (e:=f+P+7) (c:=5) (FR (FR (iG n) A) (by decide:(7:Int).natAbs≤7)) (by decide) (by decide) (by decide)
 have Q:(pO s 2147483647).natAbs≤2147483647:=iG (aaz (c:=2147483647) (by decide))
 obtain ⟨F,v,L⟩:=M7 (f:=93001) (c:=93001) (by decide) u (by decide) t
 obtain ⟨z,C⟩:=VZ (e:=pO s 2147483647+F) (c:=3) (FR Q v) (by decide) (by decide) (by decide)
 refine d ?_;try clear d
 refine Hi (fun aa W=>?_) rfl rfl rfl rfl
 refine cD (fun K=>?_) fun K=>?_
 ·apply aj;exact VY o
  apply aj;exact aax o (LY I (er rfl))
  refine bU fun d=>?_
  obtain ⟨h,j,m⟩:=wE (d:=(e:Int)) k
  refine d ?_;try clear d
  exact c8 (b:=r) (p (.a3 [.Z (Cr e c),.Z f,.Z g,.b3 i]) _ ⟨e / c,f,g,by rw [Int.ofNat_fdiv],n,uL l⟩ ⟨h,j,congrArg bl.Z m⟩) (eO (l:=O (.a3 [.Z (Cr e c),.Z f,.Z g,.b3 i])::q))
 ·apply aj;exact G _ _
  apply aj;exact x _ _
  apply aj;exact L _ _
  apply aj;exact C _ _
  apply aj;exact VY o
  refine bU fun d=>?_
  obtain ⟨h,j,m⟩:=wE (d:=Cr (pO z 2147483587) 16) k
  refine d ?_;try clear d
  exact c8 (b:=r) (p (.a3 [.Z e,.Z f,.Z ((g:Int)+1),.b3 i]) _ ⟨e,f,g+1,rfl,n,iF l⟩ ⟨h,j,congrArg bl.Z m⟩) (eO (l:=O (.a3 [.Z e,.Z f,.Z ((g:Int)+1),.b3 i])::q))⟩
end
def ec{m j:cK}{k c a:Nat}{i:List bZ}{f:Bool}{g:bl→Prop}{d:dw}{b:bS}{e:KE}(n:m=j)(q:EC j k i f c g)(r:a+c≤5000)(o:GB f a d)(p:∀(l:dw)(h:bl),GB f (a+c) l→g h→e (.f h) (O l::b)):m k i (O d::b) e:=n▸q.eI a d b e r o p
def FS{p i j:Nat}{n o:List bZ}{e:dz}{q:cW}{k:Bool}{m:bl→Prop}(w:cr.p9[i]? =O e)(y:e.cN=.cA q)(A:l5 e n=O o)(r:jJ i 1000=ar)
  (C:∀h:cK,h=vC cr p→∀(a:Nat)(c:dw)(f:bS)(g:KE),a+j≤5000→GB k a c→(∀(d:dw)(b:bl)(l:bS),GB k (a+j) d→m b→l=O d::f→g (.f b) l)→Ag ⟨cr,h⟩ e q o (O c::f) g):EC (vC cr (p+1)) i n k j m:=
 ⟨fun a c f g F t z=>Hi (fun h s=>C h s a c f g F t fun d b l v x u=>u▸z d b v x) w y A r⟩
def Hp{c b:dw}{a d:bS}:(O b::(a++d)).take (O c::a).length=O b::a:=congrArg (O b:: ·) ze
def s9{c b:dw}{a:bS}:(O b::a).take (O c::a).length=O b::a:=congrArg (O b:: ·) eO
def Hq{a:List bl}{b:Nat}(c:b<a.length)(e:a.length≤1000):∃f∈a,∀d:bS,jX cr d (.f (.a3 a)) (.f (.Z b))=O f:=
 ⟨a[b],vR c,fun g=>qu (gS c) (cu e (er rfl))⟩
def M8{a:List bl}{b:Nat}(c:b<a.length)(e:a.length≤1000):∃f∈a,∀d:bS,jX cr d (.f (.cQ a)) (.f (.Z b))=O f:=
 ⟨a[b],vR c,fun g=>IU (gS c) (cu e (er rfl))⟩
structure W where
 bV:Op
 g:Option Nat
 a:bl
 b:bl
def W.Hr(a:W):bl:=cond a.bV.b8 (a.g.elim .bX fun b=>.Z b) a.a
def W.kO(a:W):bl:=.cQ [.ad a.bV.cT,a.Hr,a.b]
noncomputable def W.dh(a:W):R:=⟨a.bV,0,a.a,a.b,.bX,0⟩
structure BQ(w:W):Prop where
 bV:w.bV=.d0
 hM:gZ w.a=ar
 b:w.b=.bX
 g:w.g=b1
section
variable{b:Nat}{a:Bool}
def Sm:∀c∈([.bX,.b3 ar,.b3 b2,.Z 0,.Z 5,.ad "s"] :List bl),gZ c=ar:=fun c d=>lD.mp (show ([.bX,.b3 ar,.b3 b2,.Z 0,.Z 5,.ad "s"] :List bl).all gZ=ar by kernel_rfl) c d
def ta:EC (vC cr (b+2)) 41 [.cq 0] a 1 fun d=>∃e,BQ e∧d=W.kO e:=FS rfl rfl rfl rfl fun v h s r t u p i l=>by
 refine ec h (f7 (c:=6) (by decide) (by decide)) p i fun o d k m=>?_
 refine bU fun f=>?_
 obtain ⟨q,g,rfl⟩:=m
 obtain ⟨c,j,n⟩:=Hq (a:=[.bX,.b3 ar,.b3 b2,.Z 0,.Z 5,.ad "s"]) g (by decide)
 refine f ?_;try clear f
 apply aj;exact n _
 exact l o _ _ k ⟨⟨.d0,b1,c,.bX⟩,⟨rfl,Sm c j,rfl,rfl⟩,rfl⟩ s9
structure mP(h:Nat)(w:W):Prop where
 cF:w.dh.cF ar=ar
 c0:w.bV.c0≤h
 fS:h-w.bV.c0+w.bV.fS=h+1
 nj:w.bV.b8=b2
 ne:w.bV.dR=b2
 g:w.g=b1
def BQ.fS{i:Nat}{c:W}(h:BQ c):mP i c:=by
 refine bU fun e=>?_
 obtain ⟨j,k,d,l⟩:=c
 obtain ⟨rfl,f,rfl,g⟩:=h
 refine e ?_;try clear e
 exact ⟨by show (gZ d&&ar&&ar)=ar;refine bT (show gZ d=ar from f) ?_;rfl,fy _,rfl,rfl,rfl,g⟩
noncomputable def NR:List Op:=[.d0,.iQ,.kB,.uQ,.uR,.kq,.g9]
noncomputable def acg:List (Sum Int b4×bl):=[(.inr "getl",.Z 0),(.inr "geti",.ad "@x"),(.inr "getg",.ad "$x")]
def Hs(c:Op):bl:=(fA (.inr c.cT) acg).getD .bX
def Kx{c:bS}{d:List (Sum Int b4×bl)}:jN cr (c++[O (.d4 d)]) (.cq c.length) "get"=O .iU:=by
 show (il _ _).elim ((ml _ _).bind _) _=_
 (refine bT (BF (eo _ _ _)) ?_;refine bT (qP (eo _ _ _)) ?_);rfl
def Pm{d:bS}{c:List (Sum Int b4×bl)}{e:b4}:jk cr (d++[O (.d4 c)]) .iU (.cq d.length) [.f (.ad e)] =O (.f ((fA (.inr e) c).getD .bX),d++[O (.d4 c)]):=by
 exact congrArg (jG · _) (qP (eo _ _ _))
def NS{c:Nat}(d:c<2):sr (.Z c)=ar:=oB (b:=fun c:Nat=>sr (.Z c)=ar) rfl (oB rfl Wh) c d
def Pn{e c:Nat}(f:c<2):mP e ⟨.kB,b1,Hs .kB,.Z c⟩:=by
 have d:Hs .kB=.Z 0:=by kernel_rfl
 refine bT d ?_
 exact ⟨by show (rP 0 (.Z 0)&&sr (.Z c)&&ar)=ar;refine bT (NS f) ?_;rfl,fy _,rfl,rfl,rfl,rfl⟩
def Sn{e:Nat}{c:Op}(d:c∈NR)(g:(c.cT=="push")=b2)(f:(c.cT=="dup"&&(e:Int)==0)=b2)(h:(c.cT=="getl")=b2):mP e ⟨c,b1,Hs c,.bX⟩∧bl.cQ [.ad c.cT,Hs c,.bX] =W.kO ⟨c,b1,Hs c,.bX⟩:=by
 have g:(c== .d0)=b2:=(gr c .d0).symm.trans g
 have h:(c== .kB)=b2:=(gr c .kB).symm.trans h
 have f:(c== .kq&&(e:Int)==0)=b2:=gr c .kq▸f
 rcases eP.mp d with rfl|d
 ·exact dy g
 rcases eP.mp d with rfl|d
 ·exact ⟨⟨by kernel_rfl,fy _,rfl,rfl,rfl,rfl⟩,rfl⟩
 rcases eP.mp d with rfl|d
 ·exact dy h
 rcases eP.mp d with rfl|d
 ·exact ⟨⟨by kernel_rfl,fy _,rfl,rfl,rfl,rfl⟩,rfl⟩
 rcases eP.mp d with rfl|d
 ·exact ⟨⟨by kernel_rfl,fy _,rfl,rfl,rfl,rfl⟩,rfl⟩
 rcases eP.mp d with rfl|d
 ·match e,f with
  |e+1,_=>exact ⟨⟨by kernel_rfl,iF (fy _),rfl,rfl,rfl,rfl⟩,rfl⟩
 ·refine bT (ib.mp d) ?_
  exact ⟨⟨by kernel_rfl,fy _,rfl,rfl,rfl,rfl⟩,rfl⟩
def lp{i:Nat}:EC (vC cr (b+3)) 42 [.cq 0,.f (.Z i)] a 2 fun g=>∃h,mP i h∧g=W.kO h:=FS rfl rfl rfl rfl fun y k G F I L r u q=>by
 refine ec k (f7 (c:=7) (by decide) (by decide)) (lC r) u fun z g o f=>?_
 refine bU fun d=>?_
 obtain ⟨c,j,rfl⟩:=f
 obtain ⟨C,w,x⟩:=M8 (a:=NR.map fun e=>.ad e.cT) j (by decide)
 obtain ⟨e,A,rfl⟩:=hJ.mp w
 refine d ?_;try clear d
 apply aj;exact x _
 refine VO (c:=⟨cr,y⟩) (a:=e.cT=="push") (e:=e.cT=="dup"&&(i:Int)==0) (fun K c=>?_) (fun v=>AG (fun K c=>?_) fun v K c=>?_) _ ?_
 ·exact c
 ·exact c
 ·exact c
 refine cD (fun l=>?_) fun l=>?_
 ·refine ec k ta r o fun m g n f=>?_
  refine bU fun d=>?_
  obtain ⟨h,t,rfl⟩:=f
  refine d ?_;try clear d
  exact q m _ _ n ⟨h,t.fS,rfl⟩ s9
 ·apply aj;exact Kx
  apply aj;exact Pm
  refine cD (fun p=>?_) fun p=>?_
  ·refine ec k (f7 (c:=2) (by decide) (by decide)) r o fun m g n f=>?_
   refine bU fun d=>?_
   obtain ⟨c,j,rfl⟩:=f
   obtain rfl:e=.kB:=dr ((gr e .kB).symm.trans p)
   refine d ?_;try clear d
   exact q m _ _ n ⟨⟨.kB,b1,Hs .kB,.Z c⟩,Pn j,rfl⟩ Hp
  ·have s:=Sn (e:=i) A (Ga.mp l).1 (Ga.mp l).2 p
   exact q z _ _ (o.up (fM _)) ⟨_,s.1,s.2⟩ Hp
end
structure vb(hs:List Nat)(p:Nat)(w:W):Prop where
 cF:w.dh.cF ar=ar
 ach:∃h,hs[p]? =O h∧w.bV.c0≤h∧hs[p+1]? =O (h-w.bV.c0+w.bV.fS)∧∀k,w.bV.b8=ar→w.g=O k→hs[p+k]? =O (h-w.bV.c0+w.bV.fS)
structure tc(w:W):Prop where
 cF:w.dh.cF ar=ar
 c0:w.bV.c0=1
 fS:w.bV.fS=0
 nj:w.bV.b8=b2
 ne:w.bV.dR=b2
 g:w.g=b1
noncomputable def xV:List Op:=[.kC,.uS,.uT,.uU]
noncomputable def NT:List (Sum Int b4×bl):=[(.inr "setl",.Z 0),(.inr "seti",.ad "@x"),(.inr "setg",.ad "$x"),(.inr "setc",.ad "C")]
def rV(a:Op):bl:=(fA (.inr a.cT) NT).getD .bX
section
variable{g:Nat}{e:Bool}
def XQ{i:bS}{h:List (Sum Int b4×bl)}{f:b4}:jX cr (i++[O (.d4 h)]) (.cq i.length) (.f (.ad f))=fA (.inr f) h:=by
 exact congrArg (jG · _) (qP (eo _ _ _))
def HY{h:Op}(f:h∈xV):fA (.inr h.cT) NT=O (rV h):=by
 rcases eP.mp f with rfl|f
 ·kernel_rfl
 rcases eP.mp f with rfl|f
 ·kernel_rfl
 rcases eP.mp f with rfl|f
 ·kernel_rfl
 refine bT (ib.mp f) ?_;kernel_rfl
def HZ{f:Nat}(i:f<2):tc ⟨.kC,b1,rV .kC,.Z f⟩:=by
 have h:rV .kC=.Z 0:=by kernel_rfl
 refine bT h ?_
 exact ⟨by show (rP 0 (.Z 0)&&sr (.Z f)&&ar)=ar;refine bT (NS i) ?_;rfl,rfl,rfl,rfl,rfl,rfl⟩
def Ky{f:Op}(h:f∈xV)(i:(f.cT=="setl")=b2):tc ⟨f,b1,rV f,.bX⟩∧bl.cQ [.ad f.cT,rV f,.bX] =W.kO ⟨f,b1,rV f,.bX⟩:=by
 have i:(f== .kC)=b2:=(gr f .kC).symm.trans i
 rcases eP.mp h with rfl|h
 ·exact dy i
 rcases eP.mp h with rfl|h
 ·exact ⟨⟨by kernel_rfl,rfl,rfl,rfl,rfl,rfl⟩,rfl⟩
 rcases eP.mp h with rfl|h
 ·exact ⟨⟨by kernel_rfl,rfl,rfl,rfl,rfl,rfl⟩,rfl⟩
 refine bT (ib.mp h) ?_
 exact ⟨⟨by kernel_rfl,rfl,rfl,rfl,rfl,rfl⟩,rfl⟩
def BR:EC (vC cr (g+2)) 43 [.cq 0] e 2 fun j=>∃o,tc o∧j=W.kO o:=FS rfl rfl rfl rfl fun K m F C G I t u q=>by
 refine ec m (f7 (c:=4) (by decide) (by decide)) (lC t) u fun z j p l=>?_
 refine bU fun f=>?_
 obtain ⟨n,i,rfl⟩:=l
 obtain ⟨A,x,y⟩:=M8 (a:=xV.map fun h=>.ad h.cT) i (by decide)
 obtain ⟨h,r,rfl⟩:=hJ.mp x
 refine f ?_;try clear f
 apply aj;exact y _
 apply aj;exact XQ.trans (HY r)
 refine cD (fun k=>?_) fun k=>?_
 ·refine ec m (f7 (c:=2) (by decide) (by decide)) t p fun v j w l=>?_
  refine bU fun f=>?_
  obtain ⟨n,i,rfl⟩:=l
  obtain rfl:h=.kC:=dr ((gr h .kC).symm.trans k)
  refine f ?_;try clear f
  exact q v _ _ w ⟨⟨.kC,b1,rV .kC,.Z n⟩,HZ i,rfl⟩ Hp
 ·have s:=Ky r k
  exact q z _ _ (p.up (fM _)) ⟨_,s.1,s.2⟩ Hp
noncomputable def gV(h:Option Nat):bl:=h.elim .bX fun f=>.Z f
noncomputable def jo(h:Op)(f:Option Nat):W:=⟨h,f,.bX,.bX⟩
def qx(h:Option Nat):EC (vC cr (g+2)) 44 [.cq 0,.f (gV h)] e 1 fun i=>∃j:Op,j.cg=ar∧i=W.kO (jo j h):=FS rfl rfl rfl rfl fun A m x w y z t n p=>by
 refine ec m (f7 (c:=2) (by decide) (by decide)) t n fun s i o q=>?_
 refine bU fun k=>?_
 obtain ⟨u,l,rfl⟩:=q
 obtain ⟨v,f,r⟩:=M8 (a:=[.ad "jumpif",.ad "jumpunless"]) l (by decide)
 refine k ?_;try clear k
 apply aj;exact r _
 refine p s _ _ o ?_ s9
 rcases eP.mp f with rfl|f
 ·exact ⟨.hV,rfl,rfl⟩
 ·refine bT (ib.mp f) ?_;exact ⟨.e5,rfl,rfl⟩
noncomputable def iT(f:Op):W:=⟨f,b1,.bX,.bX⟩
noncomputable def M9:W:=⟨.nv,b1,.ad "t",.bX⟩
noncomputable def FT:W:=⟨.sq,b1,.ad "u",.bX⟩
noncomputable def WB:W:=⟨.j0,b1,.Z 0,.bX⟩
noncomputable def aaA:W:=⟨.gz (),b1,.ad "E",.ad "t"⟩
variable{c:List Nat}{a b:Nat}{d:W}
def mP.eH(j:c[a]? =O b)(i:c[a+1]? =O (b+1))(f:mP b d):vb c a d:=⟨f.cF,b,j,f.c0,f.fS.symm▸i,fun k h=>absurd (f.nj▸h) kx⟩
def tc.eH(j:c[a]? =O (b+1))(i:c[a+1]? =O b)(f:tc d):vb c a d:=⟨f.cF,b+1,j,by refine bT f.c0 ?_;exact iF (fy _),by (refine bT f.c0 ?_;refine bT f.fS ?_);exact i,fun k h=>absurd (f.nj▸h) kx⟩
def rW(f:c[a]? =O (b+1))(i:c[a+1]? =O b):vb c a (iT .gA):=⟨by kernel_rfl,b+1,f,iF (fy _),i,fun j h=>dy h⟩
def Eh(f:c[a]? =O (b+1))(i:c[a+1]? =O b):vb c a (iT .ew):=⟨by kernel_rfl,b+1,f,iF (fy _),i,fun j h=>dy h⟩
def FU(f:c[a]? =O (b+1))(i:c[a+1]? =O (b+2)):vb c a (iT .kq):=⟨by kernel_rfl,b+1,f,iF (fy _),i,fun j h=>dy h⟩
def nA(f:c[a]? =O (b+2))(i:c[a+1]? =O (b+2)):vb c a (iT .dt):=⟨by kernel_rfl,b+2,f,iF (iF (fy _)),i,fun j h=>dy h⟩
def o5{h:Option Nat}(k:c[a]? =O b)(j:c[a+1]? =O b)(i:∀f,h=O f→c[a+f]? =O b):vb c a (jo .cI h):=⟨rfl,b,k,fy _,j,fun f l=>i f⟩
def pA{h:Option Nat}(k:c[a]? =O (b+1))(j:c[a+1]? =O (b+1))(i:∀f,h=O f→c[a+f]? =O (b+1)):vb c a (jo .eL h):=⟨rfl,b+1,k,iF (fy _),j,fun f l=>i f⟩
def rC{h:Op}(j:h.cg=ar){i:Option Nat}(m:c[a]? =O (b+1))(l:c[a+1]? =O b)(k:∀f,i=O f→c[a+f]? =O b):vb c a (jo h i):=by
 induction h<;>first|exact ⟨rfl,b+1,m,iF (fy _),l,fun f n=>k f⟩|exact dy j
def Po:mP b M9:=⟨by kernel_rfl,fy _,rfl,rfl,rfl,rfl⟩
def Kz:mP b FT:=⟨by kernel_rfl,fy _,rfl,rfl,rfl,rfl⟩
def So:mP b WB:=⟨by kernel_rfl,fy _,rfl,rfl,rfl,rfl⟩
end
noncomputable def uu(a:List Nat):Nat→List W→Prop
 |_,[] =>True
 |b,c::d=>vb a b c∧uu a (b+1) d
def uu.iU{f:List Nat}{e:List W}:∀{c a:Nat}{d:W},uu f c e→e[a]? =O d→vb f (c+a) d:=by
 induction e with
 |nil=>exact fun i b=>cG b
 |cons k j h=>
  intro c a d g b
  induction a with
  |zero=>exact dg b▸g.1
  |succ a=>
   rw [← nH,nS]
   exact h g.2 b
def Ht(d:List W):Prop:=∀(b:Nat)(a:W)(c:Nat),d[b]? =O a→a.bV.b8=ar→a.g=O c→b+c<d.length
structure qS(h:Nat)(l:List W):Prop where
 acJ:∃hs:List Nat,hs[0]? =O h∧hs.length=l.length+1∧uu hs 0 l
 cC:l.length≤5
 iz:∃t w,l=t++[w] ∧(w.bV.b8=b2→w.g=b1)∧(w.bV.dR=ar→w.g≠O 1→Ht l)
def pB(a:List W):bl:=.a3 (a.map W.kO)
noncomputable def AV(b:dz):cW:=match b.cN with
 |.cA a=>a
 |_=>.N
section
variable{b:Nat}{a:Bool}
def jr{c d:Nat}(g:c+d≤5000)(e:Nat)(f:e≤d):c+e≤5000:=cu (jq f c) g
def mP.up{d:Nat}{e:W}(c:mP d e):mP (d+1) e:=⟨c.cF,uL c.c0,by (refine bT (Nat.succ_sub c.c0) ?_;rewrite [TM];refine bT c.fS ?_;rfl),c.nj,c.ne,c.g⟩
def H0{d:Nat}:EC (vC cr (b+4)) 45 [.cq 0,.f (.Z d)] a 5 fun h=>∃u,qS d u∧h=pB u:=FS rfl rfl rfl rfl fun G e A z C F j x t=>by
 refine ec e (f7 (c:=3) (by decide) (by decide)) (jr j 1 (by decide)) x fun I h s f=>?_
 refine bU fun c=>?_
 obtain ⟨r,y,rfl⟩:=f
 refine c ?_;try clear c
 refine cD (fun q=>?_) fun q=>?_
 ·refine ec e lp (jr j 3 (by decide)) s fun w h k f=>?_
  refine bU fun c=>?_
  obtain ⟨i,l,rfl⟩:=f
  refine c ?_;try clear c
  refine ec e BR j k fun n h o f=>?_
  refine bU fun c=>?_
  obtain ⟨g,m,rfl⟩:=f
  refine c ?_;try clear c
  exact t n _ _ o ⟨[i,jo .eL (O 3),iT .kq,g,iT .gA],⟨⟨[d,d+1,d+1,d+2,d+1,d],rfl,rfl,l.eH rfl rfl,pA rfl rfl (fun r e=>by obtain rfl:=dg e;rfl),FU rfl rfl,m.eH rfl rfl,rW rfl rfl,trivial⟩,dX 5,⟨[i,jo .eL (O 3),iT .kq,g],iT .gA,rfl,fun v=>rfl,fun p=>dy p⟩⟩,rfl⟩ s9
 refine cD (fun q=>?_) fun q=>?_
 ·refine ec e lp (jr j 3 (by decide)) s fun w h k f=>?_
  refine bU fun c=>?_
  obtain ⟨i,l,rfl⟩:=f
  refine c ?_;try clear c
  refine ec e lp j k fun n h o f=>?_
  refine bU fun c=>?_
  obtain ⟨g,m,rfl⟩:=f
  refine c ?_;try clear c
  exact t n _ _ o ⟨[i,jo .eL (O 3),iT .gA,g,iT .gA],⟨⟨[d,d+1,d+1,d,d+1,d],rfl,rfl,l.eH rfl rfl,pA rfl rfl (fun r e=>by obtain rfl:=dg e;rfl),rW rfl rfl,m.eH rfl rfl,rW rfl rfl,trivial⟩,dX 5,⟨[i,jo .eL (O 3),iT .gA,g],iT .gA,rfl,fun v=>rfl,fun p=>dy p⟩⟩,rfl⟩ s9
 ·refine ec e lp (jr j 3 (by decide)) s fun w h k f=>?_
  refine bU fun c=>?_
  obtain ⟨i,l,rfl⟩:=f
  refine c ?_;try clear c
  refine ec e lp j k fun n h o f=>?_
  refine bU fun c=>?_
  obtain ⟨g,m,rfl⟩:=f
  refine c ?_;try clear c
  exact t n _ _ o ⟨[i,g,jo .eL (O 2),iT .dt,iT .dt],⟨⟨[d,d+1,d+2,d+2,d+2,d+2],rfl,rfl,l.eH rfl rfl,m.up.eH rfl rfl,pA rfl rfl (fun r e=>by obtain rfl:=dg e;rfl),nA rfl rfl,nA rfl rfl,trivial⟩,dX 5,⟨[i,g,jo .eL (O 2),iT .dt],iT .dt,rfl,fun v=>rfl,fun p=>dy p⟩⟩,rfl⟩ s9
end
structure lV(h:Nat)(w:W):Prop where
 g:w.g=b1
 cF:w.dh.cF ar=ar
 c0:w.bV.c0≤h
def LS(f:Nat)(b c:bS)(d:Nat)(a:List bl):Prop:=(∃h,c=b++h)∧(c[d]? =O (O (.a3 a)))∧(a.length≤12)∧(b.length≤d)∧(∀g∈a,∃e,lV f e∧g=W.kO e)
section
variable{f:Nat}{c d:bS}{e:Nat}{b:List bl}(a:LS f c d e b)
include a
def LS.Na:∃g,d=c++g:=a.1
def LS.eH:d[e]? =O (O (.a3 b)):=a.2.1
def LS.cC:b.length≤12:=a.2.2.1
def LS.mC:c.length≤e:=a.2.2.2.1
def LS.all:∀h∈b,∃g,lV f g∧h=W.kO g:=a.2.2.2.2
end
def LS.mN{g:Nat}{d b:bS}{a:List bl}(h:∃c,b=d++c)(i:a.length≤12)(k:∀j∈a,∃f,lV g f∧j=W.kO f):LS g d (b++[O (.a3 a)]) b.length a:=
 let ⟨c,e⟩:=h
 ⟨⟨c++[O (.a3 a)],by (refine bT e ?_;rw [m8])⟩,eo _ _ _,i,by (refine bT e ?_;refine bT dZ ?_);exact fg _ _,k⟩
def H1{c:Nat}{d:List bl}{a:W}(h:∀b∈d,∃a,lV c a∧b=W.kO a)(e:lV c a):∀b∈d++[a.kO],∃a,lV c a∧b=W.kO a:=fun b f=>
 (my.mp f).elim (h b) fun g=>⟨a,e,ib.mp g⟩
def Sp{a d b:bS}{c:Nat}{e:Option dw}(f:d=a++b)(g:a.length≤c):∃b,d.set c e=a++b:=⟨b.set (c-a.length) e,by (refine bT f ?_;refine bT (Cc _ _ g) ?_;rfl)⟩
def LS.d0{e:Nat}{f g:bS}{c:Nat}{b:List bl}{d:W}(a:LS e f g c b)(i:lV e d)(j:b.length≤11):LS e f (g.set c (O (.a3 (b++[d.kO])))) c (b++[d.kO]):=
 let ⟨k,h⟩:=a.Na
 ⟨Sp h a.mC,Gj (fJ.mp a.eH).1,by refine bT dZ ?_;exact iF j,a.mC,H1 a.all i⟩
def Ei{c:Nat}:∀{b:List W},(∀a∈b,lV c a)→∀d∈b.map W.kO,∃a,lV c a∧d=W.kO a:=fun {b} h d g=>
 let ⟨a,e,f⟩:=hJ.mp g
 ⟨a,h a e,f.symm⟩
def mP.o9{b:Nat}{c:W}(a:mP b c):lV b c:=⟨a.g,a.cF,a.c0⟩
section
variable{b:Nat}{a:Bool}
def V0{f:dw}{c:bS}{d:Nat}{e:List bl}{g:bl}(h:c[d]? =O (O (.a3 e)))(i:e.length≤100000):jk cr (O f::c) .eJ (.cq (d+1)) [.f g] =O (.f .bX,O f::c.set d (O (.a3 (e++[g])))):=io (a:=O f::c) h i
def aaB{c:bS}{d:Nat}{e f:List bl}(h:c[d]? =O (O (.a3 e)))(i:(e++f).length≤100000):pn c b2 .dc (.cq d) (.f (.a3 f))=O (.cq c.length,c++[O (.a3 (e++f))]):=by
 have g:kI c (.cq d)=O e:=FC h
 show (kI c (.cq d)).bind _=_
 refine bT g ?_
 exact g4 i
def aaC{f:Nat}:EC (vC cr (b+4)) 46 [.cq 0,.f (.Z f)] a 6 fun n=>∃k,lV f k∧n=W.kO k:=FS rfl rfl rfl rfl fun P w I y j L C T ae=>by
 have aa:∀(i:dw)(e:bS)(h:Nat)(g:List bl),GB a (I+5) i→LS f j e h g→g≠ [] →fG ⟨cr,P⟩ (fo 4 (AV po)) [O (.cq 0),O (.f (.Z f)),O (.cq (h+1))] (O i::e) (lG b2 (O y::j).length L):=fun i e h g o d v=>by
  apply aj;exact uo (a:=O i::e) (b:=h+1) d.eH (cu d.cC (by decide))
  refine ec w (f7 (Cg.mpr v) (kT d.cC (by decide))) C o fun q n u r=>?_
  refine bU fun l=>?_
  obtain ⟨s,R,rfl⟩:=r
  refine l ?_;try clear l
  apply aj;exact zD (a:=O q::e) (c:=h+1) d.eH (gS R) (cu d.cC (by decide))
  obtain ⟨ai,ah⟩:=d.Na
  refine ae q _ _ u (d.all _ (vR R)) ?_
  refine bT ah ?_;exact Hp
 have Y:∀(i:dw)(e:bS)(h:Nat)(g:List bl),GB a (I+3) i→LS f j e h g→g.length≤6→(g=[] →f<3)→fG ⟨cr,P⟩ (fo 3 (AV po)) [O (.cq 0),O (.f (.Z f)),O (.cq (h+1))] (O i::e) (lG b2 (O y::j).length L):=fun i e h g o d af v=>by
  refine cD (fun m=>?_) fun m=>?_
  ·refine ec w lp (jr C 5 (by decide)) o fun q n u r=>?_
   refine bU fun l=>?_
   obtain ⟨k,s,rfl⟩:=r
   refine l ?_;try clear l
   have A:(g++[k,M9,FT,WB,jo .cI b1].map W.kO).length≤11:=by refine bT dZ ?_;exact m7 af 5
   have Q:∀x∈g++[k,M9,FT,WB,jo .cI b1].map W.kO,∃k,lV f k∧x=W.kO k:=fun x G=>(my.mp G).elim (d.all x) fun G=>Ei (fun n c=>by
    rcases eP.mp c with rfl|c
    ·exact s.o9
    rcases eP.mp c with rfl|c
    ·exact (Po (b:=f)).o9
    rcases eP.mp c with rfl|c
    ·exact (Kz (b:=f)).o9
    rcases eP.mp c with rfl|c
    ·exact (So (b:=f)).o9
    refine bT (ib.mp c) ?_
    exact ⟨rfl,rfl,fy _⟩) x G
   apply aj;exact aaB (c:=O q::e) (d:=h+1) d.eH (cu A (by decide))
   have F:=LS.mN d.Na (cu A (by decide)) Q
   apply aj;exact dK (a:=O q::(e++[_])) (b:=e.length+1) F.eH
   apply aj;exact V0 F.eH (cu A (by decide))
   refine aa _ _ _ _ u (F.d0 (d:=aaA) ⟨rfl,by kernel_rfl,fy _⟩ A) (by (rewrite [← Cg];refine bT dZ ?_);exact nI _)
  ·refine aa _ _ _ _ (o.up (by lia)) d (fun p=>of_decide_eq_false m (kY.mpr (v p)))
 have X:∀(i:dw)(e:bS)(h:Nat)(g:List bl),GB a (I+3) i→LS f j e h g→g.length≤5→(g=[] →f<3)→fG ⟨cr,P⟩ (fo 2 (AV po)) [O (.cq 0),O (.f (.Z f)),O (.cq (h+1))] (O i::e) (lG b2 (O y::j).length L):=fun i e h g o d z v=>by
  refine cD (fun m=>?_) fun m=>?_
  ·apply aj;exact dK (a:=O i::e) (b:=h+1) d.eH
   apply aj;exact V0 d.eH (cu z (by decide))
   refine Y _ _ _ _ o (d.d0 (d:=iT .dt) ⟨rfl,by kernel_rfl,kY.mp (of_decide_eq_true m)⟩ (cu z (by decide))) (by refine bT dZ ?_;exact iF z) (fun p=>?_)
   exact absurd (congrArg qE p) (by refine bT dZ ?_;exact TG _)
  ·exact Y _ _ _ _ o d (uL z) v
 have ag:LS f j (j++[O (.a3 [])]) j.length [] :=LS.mN ⟨[],(kX j).symm⟩ (fy _) fun ac p=>absurd p gD
 apply aj;exact g4 (a:=O y::j) (by decide)
 refine cD (fun m=>?_) fun m=>?_
 ·refine ec w BR (jr C 2 (by decide)) T fun i n o r=>?_
  refine bU fun l=>?_
  obtain ⟨k,s,rfl⟩:=r
  refine l ?_;try clear l
  refine ec w (qx b1) (jr C 3 (by decide)) o fun q n u r=>?_
  refine bU fun l=>?_
  obtain ⟨K,ab,rfl⟩:=r
  refine l ?_;try clear l
  have t:1≤f:=kY.mp (of_decide_eq_true m)
  have Q:∀n∈ [iT .gA,k,jo K b1,jo .eL b1,iT .ew],lV f n:=fun n c=>by
   rcases eP.mp c with rfl|c
   ·exact ⟨rfl,by kernel_rfl,t⟩
   rcases eP.mp c with rfl|c
   ·exact ⟨s.g,s.cF,s.c0.symm▸t⟩
   rcases eP.mp c with rfl|c
   ·induction K<;>first|exact ⟨rfl,rfl,t⟩|exact dy ab
   rcases eP.mp c with rfl|c
   ·exact ⟨rfl,rfl,t⟩
   refine bT (ib.mp c) ?_
   exact ⟨rfl,by kernel_rfl,t⟩
  apply aj;exact g4 (a:=O q::(j++[O (.a3 [])])) (b:=[iT .gA,k,jo K b1,jo .eL b1,iT .ew].map W.kO) (er rfl)
  exact X _ _ _ _ u (LS.mN ⟨_,rfl⟩ (er rfl) (Ei Q)) (er rfl) fun p=>nomatch p
 ·exact X _ _ _ _ (T.up (fg _ _)) ag (fy _) fun ac=>LU fun p=>of_decide_eq_false m (kY.mpr (hH (by decide) p))
end
noncomputable def Hu(c:Nat):Nat→List W→Prop
 |_,[] =>True
 |a,d::e=>(∀b,d.g=O b→a+b<c)∧Hu c (a+1) e
def Hu.iU{i:Nat}{f:List W}:∀{c a d:Nat}{e:W},Hu i c f→f[a]? =O e→e.g=O d→c+a+d<i:=by
 induction f with
 |nil=>exact fun k b=>cG b
 |cons m l j=>
  intro c a d e h b g
  induction a with
  |zero=>exact h.1 d ((congrArg W.g (dg b)).trans g)
  |succ a=>
   (rewrite [← nH];refine bT (nS c a 1) ?_)
   exact j h.2 b g
def Ht.eI{a:List W}(e:Hu a.length 0 a):Ht a:=fun b g h c f d=>kU b▸e.iU c d
def nq{c:W}{d:Nat→Prop}(e:c.g=b1):∀a,c.g=O a→d a:=fun a b=>absurd (e.symm.trans b) (fun b=>cG b)
def qS.C1{d:Nat}{b e:List W}{a:W}(c:List Nat)(k:c[0]? =O d)(i:c.length=b.length+1)(l:uu c 0 b)(j:b.length≤5)(h:b=e++[a])(g:a.bV.dR=ar→a.g≠O 1→Ht b)(f:a.bV.b8=b2→a.g=b1):qS d b:=⟨⟨c,k,i,l⟩,j,e,a,h,f,g⟩
def Sq{a:Op}(b:a.cg=ar):a.b8=ar:=by induction a<;>first|rfl|exact dy b
section
variable{c:Nat}{b:Bool}{a:Nat}
def lV.aaD{e:W}(d:lV a e):qS a [e] :=.C1 (e:=[]) (a:=e) [a,a-e.bV.c0+e.bV.fS] rfl rfl ⟨⟨d.cF,a,rfl,d.c0,rfl,fun f f g=>nq (d:=fun d=>_) d.g _ g⟩,trivial⟩ (er rfl) rfl (fun f f=>.eI ⟨nq d.g,trivial⟩) fun f=>d.g
def I9{L:Nat}:EC (vC cr (c+5)) 47 [.cq 0,.f (.Z a),.f (.Z L)] b 6 fun j=>∃K,qS a K∧j=pB K:=FS rfl rfl rfl rfl fun W f Q P R T t q o=>by
 have w:=jr t 2 (by decide)
 have z:=jr t 4 (by decide)
 refine cD (fun l=>?_) fun l=>?_
 ·refine ec f lp w q fun n j k e=>?_
  refine bU fun d=>?_
  obtain ⟨g,i,rfl⟩:=e
  refine d ?_;try clear d
  refine ec f lp z k fun u j s e=>?_
  refine bU fun d=>?_
  obtain ⟨p,x,rfl⟩:=e
  refine d ?_;try clear d
  exact o u _ _ (s.up (fg _ 2)) ⟨[g,p,iT .gA,iT .gA],.C1 (e:=[g,p,iT .gA]) (a:=iT .gA) [a,a+1,a+2,a+1,a] rfl rfl ⟨i.eH rfl rfl,x.up.eH rfl rfl,rW rfl rfl,rW rfl rfl,trivial⟩ (er rfl) rfl (fun h=>dy h) fun m=>rfl,rfl⟩ s9
 refine cD (fun l=>?_) fun l=>?_
 ·refine ec f lp w q fun n j k e=>?_
  refine bU fun d=>?_
  obtain ⟨g,i,rfl⟩:=e
  refine d ?_;try clear d
  refine ec f (qx (O 2)) (jr t 3 (by decide)) k fun u j s e=>?_
  refine bU fun d=>?_
  obtain ⟨v,y,rfl⟩:=e
  refine d ?_;try clear d
  exact o u _ _ (s.up (fg _ 3)) ⟨[g,jo v (O 2),jo .cI b1,jo .cI b1],.C1 (e:=[g,jo v (O 2),jo .cI b1]) (a:=jo .cI b1) [a,a+1,a,a,a] rfl rfl ⟨i.eH rfl rfl,rC y rfl rfl (fun r f=>by obtain rfl:=dg f;rfl),o5 rfl rfl (nq (c:=jo .cI b1) rfl),o5 rfl rfl (nq (c:=jo .cI b1) rfl),trivial⟩ (er rfl) rfl (fun m m=>.eI ⟨nq i.g,(fun r f=>by obtain rfl:=dg f;exact er rfl),nq rfl,nq rfl,trivial⟩) fun m=>rfl,rfl⟩ s9
 refine cD (fun l=>?_) fun l=>?_
 ·refine ec f lp w q fun n j k e=>?_
  refine bU fun d=>?_
  obtain ⟨g,i,rfl⟩:=e
  refine d ?_;try clear d
  refine ec f lp z k fun u j s e=>?_
  refine bU fun d=>?_
  obtain ⟨p,x,rfl⟩:=e
  refine d ?_;try clear d
  refine ec f (f7 (c:=2) (by decide) (by decide)) (jr t 5 (by decide)) s fun G j A e=>?_
  refine bU fun d=>?_
  obtain ⟨r,C,rfl⟩:=e
  refine d ?_;try clear d
  rcases r with _|_|r
  ·exact o G _ _ (A.up (fM _)) ⟨[g,p,iT .dt,iT .dt],.C1 (e:=[g,p,iT .dt]) (a:=iT .dt) [a,a+1,a+2,a+2,a+2] rfl rfl ⟨i.eH rfl rfl,x.up.eH rfl rfl,nA rfl rfl,nA rfl rfl,trivial⟩ (er rfl) rfl (fun h=>dy h) fun m=>rfl,rfl⟩ s9
  ·exact o G _ _ (A.up (fM _)) ⟨[g,p,iT .dt,iT .dt,iT .dt],.C1 (e:=[g,p,iT .dt,iT .dt]) (a:=iT .dt) [a,a+1,a+2,a+2,a+2,a+2] rfl rfl ⟨i.eH rfl rfl,x.up.eH rfl rfl,nA rfl rfl,nA rfl rfl,nA rfl rfl,trivial⟩ (er rfl) rfl (fun h=>dy h) fun m=>rfl,rfl⟩ s9
  ·exact absurd C (jI.mpr (B8 ..))
 refine cD (fun l=>?_) fun l=>?_
 ·refine ec f lp w q fun n j k e=>?_
  refine bU fun d=>?_
  obtain ⟨g,i,rfl⟩:=e
  refine d ?_;try clear d
  exact o n _ _ (k.up (fg _ 4)) ⟨[g,iT .kq,iT .dt],.C1 (e:=[g,iT .kq]) (a:=iT .dt) [a,a+1,a+2,a+2] rfl rfl ⟨i.eH rfl rfl,FU rfl rfl,nA rfl rfl,trivial⟩ (er rfl) rfl (fun h=>dy h) fun m=>rfl,rfl⟩ s9
 refine cD (fun l=>?_) fun l=>?_
 ·refine ec f lp w q fun n j k e=>?_
  refine bU fun d=>?_
  obtain ⟨g,i,rfl⟩:=e
  refine d ?_;try clear d
  refine ec f BR z k fun u j s e=>?_
  refine bU fun d=>?_
  obtain ⟨p,x,rfl⟩:=e
  refine d ?_;try clear d
  exact o u _ _ (s.up (fg _ 2)) ⟨[g,iT .kq,p,iT .gA],.C1 (e:=[g,iT .kq,p]) (a:=iT .gA) [a,a+1,a+2,a+1,a] rfl rfl ⟨i.eH rfl rfl,FU rfl rfl,x.eH rfl rfl,rW rfl rfl,trivial⟩ (er rfl) rfl (fun h=>dy h) fun m=>rfl,rfl⟩ s9
 refine cD (fun l=>?_) fun l=>?_
 ·refine ec f H0 (jr t 5 (by decide)) q fun n j k e=>?_
  exact o n _ _ (k.up (fM _)) e s9
 refine cD (fun l=>?_) fun l=>?_
 ·refine ec f ta (jr t 1 (by decide)) q fun n j k e=>?_
  refine bU fun d=>?_
  obtain ⟨g,i,rfl⟩:=e
  refine d ?_;try clear d
  refine ec f (qx b1) w k fun u j s e=>?_
  refine bU fun d=>?_
  obtain ⟨v,y,rfl⟩:=e
  refine d ?_;try clear d
  exact o u _ _ (s.up (fg _ 4)) ⟨[g,jo v b1],.C1 (e:=[g]) (a:=jo v b1) [a,a+1,a] rfl rfl ⟨i.fS.eH rfl rfl,rC y rfl rfl (nq (c:=jo v b1) rfl),trivial⟩ (er rfl) rfl (fun m m=>.eI ⟨nq i.g,nq rfl,trivial⟩) fun m=>rfl,rfl⟩ s9
 refine cD (fun l=>?_) fun l=>?_
 ·refine ec f ta (jr t 1 (by decide)) q fun n j k e=>?_
  refine bU fun d=>?_
  obtain ⟨g,i,rfl⟩:=e
  refine d ?_;try clear d
  exact o n _ _ (k.up (fg _ 5)) ⟨[g,jo .cI b1],.C1 (e:=[g]) (a:=jo .cI b1) [a,a+1,a+1] rfl rfl ⟨i.fS.eH rfl rfl,o5 rfl rfl (nq (c:=jo .cI b1) rfl),trivial⟩ (er rfl) rfl (fun m m=>.eI ⟨nq i.g,nq rfl,trivial⟩) fun m=>rfl,rfl⟩ s9
 refine cD (fun l=>?_) fun l=>?_
 ·refine ec f lp w q fun n j k e=>?_
  refine bU fun d=>?_
  obtain ⟨g,i,rfl⟩:=e
  refine d ?_;try clear d
  refine ec f (qx (O 1)) (jr t 3 (by decide)) k fun u j s e=>?_
  refine bU fun d=>?_
  obtain ⟨v,y,rfl⟩:=e
  refine d ?_;try clear d
  refine ec f ta z s fun G j A e=>?_
  refine bU fun d=>?_
  obtain ⟨p,x,rfl⟩:=e
  refine d ?_;try clear d
  refine ec f (f7 (c:=3) (by decide) (by decide)) (jr t 5 (by decide)) A fun I j F e=>?_
  refine bU fun d=>?_
  obtain ⟨r,C,rfl⟩:=e
  refine d ?_;try clear d
  rcases r with _|_|_|r
  ·exact o I _ _ (F.up (fM _)) ⟨[jo .cI (O 1)],.C1 (e:=[]) (a:=jo .cI (O 1)) [a,a] rfl rfl ⟨o5 rfl rfl (fun r f=>by obtain rfl:=dg f;rfl),trivial⟩ (er rfl) rfl (fun m h=>absurd rfl h) (fun h=>dy h),rfl⟩ s9
  ·exact o I _ _ (F.up (fM _)) ⟨[g,jo v (O 1)],.C1 (e:=[g]) (a:=jo v (O 1)) [a,a+1,a] rfl rfl ⟨i.eH rfl rfl,rC y rfl rfl (fun r f=>by obtain rfl:=dg f;rfl),trivial⟩ (er rfl) rfl (fun m h=>absurd rfl h) (fun h=>absurd ((Sq y).symm.trans h) (fun h=>dy h)),rfl⟩ s9
  ·exact o I _ _ (F.up (fM _)) ⟨[p,jo .eL (O 1)],.C1 (e:=[p]) (a:=jo .eL (O 1)) [a,a+1,a+1] rfl rfl ⟨x.fS.eH rfl rfl,pA rfl rfl (fun r f=>by obtain rfl:=dg f;rfl),trivial⟩ (er rfl) rfl (fun m h=>absurd rfl h) (fun h=>dy h),rfl⟩ s9
  ·exact absurd C (jI.mpr (B8 ..))
 refine cD (fun l=>?_) fun l=>?_
 ·refine ec f lp w q fun n j k e=>?_
  refine bU fun d=>?_
  obtain ⟨g,i,rfl⟩:=e
  refine d ?_;try clear d
  exact o n _ _ (k.up (fg _ 4)) ⟨[jo .cI (O 3),g,iT .gA],.C1 (e:=[jo .cI (O 3),g]) (a:=iT .gA) [a,a,a+1,a] rfl rfl ⟨o5 rfl rfl (fun r f=>by obtain rfl:=dg f;rfl),i.eH rfl rfl,rW rfl rfl,trivial⟩ (er rfl) rfl (fun h=>dy h) fun m=>rfl,rfl⟩ s9
 ·refine ec f aaC t q fun n j k e=>?_
  refine bU fun d=>?_
  obtain ⟨g,i,rfl⟩:=e
  refine d ?_;try clear d
  exact o n _ _ k ⟨[g],i.aaD,rfl⟩ s9
end
def Ej(a:Op):Int:=(a.fS:Int)-a.c0
noncomputable def WC:Op→Bool
 |.gA|.ew=>ar
 |_=>b2
noncomputable def isZ:Op→Bool
 |.dt|.cI|.eL|.gz _=>ar
 |_=>b2
def aci:(fu.all fun a=>eA (ic (.ad a.cT) [.ad "pop",.ad "leave"]) (WC a))=ar:=by kernel_rfl
def z_b:(fu.all fun a=>eA (ic (.ad a.cT) [.ad "swap",.ad "jump",.ad "jumpnil",.ad "fail"]) (isZ a))=ar:=by kernel_rfl
def XR(a:Op):(cond (WC a||a.fQ||a.cg) (Ej a== -1) (Ej a==cond (isZ a) 0 1))=ar:=jf (b:=fun a=>cond (WC a||a.fQ||a.cg) (Ej a== -1) (Ej a==cond (isZ a) 0 1)) (by kernel_rfl) a
def Sr{a:Op}{b:Nat}(c:a.c0≤b):(b:Int)+Ej a=((b-a.c0+a.fS:Nat):Int):=by
 (rewrite [UH];refine bT (Int.natCast_sub c) ?_)
 unfold Ej
 (refine bT MC ?_;refine bT MC ?_;rw [UK,Int.add_comm (a.fS:Int)])
def PH(c:bS)(a:dw)(b:List W)(d:List Nat):bS:=O a::(c++[O (.a3 (b.map W.kO)),O (.a3 (cU d))])
section
variable{a:Nat}
def Pp(b:Op):PC (vC cr (a+1)) 48 [.f (.ad b.cT)] (.Z (Ej b)):=pf rfl rfl rfl rfl fun l j k g d=>by
 have c:=XR b
 apply aj;exact ol aci b
 refine cD (fun e=>?_) fun e=>?_
 ·rw [e] at c
  rw [dr (show (Ej b== -1)=ar from c)] at d
  refine gL e ?_
  exact c8 (b:=g) d eO
 apply aj;exact ol xO b
 refine cD (fun f=>?_) fun f=>?_
 ·rw [e,f] at c
  rw [dr (show (Ej b== -1)=ar from c)] at d
  refine gL f ?_
  exact c8 (b:=g) d eO
 apply aj;exact gU b
 refine cD (fun i=>?_) fun i=>?_
 ·rw [e,f,i] at c
  rw [dr (show (Ej b== -1)=ar from c)] at d
  exact c8 (b:=g) d eO
 rw [e,f,i] at c
 apply aj;exact ol z_b b
 refine cD (fun h=>?_) fun h=>?_
 ·rw [h] at c
  rw [dr (show (Ej b==0)=ar from c)] at d
  exact c8 (b:=g) d eO
 ·rw [h] at c
  rw [dr (show (Ej b==1)=ar from c)] at d
  exact c8 (b:=g) d eO
def PH.cC{b:bS}{c:dw}{e f:List W}{d g:List Nat}:(PH b c e d).take (PH b c f g).length=PH b c e d:=Cb (by unfold PH;(refine bT lZ ?_;refine bT lZ ?_;refine bT dZ ?_;refine bT dZ ?_);exact dX _)
def XS{b:bS}{c:dw}{d:List W}{e:List Nat}:jN cr (PH b c d e) (.cq (b.length+1)) "append"=O .eJ:=dK (a:=PH b c d e) (b:=b.length+1) (eo b _ _)
def XT{b:bS}{c:dw}{d:List W}{e:List Nat}:jN cr (PH b c d e) (.cq (b.length+2)) "append"=O .eJ:=dK (a:=PH b c d e) (b:=b.length+2) (kM b _ _ _)
def aaE{b:bS}{e:dw}{c:List W}{d:List Nat}{f:W}(g:c.length≤500):jk cr (PH b e c d) .eJ (.cq (b.length+1)) [.f f.kO] =O (.f .bX,PH b e (c++[f]) d):=by
 refine (io (a:=PH b e c d) (b:=b.length+1) (eo b _ _) (by rw [et];exact cu g (by decide))).trans ?_
 unfold PH
 (refine bT za ?_;rewrite [kk];refine bT r8 ?_);rfl
def aaF{b:bS}{d:dw}{e:List W}{c:List Nat}{f:Nat}(g:c.length≤500):jk cr (PH b d e c) .eJ (.cq (b.length+2)) [.f (.Z f)] =O (.f .bX,PH b d e (c++[f])):=by
 refine (io (a:=PH b d e c) (b:=b.length+2) (kM b _ _ _) (by unfold cU;rw [et];exact cu g (by decide))).trans ?_
 unfold PH
 (refine bT za ?_;rw [zC,py])
def FV{e:bS}{h:dw}{f b:List W}{g c:List Nat}{p m:Nat}(F:uu c 0 b)(z:c[0]? =O p)(x:c[b.length]? =O m)(y:f.length≤20)(G:g.length≤20)(n:b.length≤5):
  RC (vC cr (a+2)) 49 [.cq (e.length+1),.cq (e.length+2),.f (pB b),.f (.Z p)] (.Z m) (PH e h f g) (PH e h (f++b) (g++c.take b.length)):=rf rfl rfl rfl rfl fun X u K C=>by
 apply aj;exact eh (cu n (by decide))
 have v:c.getD 0 0=p:=by (rewrite [Ca];refine bT z ?_);rfl
 have A:c.getD b.length 0=m:=by (rewrite [Ca];refine bT x ?_);rfl
 subst v
 have R:PH e h f g=PH e h (f++b.take 0) (g++c.take 0):=by (refine bT Mg ?_;refine bT Mg ?_;rw [kX,kX])
 refine bT R ?_
 refine qe (fun d=>PH e h (f++b.take d) (g++c.take d)) (fun d (k:Option bZ)=>[O (.cq (e.length+1)),O (.cq (e.length+2)),O (.f (pB b)),O (.f (.Z (c.getD d 0:Nat))),k]) (a:=b1) (fun d i k T o j=>?_) fun k=>?_
 ·refine bU fun r=>?_
  obtain ⟨_,q,l,P,s,_⟩:=F.iU o
  refine r ?_;try clear r
  rw [kU] at l s
  have I:c.getD d 0=q:=by (rewrite [Ca];refine bT l ?_);rfl
  have t:c.getD (d+1) 0=q-i.bV.c0+i.bV.fS:=by (rewrite [Ca];refine bT s ?_);rfl
  have j:=j (O (.f i.kO))
  rw [t,qC,o,qC,l,← m8,← m8,← Sr P] at j
  have L:(f++b.take d).length≤25:=by
   refine bT dZ ?_
   exact pH y (cu (yB _ _) n)
  have Q:d<b.length:=(fJ.mp o).1
  have w:(g++c.take d).length≤25:=by
   refine bT dZ ?_
   exact pH G (cu (Ch _ _) (cu (iG Q) n))
  refine bT I ?_
  apply aj;exact XS
  apply aj;exact aaE (cu L (by decide))
  apply aj;exact XT
  apply aj;exact aaF (cu w (by decide))
  refine pc u (Pp i.bV) ?_
  exact j
 ·(refine bT eO ?_;refine bT A ?_)
  exact c8 (b:=K) C PH.cC
end
structure Zc(XU hs:List Nat)(p:Nat)(w:W):Prop where
 cF:w.dh.cF ar=ar
 ach:∃h,XU[p]? =O h∧w.bV.c0≤h∧(w.bV.dR=b2→hs[p+1]? =O (h-w.bV.c0+w.bV.fS))∧∀k,w.bV.b8=ar→w.g=O k→hs[p+k]? =O (h-w.bV.c0+w.bV.fS)
def hY(d:List W)(a:List Nat)(e:Nat):Prop:=(a.length=d.length)∧((a++[e])[0]? =O 0)∧(∀(b:Nat)(c:W),d[b]? =O c→Zc a (a++[e]) b c)
section
variable{d:List W}{a:List Nat}{c:Nat}(b:hY d a c)
include b
def hY.cC:a.length=d.length:=b.1
def hY.d1:(a++[c])[0]? =O 0:=b.2.1
def hY.dh:∀(f:Nat)(e:W),d[f]? =O e→Zc a (a++[c]) f e:=b.2.2
end
def hY.N:hY [] [] 0:=⟨rfl,rfl,fun a a b=>cG b⟩
def Pq{a:List Nat}{b c:Nat}(e:a.length=b+1)(d:a[b]? =O c):a.take b++[c] =a:=by
 have:=qC (l:=a) (i:=b)
 rw [d,Cb (jH e)] at this
 exact this.symm
def hY.d7{o h:List W}{d e:List Nat}{b q:Nat}(g:hY o d b)(y:e[0]? =O b)(A:e.length=h.length+1)(F:e[h.length]? =O q)(L:uu e 0 h):hY (o++h) (d++e.take h.length) q:=by
 have z:(d++e.take h.length)++[q] =d++e:=by (rewrite [m8];refine bT (Pq A F) ?_;rfl)
 refine bU fun j=>?_
 obtain ⟨c,rfl⟩:∃c,e=b::c:=by
  induction e with
  |nil=>exact cG y
  |cons a c _=>exact ⟨c,by (refine bT (dg y) ?_;rfl)⟩
 refine j ?_;try clear j
 have C:d++b::c=(d++[b])++c:=by rw [m8];rfl
 have t:∀{u a:Nat},(d++[b])[u]? =O a→(d++b::c)[u]? =O a:=fun {u a} f=>by
  (refine bT C ?_;rw [ph (fJ.mp f).1]);exact f
 have K:((b::c).take h.length).length=h.length:=by (refine bT zd ?_;refine bT A ?_);exact y6 (fM _)
 refine ⟨by (refine bT dZ ?_;refine bT dZ ?_;refine bT g.cC ?_;refine bT K ?_;rfl),z▸t g.d1,fun n I m=>?_⟩
 refine bT z ?_
 by_cases i:n<o.length
 ·rw [ph i] at m
  refine bU fun j=>?_
  obtain ⟨v,w,a,s,p,f⟩:=g.dh n I m
  refine j ?_;try clear j
  exact ⟨v,w,by rw [ph (g.cC.symm▸i)];exact a,s,fun l=>t (p l),fun k r l=>t (f k r l)⟩
 ·have i:=ra i
  rw [la i] at m
  refine bU fun j=>?_
  obtain ⟨v,w,a,s,p,f⟩:=L.iU m
  refine j ?_;try clear j
  rw [kU] at a p f
  have G:=(fJ.mp m).1
  have x:∀{k a:Nat},(b::c)[n-o.length+k]? =O a→(d++b::c)[n+k]? =O a:=fun {k a} f=>by
   rw [la (by refine bT g.cC ?_;exact cu i (fg _ _)),g.cC,LV i];exact f
  refine ⟨v,w,?_,s,fun P=>x p,fun k r l=>x (f k r l)⟩
  rw [la (by refine bT g.cC ?_;exact i),g.cC,Gi G]
  exact a
def AW(c:List W):Prop:=∀(d:Nat)(a:W)(b:Nat),c[d]? =O a→a.bV.b8=ar→a.g=O b→d+b<c.length
def hY.Zd{c d:List W}{k:List Nat}{o:Nat}(i:hY c k o)(l:d≠ [])(m:Ht d):AW (c++d):=fun e h j b f g=>by
 refine bT dZ ?_
 by_cases a:e<c.length
 ·rw [ph a] at b
  obtain ⟨_,p,_,_,_,n⟩:=i.dh e h b
  have:=(fJ.mp (n j f g)).1
  rw [dZ,i.cC] at this
  exact hH this (jq (Cg.mpr l) _)
 ·have a:=ra a
  rw [la a] at b
  have:=m _ h j b f g
  rw [← LV a] at this
  exact (Tw (cu a (fg _ _))).mp this
def hY.Ss{c:List W}{g:List Nat}{l:Nat}(f:hY c g l)(x:AW c){u:List W}{p:W}(i:c=u++[p])(w:p.bV.dR=ar)(n:Nat):hY c g n:=by
 have j:∀{h d:Nat},h<c.length→(g++[l])[h]? =O d→(g++[n])[h]? =O d:=fun {h d} v a=>by
  rw [ph (f.cC.symm▸v)] at a⊢;exact a
 have s:0<c.length:=by (refine bT i ?_;refine bT dZ ?_);exact nI _
 refine ⟨f.cC,j s f.d1,fun q m e=>?_⟩
 refine bU fun r=>?_
 obtain ⟨z,A,d,y,C,a⟩:=f.dh q m e
 refine r ?_;try clear r
 refine ⟨z,A,d,y,fun b=>j ?_ (C b),fun k o b=>j (x q m k e o b) (a k o b)⟩
 have t:=(fJ.mp e).1
 refine y5 t fun a=>?_
 rw [i,dZ,uM] at a
 have a:=mB a
 rw [i,a,la (dX _),pg] at e
 rw [← dg e,w] at b
 exact dy b
def AX{n:cV→bS→KS→Prop}{l:List Nat}{p:Bool}{K:KS}(i:Nat→cV→bS→Prop):∀{c:List bl}{d:Nat},
  (∀(f:Nat)(e:bl)(a:cV)(b:bS)(h:cV→bS→Prop),e∈c→f<d+c.length→i f a b→(∀g o,i (f+1) g o→h g o)→jP a l p e fun g=>n g b (jQ h K))→
  ∀{a:cV}{b:bS},i d a b→(∀a b,i (d+c.length) a b→K .cc a b)→jZ n l p K c a b:=by
 intro c
 induction c with
 |nil=>
  intro _ _ _ _ k j
  exact j _ _ k
 |cons e w q=>
  intro d m _ _ k j
  exact m d e _ _ _ fD (B7 (nI _)) k fun r r s=>q (d:=d+1) (fun f e a b h t u=>m f e a b h (ia _ t) (by (refine bT lZ ?_;rw [← nH,nS]);exact u)) s fun a b v=>j a b (by (refine bT lZ ?_;rw [← nH,nS]);exact v)
section
variable{c:Nat}{b:Bool}{a:bS}
def Ek{d:List W}{e:W}(h:(d++[e]).length≤1000):jX cr a (.f (pB (d++[e]))) (.f (.Z (-1)))=O e.kO:=by
 have g:(pB (d++[e]))=.a3 (d.map W.kO++[e.kO]):=by unfold pB;refine bT r8 ?_;rfl
 have f:g8 (-1) (d.map W.kO++[e.kO]).length=O d.length:=by
  unfold g8
  rw [if_neg (by decide),dZ,et,if_pos ⟨by refine bT uM ?_;lia,by decide⟩]
  congr 1
  refine bT uM ?_;lia
 refine bT g ?_
 show (g8 (-1) (d.map W.kO++[e.kO]).length).bind _=_
 refine bT f ?_
 show (d.map W.kO++[e.kO])[d.length]? =_
 rw [la (by rw [et];exact dX _),et,pg];rfl
def Su{e:W}(i:e.bV.b8=b2→e.g=b1)(j:e.dh.cF ar=ar)(p:e.bV.dR=ar):∃k,(k=ar→e.g≠O 1)∧∀a:bS,fh cr a .ne (.f e.Hr) (.f (.Z 1))=O k:=by
 refine bU fun d=>?_
 obtain ⟨m,n,l,r⟩:=e
 refine d ?_;try clear d
 induction m<;>try cases p
 ·match n with
  |none=>exact ⟨ar,(fun h f=>cG f),fun a=>by kernel_rfl⟩
  |some q=>
   refine ⟨!((q:Int)==1),fun f o=>?_,fun a=>rfl⟩
   obtain rfl:=dg o
   exact dy f
 ·refine bU fun d=>?_
  obtain ⟨g,_⟩:=iX.mp j
  obtain ⟨g,_⟩:=iX.mp g
  obtain rfl:l=.bX:=iA g
  refine d ?_;try clear d
  exact ⟨ar,(fun h f=>nomatch (i rfl).symm.trans f),fun a=>by kernel_rfl⟩
 ·refine bU fun d=>?_
  obtain ⟨g,_⟩:=iX.mp j
  obtain ⟨g,_⟩:=iX.mp g
  obtain rfl:l=.ad "E":=j1 g
  refine d ?_;try clear d
  exact ⟨ar,(fun h f=>nomatch (i rfl).symm.trans f),fun a=>by kernel_rfl⟩
end
noncomputable def KA(b:Nat)(f:Option bZ)(a c:Nat)(e d:Option bZ):cV:=[O (.cq 0),O (.f (.Z b)),f,b1,b1,O (.cq (a+1)),O (.cq (a+2)),O (.f (.Z c)),e,d]
def PI(j:Bool)(b:bS)(e l:Nat)(h:Nat)(g:cV)(i:bS):Prop:=∃(d:dw)(a:List W)(c:List Nat)(f:Nat)(n m k:Option bZ),g=KA e n b.length f m k∧i=PH b d a c∧GB j (l+9*h) d∧hY a c f∧a.length+2≤e
section
variable{m:Nat}{h:Bool}{b:bS}{a:dw}{c:List W}{g:List Nat}{e d i:Nat}{o n l:Option bZ}{k:cK}{j:cV→bS→Prop}{K:KS}
def El(I:k=vC cr (m+5)){s:Nat}(az:d+9*(s+1)≤5000)(x:GB h (d+9*s+8) a)(t:hY c g i)(aa:c.length+2≤e)(ah:e≤20){p:List W}(ai:qS i p)(v:∀R ab,PI h b e d (s+1) R ab→j R ab):
  fG ⟨cr,k⟩ (fo 4 iP) (KA e o b.length i n (O (.f (pB p)))) (PH b a c g) (jQ j K):=by
 have y:c.length≤20:=cu (lC (lC aa)) ah
 have ao:eW (PH b a c g) ar 0 [.cq (b.length+1)] =O (.f (.Z c.length),PH b a c g):=by
  refine (uo (a:=PH b a c g) (b:=b.length+1) (eo b _ _) (by rw [et];exact cu y (by decide))).trans ?_
  rw [et]
 refine bU fun f=>?_
 obtain ⟨⟨ae,Y,af,G⟩,w,T,A,q,aw,ag⟩:=ai
 obtain ⟨u,Q⟩:∃u,ae[p.length]? =O u:=⟨ae[p.length]'(by refine bT af ?_;exact h9 _),gS _⟩
 refine f ?_;try clear f
 apply aj;exact ao
 apply aj;exact eZ (cu w (by decide))
 refine cD (fun ac=>?_) fun ac=>?_
 ·have F:=t.d7 Y af Q G
  have C:(c++p).length+2≤e:=by
   refine bT dZ ?_;exact ZK ac
  refine rc I (FV G Y Q y (t.cC.symm▸y) w) ?_
  have z:p[T.length]? =O A:=by (refine bT q ?_;rw [la (dX _),pg]);rfl
  have ak:=G.iU z
  apply aj;exact q▸Ek (q▸cu w (by decide))
  have P:GB h (d+9*(s+1)) a:=x.up (fM _)
  apply aj;exact xP A.bV
  refine cD (fun r=>?_) fun r=>?_
  ·refine bU fun f=>?_
   obtain ⟨aC,an,av⟩:=Su aw ak.cF r
   refine f ?_;try clear f
   apply aj;exact q▸Ek (q▸cu w (by decide))
   apply aj;exact av _
   refine cD (fun X=>?_) fun X=>?_
   ·refine ec I (f7 (c:=3) (by decide) (by decide)) az x fun al aB am aq=>?_
    refine bU fun f=>?_
    obtain ⟨L,aA,rfl⟩:=aq
    refine f ?_;try clear f
    have au:p≠ [] :=fun ay=>by rw [ay] at z;exact cG z
    refine v _ _ ⟨al,_,_,L,_,_,_,rfl,rfl,am,F.Ss (t.Zd au (ag r (an X))) (u:=c++T) (p:=A) (by (refine bT q ?_;rw [m8])) r L,C⟩
   ·exact v _ _ ⟨a,_,_,u,_,_,_,rfl,rfl,P,F,C⟩
  ·refine ee r ?_
   exact v _ _ ⟨a,_,_,u,_,_,_,rfl,rfl,P,F,C⟩
 ·exact v _ _ ⟨a,c,g,i,_,_,_,rfl,rfl,x.up (fM _),t,aa⟩
def AY{d:Nat}{a:dw}(f:GB h d a){b:bS}:jX cr (O a::b) (.cq 0) (.f (.Z 3))=O (.b3 h):=by
 obtain ⟨_,_,_,rfl,_,_⟩:=f
 rfl
def XV(u:k=vC cr (m+6)){r:Nat}(F:d+9*(r+1)≤5000)(f:GB h (d+9*r) a)(G:hY c g i)(R:c.length+2≤e)(L:e≤20){C:Int}(Q:∀P T,PI h b e d (r+1) P T→j P T):
  fG ⟨cr,k⟩ iP (KA e (O (.f (.Z C))) b.length i n l) (PH b a c g) (jQ j K):=by
 have x:d+9*r+8≤5000:=lC F
 have X:d+9*r+2≤5000:=cu (fg _ 6) x
 have I:∀(a:dw)(p:Nat),GB h (d+9*r+2) a→fG ⟨cr,k⟩ (fo 3 iP) (KA e (O (.f (.Z C))) b.length i (O (.f (.Z p))) l) (PH b a c g) (jQ j K):=fun a p f=>by
  refine cD (fun ab=>?_) fun ab=>?_
  ·refine ec u (I9 (L:=p)) x f fun A y s t=>?_
   refine bU fun q=>?_
   obtain ⟨aa,z,rfl⟩:=t
   refine q ?_;try clear q
   exact El u F s G R L z Q
  ·refine ec u (I9 (L:=10)) x f fun A y s t=>?_
   refine bU fun q=>?_
   obtain ⟨aa,z,rfl⟩:=t
   refine q ?_;try clear q
   exact El u F s G R L z Q
 have v:∀(a:dw)(p:Nat),0<p→p<1000→GB h (d+9*r+1) a→fG ⟨cr,k⟩ (fo 2 iP) (KA e (O (.f (.Z C))) b.length i (O (.f (.Z p))) l) (PH b a c g) (jQ j K):=fun a p ae af f=>by
  apply aj;exact AY f
  refine cD (fun w=>?_) fun w=>?_
  ·exact I _ 0 (f.up (fM _))
  ·refine ec u (f7 ae af) X f fun A y s t=>?_
   refine bU fun q=>?_
   obtain ⟨p,Y,rfl⟩:=t
   refine q ?_;try clear q
   exact I _ p s
 have ac:d+9*r+1≤5000:=lC X
 refine cD (fun W=>?_) fun W=>?_
 ·apply aj;exact AY f
  refine cD (fun w=>?_) fun w=>?_
  ·refine gL w ?_
   exact v _ 6 (by decide) (by decide) (f.up (fM _))
  ·refine ec u (f7 (c:=3) (by decide) (by decide)) ac f fun A y s t=>?_
   refine bU fun q=>?_
   obtain ⟨p,Y,rfl⟩:=t
   refine q ?_;try clear q
   refine cD (fun ag=>?_) fun ag=>?_
   ·exact v _ 6 (by decide) (by decide) s
   ·exact v _ 13 (by decide) (by decide) s
 ·refine ee W ?_
  exact v _ 13 (by decide) (by decide) (f.up (fM _))
end
def gf(e:List W)(c:List Nat)(f:Nat):Prop:=(c.length=e.length)∧(0<f)∧(f≤e.length)∧(c[0]? =O 0)∧(∀(b:Nat)(a:W),e[b]? =O a→a.dh.cF ar=ar)∧(∀(b:Nat)(a:W),b<f→e[b]? =O a→∃g,c[b]? =O g∧a.bV.c0≤g∧(a.bV.dR=b2→b+1<f∧c[b+1]? =O (g-a.bV.c0+a.bV.fS))∧∀d,a.bV.b8=ar→a.g=O d→b+d<f∧c[b+d]? =O (g-a.bV.c0+a.bV.fS))∧(∀(b:Nat)(a:W),f≤b→e[b]? =O a→a.bV.b8=ar→(∀d,a.g=O d→b+d<e.length)∧(a.g=b1→a.bV.cg=ar∧c[b]? =O 1))
section
variable{b:List W}{d:List Nat}{c:Nat}(a:gf b d c)
include a
def gf.cC:d.length=b.length:=a.1
def gf.v2:0<c:=a.2.1
def gf.gm:c≤b.length:=a.2.2.1
def gf.d1:d[0]? =O 0:=a.2.2.2.1
def gf.cF:∀(f:Nat)(e:W),b[f]? =O e→e.dh.cF ar=ar:=a.2.2.2.2.1
def gf.dh:∀(f:Nat)(e:W),f<c→b[f]? =O e→∃g,d[f]? =O g∧e.bV.c0≤g∧(e.bV.dR=b2→f+1<c∧d[f+1]? =O (g-e.bV.c0+e.bV.fS))∧∀h,e.bV.b8=ar→e.g=O h→f+h<c∧d[f+h]? =O (g-e.bV.c0+e.bV.fS):=a.2.2.2.2.2.1
def gf.DJ:∀(f:Nat)(e:W),c≤f→b[f]? =O e→e.bV.b8=ar→(∀g,e.g=O g→f+g<b.length)∧(e.g=b1→e.bV.cg=ar∧d[f]? =O 1):=a.2.2.2.2.2.2
end
def gf.eI{e A:List W}{o:List Nat}{v:Nat}{d:W}(h:hY e o v)(y:AW e)(r:e=A++[d])(C:d.bV.dR=ar){m:List W}{q:List Nat}(I:q.length=m.length)(K:∀d∈m,d.dh.cF ar=ar)
  (F:∀(b:Nat)(d:W),m[b]? =O d→d.bV.b8=ar→(∀i,d.g=O i→b+i<m.length)∧(d.g=b1→d.bV.cg=ar∧q[b]? =O 1)):gf (e++m) (o++q) e.length:=by
 have u:0<e.length:=by (refine bT r ?_;refine bT dZ ?_);exact nI _
 have s:∀{p k:Nat},p<e.length→(o++[v])[p]? =O k→(o++q)[p]? =O k:=fun {p k} n f=>by
  rw [ph (h.cC.symm▸n)] at f⊢;exact f
 refine ⟨by (refine bT dZ ?_;refine bT dZ ?_;refine bT h.cC ?_;refine bT I ?_;rfl),u,by refine bT dZ ?_;exact fg _ _,s u h.d1,fun b j a=>?_,fun b j c a=>?_,fun b j c a l=>?_⟩
 ·by_cases c:b<e.length
  ·rw [ph c] at a
   exact (h.dh b j a).cF
  ·rw [la (ra c)] at a
   exact K j (gj a)
 ·rw [ph c] at a
  refine bU fun x=>?_
  obtain ⟨_,L,k,G,P,f⟩:=h.dh b j a
  refine x ?_;try clear x
  refine ⟨L,by rw [ph (h.cC.symm▸c)];exact k,G,fun t=>?_,fun i l g=>⟨y b j i a l g,s (y b j i a l g) (f i l g)⟩⟩
  have n:b+1<e.length:=by
   refine y5 c fun f=>?_
   rw [r,dZ,uM] at f
   have f:=mB f
   rw [r,f,la (dX _),pg] at a
   rw [← dg a,C] at t
   exact dy t
  exact ⟨n,s n (P t)⟩
 ·rw [la c] at a
  obtain ⟨z,w⟩:=F _ j a l
  refine ⟨fun i g=>?_,fun g=>⟨(w g).1,?_⟩⟩
  ·have:=z i g
   rw [← LV c] at this
   refine bT dZ ?_
   exact (Tw (cu c (fg _ _))).mp this
  ·(rewrite [la (h.cC.symm▸c)];refine bT h.cC ?_)
   exact (w g).2
section
variable{n:Nat}{m:Bool}{a:bS}{e:dw}{b:List W}{c:List Nat}{d l g:Nat}{j i h:Option bZ}{k:cK}
def NU(b:List W)(c:List Nat)(f:Nat):bl:=.cQ [.a3 (b.map W.kO),.a3 (cU c),.Z f]
noncomputable def V1(d:Nat)(j p:Option bZ)(o f g:Nat)(i h:Option bZ):cV:=[O (.cq 0),O (.f (.Z d)),j,p,O (.f (.Z o)),O (.cq (f+1)),O (.cq (f+2)),O (.f (.Z g)),i,h]
def AZ{q:Option bZ}{o:Nat}{p:dw}{f:KE}(r:f (.f (NU b c o)) (O e::a)):fG ⟨cr,k⟩ (fo 7 (AV jl)) (V1 d j q o a.length g i h) (PH a e b c) (lG b2 (O p::a).length f):=by
 apply aj;exact js (a:=PH a e b c) (b:=a.length+1) (eo a _ _)
 apply aj;exact js (b:=a.length+2) (c:=cU c) (by
  show ((a++_).set a.length b1)[a.length+1]? =_
  rw [kk];exact kM _ _ _ _)
 refine c8 (b:=f) r ?_
 show O e::((((a++_).set a.length b1).set (a.length+1) b1).take a.length)=_
 (rewrite [kk,zC];refine bT ze ?_;rfl)
def aaG(f:b.length≤500):eW (PH a e b c) ar 0 [.cq (a.length+1)] =O (.f (.Z b.length),PH a e b c):=by
 refine (uo (a:=PH a e b c) (b:=a.length+1) (eo a _ _) (by rw [et];exact cu f (by decide))).trans ?_
 rw [et]
def NV(d:Nat)(o:bl):Prop:=∃b c f,gf b c f∧b.length≤d∧o=NU b c f
def sK(u:k=vC cr (n+6))(ab:l+3≤5000)(y:GB m l e){ao:dw}{aa:KE}(am:∀(w:dw)(v:bl)(az:bS),GB m (l+3) w→NV d v→az=O w::a→aa (.f v) az)
  (F:hY b c g) (aq:b.length+2≤d) (z:d≤20) {f ak:List W} {P:W} {s:List Nat} (al:s[0]? =O g) (aA:s.length=f.length+1) (ay:uu s 0 f) (aB:f.length≤2) (Q:f=ak++[P]) (au:P.bV.dR=ar) (aE:Ht f):
  fG ⟨cr,k⟩ (fo 4 (AV jl)) [O (.cq 0),O (.f (.Z d)),j,O (.f (pB f)),b1,O (.cq (a.length+1)),O (.cq (a.length+2)),O (.f (.Z g)),i,h] (PH a e b c) (lG b2 (O ao::a).length aa):=by
 have ag:b.length≤20:=cu (lC (lC aq)) z
 obtain ⟨ae,af⟩:∃ae,s[f.length]? =O ae:=⟨s[f.length]'(by refine bT aA ?_;exact h9 _),gS _⟩
 have R:=F.d7 al aA af ay
 have an:AW (b++f):=F.Zd (fun o=>by rw [o] at Q;exact absurd (congrArg qE Q) (by refine bT dZ ?_;exact (TG _).symm)) aE
 have A:(b++f).length≤d:=by refine bT dZ ?_;exact cu (jq aB _) aq
 have ac:b++f=(b++ak)++[P] :=by (refine bT Q ?_;rw [m8])
 have aF:(c++s.take f.length).length≤20:=by refine bT R.cC ?_;exact cu A z
 refine rc u (FV ay al af ag (F.cC.symm▸ag) (cu aB (by decide))) ?_
 apply aj;exact aaG (cu A (cu z (by decide)))
 have aD:gf (b++f) (c++s.take f.length) (b++f).length:=by
  have:=gf.eI R an ac au (m:=[]) (q:=[]) rfl (fun K o=>absurd o gD) (fun K K o=>cG o)
  rw [kX,kX] at this;exact this
 generalize b++f=t at*
 generalize c++s.take f.length=Y at*
 have I:∀w,GB m (l+3) w→fG ⟨cr,k⟩ (fo 7 (AV jl)) (V1 d j (O (.f (pB f))) t.length a.length g i h) (PH a w t Y) (lG b2 (O ao::a).length aa):=fun w aC=>
  AZ (am w _ _ aC ⟨t,Y,t.length,aD,A,rfl⟩ rfl)
 apply aj;exact AY y
 refine cD (fun aw=>?_) fun aw=>?_
 ·refine cD (fun T=>?_) fun T=>?_
  ·refine ec u (f7 (c:=3) (by decide) (by decide)) (jr ab 1 (by decide)) y fun aN v ai q=>?_
   refine bU fun r=>?_
   obtain ⟨G,aM,rfl⟩:=q
   refine r ?_;try clear r
   refine cD (fun aI=>?_) fun aI=>?_
   ·refine ec u ta (jr ab 2 (by decide)) ai fun aO v aL q=>?_
    refine bU fun r=>?_
    obtain ⟨av,X,rfl⟩:=q
    refine r ?_;try clear r
    refine ec u (qx b1) ab aL fun aK v aH q=>?_
    refine bU fun r=>?_
    obtain ⟨C,L,rfl⟩:=q
    refine r ?_;try clear r
    have aJ:t.length+3≤d:=pN.mp (of_decide_eq_true T)
    have aG:t.length≤20:=cu A z
    refine rc u (FV (b:=[jo .cI (O 1),av,jo C b1]) (c:=[0,0,1,0]) (p:=0) (m:=0) ⟨o5 (b:=0) rfl rfl (fun G u=>by obtain rfl:=dg u;rfl),X.fS.eH (b:=0) rfl rfl,rC (b:=0) L rfl rfl (nq (c:=jo C b1) rfl),trivial⟩ rfl rfl aG aF (er rfl)) ?_
    refine AZ (am aK _ _ aH ⟨t++[jo .cI (O 1),av,jo C b1],Y++[0,0,1],t.length,gf.eI R an ac au rfl (fun v x=>?_) (fun q v p ah=>?_),by refine bT dZ ?_;exact aJ,rfl⟩ rfl)
    ·rcases eP.mp x with rfl|x
     ·rfl
     rcases eP.mp x with rfl|x
     ·exact (X.fS (i:=0)).cF
     refine bT (ib.mp x) ?_
     induction C<;>first|rfl|exact dy L
    ·match q,p with
     | 0,p=>
      obtain rfl:=dg p
      exact ⟨fun G o=>by obtain rfl:=dg o;exact er rfl,fun o=>cG (Eq.symm o)⟩
     | 1,p=>
      obtain rfl:=dg p
      rw [(X.fS (i:=0)).nj] at ah
      exact dy ah
     | 2,p=>
      obtain rfl:=dg p
      exact ⟨(fun G o=>cG o),fun K=>⟨L,rfl⟩⟩
     |q+3,p=>exact cG p
   ·exact I _ (ai.up (fg _ 2))
  ·refine ee T ?_
   exact I _ (y.up (fg _ 3))
 ·refine ee aw ?_
  exact I _ (y.up (fg _ 3))
end
section
variable{c:Nat}{a:Bool}{b:Nat}
def Sv{e:gp}(i:e.T=cr){m:Nat}{f:dw}{g:bS}{d:cV}(k:GB a m f)(j:d[0]? =O (O (.cq 0))){K:KE}(h:K (.f (.Z ((cond a 1 4:Nat):Int))) (O f::g)):vE e (.fx (.cL (.bW 0) (.Z 3)) (.Z 1) (.Z 4)) d (O f::g) K:=by
 obtain ⟨n,o⟩:=e
 dsimp only at i
 subst i
 have l:(d[0]?).join=O (.cq 0):=by refine bT j ?_;rfl
 apply aj;exact l
 apply aj;exact AY k
 induction a
 ·exact h
 ·exact h
def KB{g:Nat}{f:bl}(e:f∈dL (g:Int)):∃d:Nat,d<g∧f=.Z d:=by
 unfold dL at e
 rw [zm] at e
 obtain ⟨d,i,h⟩:=hJ.mp e
 exact ⟨d,nf.mp i,h.symm⟩
def Pr{d:bS}:fh cr d .cZ (.f (pB [iT .ew])) (.f (pB [iT .ew]))=O ar:=by kernel_rfl
def Sw{d:bS}:fh cr d .cZ (.f (pB [jo .cI b1])) (.f (pB [iT .ew]))=O b2:=by kernel_rfl
def Sx{g:gp}{d:bS}{K:KS}{f e:Option bZ}(h:K .cc [f,e,b1,b1,b1,O (.cq d.length),O (.cq (d.length+1)),O (.f (.Z 0)),b1,b1] (d++[O (.a3 []),O (.a3 [])])):vS g (.eg [5,6,7] (.J (.a3 b2 .N) (.J (.a3 b2 .N) (.J (.Z 0) .N)))) [f,e,b1,b1,b1,b1,b1,b1,b1,b1] d K:=by
 refine aj (g4 (a:=d) (b:=[]) (fy _)) ?_
 refine aj (qQ (a:=d) (b:=[]) (fy _)) ?_
 exact h
def Sy(aa:2≤b)(s:b≤20):EC (vC cr (c+7)) 50 [.cq 0,.f (.Z b)] a 42 (NV b):=FS rfl rfl rfl rfl fun A m g k d Q n G x=>by
 refine Sx ?_
 refine Sv (e:=⟨cr,A⟩) rfl (g:=d++[O (.a3 []),O (.a3 [])]) (d:=[O (.cq 0),O (.f (.Z b)),b1,b1,b1,O (.cq (d.length+1)),O (.cq (d.length+2)),O (.f (.Z 0)),b1,b1]) G rfl ?_
 have v:(cond a 1 4:Nat)≤4:=by induction a<;>decide
 generalize (cond a 1 4:Nat)=aq at v⊢
 apply aj;exact ip (cu v (by decide))
 refine AX (d:=0) (PI a d b g) (fun X K ag ah an af R w ac=>?_) ⟨k,[],[],0,_,_,_,rfl,rfl,G,.N,aa⟩ fun ag ah w=>?_
 ·refine bU fun e=>?_
  obtain ⟨am,ao,rfl⟩:=KB af
  obtain ⟨k,z,C,j,r,q,o,rfl,rfl,h,i,p⟩:=w
  refine e ?_;try clear e
  rw [li,kU] at R
  have Y:X+1≤4:=cu R v
  exact XV (n:=q) (l:=o) m (cu (jq (cu (v9 9 Y) (by decide)) g) n) h i p s ac
 ·rw [li,kU] at w
  refine bU fun e=>?_
  obtain ⟨k,z,C,j,r,q,o,rfl,rfl,h,i,p⟩:=w
  refine e ?_;try clear e
  have h:GB a (g+36) k:=h.up (jq (v9 9 v) g)
  have L:∀l,GB a (g+37) l→fG ⟨cr,A⟩ (fo 3 (AV jl)) [O (.cq 0),O (.f (.Z b)),r,O (.f (pB [iT .ew])),b1,O (.cq (d.length+1)),O (.cq (d.length+2)),O (.f (.Z j)),q,o] (PH d l z C) (lG b2 (O k::d).length Q):=fun l u=>by
   refine cD (fun f=>?_) fun f=>?_
   ·apply aj;exact Pr
    refine ec m (lp (i:=0)) (jr n 39 (by decide)) u fun ab K t y=>?_
    refine bU fun e=>?_
    obtain ⟨T,P,rfl⟩:=y
    obtain rfl:j=0:=GZ (dr f)
    refine e ?_;try clear e
    exact sK (l:=g+39) m n t x i p s (f:=[T,iT .ew]) (ak:=[T]) (P:=iT .ew) (s:=[0,1,0]) rfl rfl ⟨P.eH rfl rfl,Eh (b:=0) rfl rfl,trivial⟩ (dX 2) rfl rfl (.eI ⟨nq P.g,nq rfl,trivial⟩)
   ·refine ee f ?_
    match j,f,i with
    | 0,f,_=>exact dy f
    |F+1,_,i=>exact sK (l:=g+39) m n (u.up (fg _ 2)) x i p s (f:=[iT .ew]) (ak:=[]) (P:=iT .ew) (s:=[F+1,F]) rfl rfl ⟨Eh (b:=F) rfl rfl,trivial⟩ (er rfl) rfl rfl (.eI ⟨nq rfl,trivial⟩)
  have ae:∀l,GB a (g+37) l→fG ⟨cr,A⟩ (fo 3 (AV jl)) [O (.cq 0),O (.f (.Z b)),r,O (.f (pB [jo .cI b1])),b1,O (.cq (d.length+1)),O (.cq (d.length+2)),O (.f (.Z j)),q,o] (PH d l z C) (lG b2 (O k::d).length Q):=fun l u=>by
   have I:=sK (ao:=k) (j:=r) (i:=q) (h:=o) (l:=g+39) m n (u.up (fg _ 2)) x i p s (f:=[jo .cI b1]) (ak:=[]) (P:=jo .cI b1) (s:=[j,j]) rfl rfl ⟨o5 rfl rfl (nq (c:=jo .cI b1) rfl),trivial⟩ (er rfl) rfl rfl (.eI ⟨nq rfl,trivial⟩)
   refine cD (fun f=>?_) fun f=>?_
   ·apply aj;exact Sw
    exact I
   ·refine ee f ?_
    exact I
  apply aj;exact AY h
  refine cD (fun W=>?_) fun W=>?_
  ·refine gL W ?_
   exact L _ (h.up (fM _))
  ·refine ec m (f7 (c:=4) (by decide) (by decide)) (jr n 37 (by decide)) h fun ab K t y=>?_
   refine bU fun e=>?_
   obtain ⟨al,ak,rfl⟩:=y
   refine e ?_;try clear e
   refine cD (fun ai=>?_) fun ai=>?_
   ·exact L _ t
   ·exact ae _ t
end
def rD(a:Nat):dL (a:Int)=(f5 a).map e8:=by unfold dL;rw [zm];rfl
def NW:List bl:=[.a3 [.ad "jump"],.cQ rt,.a3 [.ad "pop",.ad "swap",.ad "leave"],.cQ ND]
noncomputable def aaH:Op→Bool
 |.gA|.dt|.ew=>ar
 |_=>b2
def aaI:(fu.all fun a=>eA (ic (.ad a.cT) [.ad "pop",.ad "swap",.ad "leave"]) (aaH a))=ar:=by kernel_rfl
def Sz{d:bl}(b:d∈NW):∃e:Op→Bool,∀(a:Op)(c:bS),fh cr c .ft (.f (.ad a.cT)) (.f d)=O (e a):=by
 rcases eP.mp b with rfl|b
 ·exact ⟨_,fun a c=>qf NG a⟩
 rcases eP.mp b with rfl|b
 ·exact ⟨_,fun a c=>ol px a⟩
 rcases eP.mp b with rfl|b
 ·exact ⟨_,fun a c=>qf aaI a⟩
 refine bT (ib.mp b) ?_
 exact ⟨_,fun a c=>ol BE a⟩
def SA{c:bS}{a:bl}{b:List bl}:fh cr c .ne (.f (.a3 (a::b))) (.f (.a3 []))=O ar:=by
 show (lE _ _).map _=_
 unfold lE;rfl
def Ja{a b:Nat}:((O a:Option Nat)==O b)=((a:Int)==(b:Int)):=by
 rw [vJ,beq_iff_eq,beq_iff_eq,Option.some.injEq,UL]
section
variable{j:Nat}{i:Bool}{b:List W}{a:List Nat}{d e h c:Nat}{g:W}
def XW{I:cK}{A:Nat}{Q T:dw}{s:bS}{G:KE}{ae:Int}(w:I=vC cr (j+1))(X:a.length≤20)(F:d≤a.length)(ai:b.length≤20)(aw:a.length=b.length)(az:ae=(c:Int))(ak:∃f<d,a[f]? =O c)(aa:A+2≤5000)(af:GB i A Q)
  (av:∀(R:dw)(x:bl)(Y:bS),GB i (A+2) R→(∃f<d,a[f]? =O c∧x=.Z f)→Y=O R::s→G (.f x) Y):
  fG ⟨cr,I⟩ (fo 1 (AV qV)) [O (.cq 0),O (.f (.a3 (b.map W.kO))),O (.f (.a3 (cU a))),O (.f (.Z e)),O (.f (.Z d)),O (.f (.Z ae)),b1,b1,b1,b1,b1] (O Q::s) (lG b2 (O T::s).length G):=by
 have ac:=cu F X
 subst az
 apply aj;exact ip (cu ac (by decide))
 rw [rD]
 refine k6 e8 (fun f=>a[f]? ==O c) e8 (fun f ao K k t u=>?_) ?_
 ·have q:=hH (nf.mp k) F
  apply aj;exact hB (gS q) (cu X (by decide))
  have p:(a[f]? ==O c)=((a[f] :Int)==(c:Int)):=by
   rw [gS q]
   exact Ja
  rw [p] at t u
  exact cD t u
 generalize m:(f5 d).filter (fun f=>a[f]? ==O c)=l
 have ab:∀f,f∈l→f<d∧a[f]? =O c:=fun f k=>by
  rw [← m] at k
  have:=l3.mp k
  exact ⟨nf.mp this.1,dr this.2⟩
 have o:l.length≤20:=by
  refine gT m ?_
  exact cu (r7 _ _) (by refine bT pk ?_;exact ac)
 have aC:l≠ [] :=fun p=>by
  refine bU fun n=>?_
  obtain ⟨f,k,w⟩:=ak
  refine n ?_;try clear n
  have:f∈l:=m▸l3.mpr ⟨nf.mpr k,beq_iff_eq.mpr w⟩
  rw [p] at this
  cases this
 clear m
 apply aj;exact lh (c:=e8) (cu o (by decide))
 refine ec w (f7 (c:=4) (by decide) (by decide)) (lC aa) af fun aA x aq e=>?_
 refine bU fun n=>?_
 obtain ⟨ag,v,rfl⟩:=e
 obtain ⟨ah,an,ay⟩:=Hq (a:=NW) v (by decide)
 refine n ?_;try clear n
 apply aj;exact ay _
 obtain ⟨y,aF⟩:=Sz an
 apply aj;exact eh (cu o (by decide))
 refine k6 e8 (fun f=>(b[f]?).any fun g=>y g.bV) e8 (fun f ao K k t u=>?_) ?_
 ·have q:f<b.length:=hH (ab f k).1 (aw▸F)
  apply aj;exact hB (gS q) (cu ai (by decide))
  apply aj;exact aF _ _
  have p:((b[f]?).any fun g=>y g.bV)=y b[f].bV:=by rw [gS q];rfl
  rw [p] at t u
  exact cD t u
 have P:∀(r:List Nat){L:Option bZ},(∀f∈r,f∈l)→r≠ [] →r.length≤20→fG ⟨cr,I⟩ (fo 5 (AV qV)) [O (.cq 0),O (.f (.a3 (b.map W.kO))),O (.f (.a3 (cU a))),O (.f (.Z e)),O (.f (.Z d)),O (.f (.Z c)),O (.f (.a3 (cU r))),O (.f ah),L,b1,b1] (O aA::s) (lG b2 (O T::s).length G):=fun r L aD z o=>by
  apply aj;exact eZ (d:=e8) (cu o (by decide))
  refine ec w (f7 (Cg.mpr z) (kT o (by decide))) aa aq fun al x am e=>?_
  refine bU fun n=>?_
  obtain ⟨ag,v,rfl⟩:=e
  refine n ?_;try clear n
  apply aj;exact hB (d:=e8) (gS v) (cu o (by decide))
  have:=ab _ (aD _ (vR v))
  exact av al _ _ am ⟨_,this.1,this.2,rfl⟩ s9
 generalize m:l.filter (fun f=>(b[f]?).any fun g=>y g.bV)=C
 have aB:∀f∈C,f∈l:=fun f k=>(l3.mp (m▸k)).1
 have z:C.length≤20:=cu (m▸r7 _ _) o
 apply aj;exact lh (c:=e8) (cu z (by decide))
 clear m
 induction C with
 |nil=>
  apply aj;exact wD
  exact P l (fun aG h=>h) aC o
 |cons aE au=>
  apply aj;exact SA
  exact P (aE::au) aB (fun p=>nomatch p) z
def XX(f:gf b a d)(t:b[e]? =O g)(p:a[e]? =O h)(l:b.length≤20)(u:(h:Int)-(if g.bV.cg then 1 else 0)=(c:Int))(r:∃k<d,a[k]? =O c):
  EC (vC cr (j+2)) 51 [.cq 0,.f (.a3 (b.map W.kO)),.f (.a3 (cU a)),.f (.Z e),.f (.Z d)] i 2 fun n=>∃k<d,a[k]? =O c∧n=.Z k:=FS rfl rfl rfl rfl fun z q A x w y v s o=>by
 have m:a.length≤20:=f.cC.symm▸l
 apply aj;exact hB p (cu m (by decide))
 apply aj;exact hB t (cu l (by decide))
 apply aj;exact gU g.bV
 exact XW q m (f.cC.symm▸f.gm) l f.cC u r v s o
end
def ka(b:List Nat)(e:Nat)(a:Ct):Prop:=(a.mF=.ad "rescue"∨a.mF=.ad "ensure")∧(a.d1<a.iz)∧(a.iz≤b.length)∧(a.cP<e)∧(b[a.cP]? =O (a.dG+1))∧(∀c d:Nat,a.d1≤c→c<a.iz→b[c]? =O d→a.dG≤d)
section
variable{c:List Nat}{d:Nat}{a:Ct}(b:ka c d a)
include b
def ka.mF:a.mF=.ad "rescue"∨a.mF=.ad "ensure":=b.1
def ka.jL:a.d1<a.iz:=b.2.1
def ka.gm:a.iz≤c.length:=b.2.2.1
def ka.tlt:a.cP<d:=b.2.2.2.1
def ka.tgt:c[a.cP]? =O (a.dG+1):=b.2.2.2.2.1
def ka.C8:∀e f:Nat,a.d1≤e→e<a.iz→c[e]? =O f→a.dG≤f:=b.2.2.2.2.2
end
def Jb{a:Nat}(b:a≤1000):rO (.f (.Z a))=O (O a):=if_pos ⟨sb a,kT b (er rfl)⟩
def SB{d:bS}{a:List Nat}{c b:Nat}(e:a.length≤500)(f:c≤1000)(g:b≤1000):jY d ar (.f (.a3 (cU a))) (.f (.Z c)) (.f (.Z b))=O (.f (.a3 (cU ((a.take b).drop c))),d):=by
 unfold jY
 (refine bT (Jb f) ?_;refine bT (Jb g) ?_;rw [tn,tn])
 show (if (cU a).length≤100000 then iI d ar (x6 (cU a) (O c) (O b)) else b1)=_
 rw [if_pos (by rw [et];exact cu e (by decide))]
 show iI d ar (((cU a).take b).drop c)=_
 (refine gT Mi ?_;refine gT List.map_drop ?_)
 exact lh (cu (by refine bT zc ?_;exact cu (y8 _ _) (yB _ _)) e)
def XY:∀a:List Nat,Cz (cU a)=O (a.map fun (d:Nat)=>(d:Int)):=by
 intro a
 induction a with
 |nil=>
  exact rfl
 |cons b a c=>
  exact congrArg (nG ((b:Int):: ·)) (c)
def Ps:∀(b:List Int)(a:Int),b.foldl min a≤a∧∀d∈b,b.foldl min a≤d:=by
 intro b
 induction b with
 |nil=>
  intro a
  exact ⟨Int.le_refl _,fun j h=>absurd h gD⟩
 |cons d b f=>
  intro a
  obtain ⟨e,g⟩:=f (min a d)
  refine ⟨t6 e (Int.min_le_left _ _),fun i c=>?_⟩
  rcases eP.mp c with rfl|c
  ·exact t6 e (Int.min_le_right _ _)
  ·exact g i c
def aaJ{d:bS}{a:List Nat}(j:a≠ []):∃f:Int,(∀b∈a,f≤(b:Int))∧eW d ar 3 [.f (.a3 (cU a))] =O (.f (.Z f),d):=by
 match a,j with
 |e::a,_=>
  obtain ⟨h,i⟩:=Ps (a.map fun (b:Nat)=>(b:Int)) e
  refine ⟨_,fun b c=>?_,congrArg (fun g=>jG g _) (XY (e::a))⟩
  rcases eP.mp c with rfl|c
  ·exact h
  ·exact i _ (hJ.mpr ⟨b,c,rfl⟩)
def aaK{c:gp}{b:cV}{a:bS}{K:KE}(d:K (.cq a.length) (a++[O (.a3 [])])):vE c (.a3 b2 .N) b a K:=aj (g4 (fy _)) d
def FH(c:bS)(b:dw)(a:List Ct):bS:=O b::(c++[O (.a3 (a.map k0))])
def aaL{a:bS}{c:dw}{b:List Ct}{d:bl}{e:Ct}(f:d=k0 e)(g:b.length≤500):jk cr (FH a c b) .eJ (.cq (a.length+1)) [.f d] =O (.f .bX,FH a c (b++[e])):=by
 refine (io (a:=FH a c b) (b:=a.length+1) (eo a _ _) (by rw [et];exact cu g (by decide))).trans ?_
 unfold FH
 (refine bT za ?_;rewrite [kk];refine bT r8 ?_;refine bT f ?_);rfl
def WD(b:List Nat)(e d:Nat)(a:List Nat)(i h f c g:Option bZ):cV:=[O (.cq 0),O (.f (.a3 (cU b))),O (.f (.Z e)),i,O (.cq (d+1)),O (.f (.a3 (cU a))),h,f,c,g,b1]
def FI(m:Bool)(b:bS)(c:List Nat)(f:Nat)(g:List Nat)(o:Nat)(d:Nat)(h:cV)(j:bS):Prop:=∃(e:dw)(a:List Ct)(q p l i n:Option bZ),h=WD c f b.length g q p l i n∧j=FH b e a∧GB m (o+4*d) e∧a.length≤d∧∀k∈a,ka c f k
section
variable{e:Nat}{d:Bool}{a b:List Nat}{c:Nat}
def XZ{g:Int}{f:Nat}(j:g=(f:Int))(l:0<f)(i:f<1000):EC (vC cr (e+1)) 40 [.cq 0,.f (.Z g)] d 1 fun h=>∃k<f,h=.Z (k:Nat):=j▸f7 l i
def SC{i:bS}{g:List Nat}{h:Nat}{j:Int}{f:Nat}(k:j=(f:Int))(n:g.length≤500)(l:h≤1000)(m:f≤1000):jY i ar (.f (.a3 (cU g))) (.f (.Z h)) (.f (.Z j))=O (.f (.a3 (cU ((g.take f).drop h))),i):=k▸SB n l m
def X0{ai:cK}{v o:Nat}{aa:dw}{l:bS}{k:List Ct}{av au aG aI aC:Option bZ}{ac:cV→bS→Prop}{K:KS}(s:ai=vC cr (e+1))(j:a.length≤20)(aB:0<a.length)(aL:c≤a.length)(aw:b≠ [])(z:b.length≤20)(aD:∀ab∈b,ab<c∧∃q,a[ab]? =O (q+1))
  (r:v+4*(o+1)≤5000) (an:GB d (v+4*o) aa) (T:k.length≤o) (az:o≤2) (W:∀p∈k,ka a c p) (af:∀Y ag,FI d l a c b v (o+1) Y ag→ac Y ag):
  fG ⟨cr,ai⟩ k2 (WD a c l.length b av au aG aI aC) (FH l aa k) (jQ ac K):=by
 have r:v+4*o+4≤5000:=r
 apply aj;exact eZ (d:=e8) (cu z (by decide))
 refine ec s (f7 (Cg.mpr aw) (kT z (by decide))) (jr r 1 (by decide)) an fun aM y aA m=>?_
 refine bU fun g=>?_
 obtain ⟨p,i,rfl⟩:=m
 obtain ⟨aq,q,A⟩:=aD _ (vR i)
 refine g ?_;try clear g
 apply aj;exact hB (d:=e8) (gS i) (cu z (by decide))
 generalize b[p] =L at*
 apply aj;exact eZ (d:=e8) (cu j (by decide))
 refine ec s (f7 aB (kT j (by decide))) (jr r 2 (by decide)) aA fun aJ y ay m=>?_
 refine bU fun g=>?_
 obtain ⟨f,x,rfl⟩:=m
 refine g ?_;try clear g
 apply aj;exact eZ (d:=e8) (cu j (by decide))
 refine ec s (XZ (f:=a.length-f) (UI (iG x)).symm (Nat.sub_pos_of_lt x) (kT (cu (y8 _ _) j) (by decide))) (jr r 3 (by decide)) ay fun aK y aH m=>?_
 refine bU fun g=>?_
 obtain ⟨h,aE,rfl⟩:=m
 refine g ?_;try clear g
 have X:f+1+h≤a.length:=nS f h 1▸qB h f▸TA aE
 refine ec s (f7 (c:=2) (by decide) (by decide)) r aH fun w y ae m=>?_
 refine bU fun g=>?_
 obtain ⟨p,i,rfl⟩:=m
 obtain ⟨G,Q,F⟩:=Hq (a:=[.ad "rescue",.ad "ensure"]) i (by decide)
 refine g ?_;try clear g
 apply aj;exact F _
 have am:f≤1000:=cu (iG x) (cu j (by decide))
 have aF:f+1+h≤1000:=cu X (cu j (by decide))
 have ah:∀n,f≤n→n<f+1+h→∀u,a[n]? =O u→u∈(a.take (f+1+h)).drop f:=fun n t I u C=>by
  refine gj (i:=n-f) ?_
  (rewrite [L9];refine bT (Nat.add_sub_cancel' t) ?_;rw [Gi I]);exact C
 refine bU fun g=>?_
 obtain ⟨u,C,F⟩:=aaJ (d:=FH l w k) (a:=(a.take (f+1+h)).drop f) (fun R=>by
  have:=ah f (dX _) (hH (h9 _) (fg _ _)) _ (gS x)
  rw [R] at this
  cases this)
 refine g ?_;try clear g
 apply aj;exact SC (f:=f+1+h) rfl (cu j (by decide)) am aF
 apply aj;exact F
 apply aj;exact hB (d:=e8) A (cu j (by decide))
 refine cD (fun P=>?_) fun P=>?_
 ·apply aj;exact dK (a:=FH l w k) (b:=l.length+1) (eo l _ _)
  apply aj;exact hB (d:=e8) A (cu j (by decide))
  refine pc s (Az ..) ?_
  have ak:((q+1:Nat):Int)-1=q:=by rw [UH];exact Int.add_sub_cancel _ _
  apply aj;exact aaL (e:=⟨G,f,f+1+h,L,q⟩) (congrArg (fun R=>bl.gJ 1 [G,.Z f,.Z (f+1+h),e8 L,.Z R]) ak) (cu T (cu az (by decide)))
  refine af _ _ ⟨w,k++[⟨G,f,f+1+h,L,q⟩],_,_,_,_,_,rfl,rfl,ae,by refine bT dZ ?_;exact iF T,fun p i=>?_⟩
  rcases my.mp i with i|i
  ·exact W p i
  refine bT (ib.mp i) ?_
  refine ⟨?_,hH (h9 _) (fg _ _),X,aq,A,fun n al t I ao=>?_⟩
  ·rcases eP.mp Q with rfl|Q
   ·exact .inl rfl
   ·exact .inr (ib.mp Q)
  ·have t:=C al (ah n t I al ao)
   rw [ak] at P
   exact pN.mp (t6 (of_decide_eq_true P) t)
 ·exact af _ _ ⟨w,k,_,_,_,_,_,rfl,rfl,ae,uL T,W⟩
def KC(G:a.length≤20)(ai:0<a.length)(r:c≤a.length):
  EC (vC cr (e+2)) 52 [.cq 0,.f (.a3 (cU a)),.f (.Z c)] d 9 fun A=>∃j:List Ct,j.length≤2∧(∀h∈j,ka a c h)∧A=.a3 (j.map k0):=FS rfl rfl rfl rfl fun s Q q X g aq ae w ak=>by
 have af:=cu r G
 refine aaK (c:=⟨cr,s⟩) (b:=[]) ?_
 apply aj;exact ip (cu af (by decide))
 rw [rD]
 refine k6 e8 (fun f=>(a[f]?).any fun (k:Nat)=>dY ((0:Int)<(k:Int))) e8 (fun f aD K I Y aa=>?_) ?_
 ·have n:=hH (nf.mp I) r
  apply aj;exact hB (gS n) (cu G (by decide))
  have l:((a[f]?).any fun (k:Nat)=>dY ((0:Int)<(k:Int)))=dY ((0:Int)<(a[f] :Int)):=by rw [gS n];rfl
  rw [l] at Y aa
  exact cD Y aa
 generalize z:(f5 c).filter (fun f=>(a[f]?).any fun (k:Nat)=>dY ((0:Int)<(k:Int)))=b
 have ay:∀f∈b,f<c∧∃k,a[f]? =O (k+1):=fun f I=>by
  obtain ⟨W,ab⟩:=l3.mp (z▸I)
  refine ⟨nf.mp W,?_⟩
  have n:=hH (nf.mp W) r
  rw [gS n] at ab⊢
  exact ⟨a[f]-1,congrArg O (uK (kY.mp (of_decide_eq_true ab))).symm⟩
 have ac:b.length≤20:=by
  refine gT z ?_
  exact cu (r7 _ _) (by refine bT pk ?_;exact af)
 clear z
 apply aj;exact lh (c:=e8) (cu ac (by decide))
 have R:∀(m:dw)(v:Nat),v≤2→(0<v→b≠ [])→GB d (q+1) m→jZ (fG ⟨cr,s⟩ k2) [3] b2 (Dl (fG ⟨cr,s⟩ (fo 2 (AV rh))) (lG b2 (O X::g).length aq)) (dL v) (WD a c g.length b b1 b1 b1 b1 b1) (FH g m []):=fun m v o au F=>by
  refine AX (d:=0) (FI d g a c b (q+1)) (fun aA A av aw aE aF t u am=>?_) ⟨m,[],_,_,_,_,_,rfl,rfl,F,dX 0,fun T l=>absurd l gD⟩ fun av aw u=>?_
  ·rw [li,kU] at t
   refine bU fun i=>?_
   obtain ⟨p,j,ag,ah,ao,az,al,rfl,rfl,C,L,x⟩:=u
   refine i ?_;try clear i
   exact X0 Q G ai r (au (kT (fy _) t)) ac ay (cu (jq (v9 4 (cu t o)) (q+1)) ae) C L (cu (iG t) o) x am
  ·rw [li,kU] at u
   refine bU fun i=>?_
   obtain ⟨p,j,ag,ah,ao,az,al,rfl,rfl,C,L,x⟩:=u
   refine i ?_;try clear i
   apply aj;exact js (a:=FH g p j) (b:=g.length+1) (eo g _ _)
   refine ak p _ _ (C.up (jq (v9 4 o) (q+1))) ⟨j,cu L o,x,rfl⟩ ?_
   show O p::(((g++_).set g.length b1).take g.length)=_
   (rewrite [kk];refine bT ze ?_;rfl)
 refine VO (c:=⟨cr,s⟩) (a:=d) (e:=b.isEmpty) (fun K h=>?_) (fun T K h=>?_) _ ?_
 ·apply aj;exact AY w
  exact h
 ·induction b with
  |nil=>apply aj;exact s6;exact h
  |cons aC aB=>apply aj;exact s7;exact h
 refine cD (fun y=>?_) fun y=>?_
 ·exact R X 0 (by decide) (fun l=>absurd l (B9 0)) (w.up (fM _))
 ·refine ec Q (f7 (c:=3) (by decide) (by decide)) (jr ae 1 (by decide)) w fun m A F an=>?_
  refine bU fun i=>?_
  obtain ⟨h,P,rfl⟩:=an
  refine i ?_;try clear i
  apply aj;exact ip (cu (iG P) (by decide))
  exact R m h (qk P) (fun T l=>by rw [l] at y;induction d<;>exact dy y) F
end
structure Dr(n:Nat)(XU:List Nat)(size:Nat)(op:Op)(t p:Nat):Prop where
 tl:op.b8=ar→t<n
 dh:p<size→∃h,XU[p]? =O h∧op.c0≤h∧(op.dR=b2→p+1<size∧XU[p+1]? =O (h-op.c0+op.fS))∧(op.b8=ar→t<size∧XU[t]? =O (h-op.c0+op.fS))
def SD{a:Op}(b:a.b8=ar):a.c0=(if a.cg then 1 else 0)+a.fS∧(a.cg=ar→a.fS=0∧a.dR=b2):=by induction a<;>first|exact ⟨rfl,fun d=>⟨rfl,rfl⟩⟩|exact ⟨rfl,fun c=>dy c⟩|exact dy b
def SE{a:W}(e:a.bV.b8=ar)(f:a.dh.cF ar=ar):a.a=.bX:=by
 refine bU fun c=>?_
 obtain ⟨d,i,h,g⟩:=a
 obtain ⟨b,_⟩:=iX.mp (show (dW h&&dW g&&ar)=ar by induction d<;>first|exact f|exact dy e)
 obtain ⟨b,_⟩:=iX.mp b
 refine c ?_;try clear c
 exact iA b
def Pu{a:Op}{h:Nat}{f d c:bl}{i:Int}{b:Bool}(e:R.cF ar ⟨a,0,f,d,c,0⟩=ar)(g:a=.j0→b=ar):R.cF b ⟨a,h,f,d,c,i⟩=ar:=by
 induction b with
 |true=>exact e
 |false=>induction a<;>first|exact e|exact absurd (g rfl) kx
section
variable{f:Nat}{h:Bool}{e:List W}{d:List Nat}{c b:Nat}{a:W}
def Pv(k:gf e d c)(v:e[b]? =O a)(u:a.bV.b8=ar)(z:a.g=b1):∃j q:Nat,d[b]? =O j∧(j:Int)-(if a.bV.cg then 1 else 0)=(q:Int)∧(∃A<c,d[A]? =O q)∧
  ∀g,g<c→d[g]? =O q→Dr e.length d c a.bV g b:=by
 obtain ⟨i,t⟩:=SD u
 by_cases n:b<c
 ·refine bU fun x=>?_
  obtain ⟨j,m,l,s,_⟩:=k.dh b a n v
  refine x ?_;try clear x
  have F:(j:Int)-(if a.bV.cg then 1 else 0)=((j-a.bV.c0+a.bV.fS:Nat):Int):=by
   clear t s
   generalize a.bV.c0=g at*
   generalize a.bV.fS=y at*
   generalize a.bV.cg=C at*
   induction C with
   |true=>
    have i:g=1+y:=i
    subst i
    exact Q9 l
   |false=>
    have i:g=0+y:=i
    subst i
    exact Ra l
  refine ⟨j,j-a.bV.c0+a.bV.fS,m,F,?_,fun g p w=>⟨fun r=>hH p k.gm,fun r=>⟨j,m,l,s,fun r=>⟨p,w⟩⟩⟩⟩
  cases o:a.bV.cg
  ·rw [o] at i
   refine ⟨b,n,?_⟩
   refine bT m ?_
   congr 1
   rw [i] at l⊢
   rw [show (if b2=ar then 1 else 0)+a.bV.fS=a.bV.fS from kU _] at l⊢
   exact (uK l).symm
  ·exact ⟨b+1,s (t o).2⟩
 ·obtain ⟨o,m⟩:=(k.DJ b a (ra n) v u).2 z
  refine ⟨1,0,m,by refine bT o ?_;rfl,⟨0,k.v2,k.d1⟩,fun g p w=>⟨fun r=>hH p k.gm,fun G=>absurd G n⟩⟩
def Pw(j:gf e d c)(o:e[b]? =O a)(l:a.bV.b8=ar){g:Nat}(m:a.g=O g):Dr e.length d c a.bV (b+g) b:=by
 by_cases n:b<c
 ·obtain ⟨q,s,p,r,i⟩:=j.dh b a n o
  exact ⟨fun k=>hH (i g l m).1 j.gm,fun k=>⟨q,s,p,r,fun k=>i g l m⟩⟩
 ·exact ⟨fun k=>(j.DJ b a (ra n) o l).1 g m,fun i=>absurd i n⟩
def SF(j:gf e d c)(l:e[b]? =O a)(i:a.bV.b8=b2):Dr e.length d c a.bV 0 b:=
 ⟨fun g=>absurd (i▸g) kx,fun n=>by obtain ⟨m,p,k,o,_⟩:=j.dh b a n l;exact ⟨m,p,k,o,fun g=>absurd (i▸g) kx⟩⟩
end
def KD{m:cV→bS→KS→Prop}{k:List Nat}{o:Bool}{K:KS}:∀{f:List bl}(e:Nat→cV→bS→Prop),
  (∀(c:Nat)(d:bl)(a:cV)(b:bS)(h:cV→bS→Prop),f[c]? =O d→e c a b→(∀g n,e (c+1) g n→h g n)→jP a k o d fun g=>m g b (jQ h K))→
  ∀{a:cV}{b:bS},e 0 a b→(∀a b,e f.length a b→K .cc a b)→jZ m k o K f a b:=by
 intro f
 induction f with
 |nil=>
  intro _ _ _ _ j i
  exact i _ _ j
 |cons d t p=>
  intro e l _ _ j i
  exact l 0 d _ _ _ rfl j fun q q r=>p (fun c=>e (c+1)) (fun c d a b h s=>l (c+1) d a b h s) r i
def RH(c:bS)(a:dw)(b:List R):bS:=O a::(c++[O (.a3 (b.map eR))])
def V2{a:bS}{c:dw}{b:List R}{d:R}(e:b.length≤500):jk cr (RH a c b) .eJ (.cq (a.length+1)) [.f (eR d)] =O (.f .bX,RH a c (b++[d])):=by
 refine (io (a:=RH a c b) (b:=a.length+1) (eo a _ _) (by rw [et];exact cu e (by decide))).trans ?_
 unfold RH
 (refine bT za ?_;rewrite [kk];refine bT r8 ?_);rfl
def nP(e:Nat)(d:List Nat)(f:Nat)(g:Bool)(c:List R):Prop:=(∀a∈c,a.cF g=ar)∧(∀(b:Nat)(a:R),c[b]? =O a→Dr e d f a.bV a.t b)
section
variable{d:Nat}{c:List Nat}{e:Nat}{f:Bool}{a:List R}(b:nP d c e f a)
include b
def nP.cF:∀g∈a,g.cF f=ar:=b.1
def nP.dh:∀(h:Nat)(g:R),a[h]? =O g→Dr d c e g.bV g.t h:=b.2
end
def nP.Ze{g:Nat}{e:List Nat}{h:Nat}{j:Bool}{c:List R}{d:R}(k:nP g e h j c)(m:d.cF j=ar)(l:Dr g e h d.bV d.t c.length):nP g e h j (c++[d]):=by
 refine ⟨fun i a=>?_,fun f i a=>?_⟩
 ·rcases my.mp a with a|a
  ·exact k.cF i a
  ·refine bT (ib.mp a) ?_;exact m
 ·by_cases b:f<c.length
  ·rw [ph b] at a
   exact k.dh f i a
  ·have b:=ra b
   rw [la b] at a
   have:=(fJ.mp a).1
   obtain rfl:f=c.length:=r6 (Tx (LW.mp this)) b
   rw [pg] at a
   obtain rfl:=dg a
   exact l
def KF(j:Nat)(e:bl)(k:List bl)(f:List W)(a:List Nat)(i g:Nat)(m l c b h d:Option bZ):cV:=[O (.cq 0),O (.f (.Z j)),O (.f e),O (.f (.a3 k)),O (.f (.a3 (f.map W.kO))),O (.f (.a3 (cU a))),O (.f (.Z i)),O (.cq (g+1)),m,l,c,b1,b1,b,h,d,b1]
def SI(o:Bool)(d:bS)(i:Option bZ→Option bZ→Option bZ→Option bZ→Option bZ→cV)(k:Nat)(e:List Nat)(m:Nat)(q:Bool)(r b:Nat)(f:cV)(j:bS):Prop:=∃(c:dw)(a:List R)(p n g l h:Option bZ),f=i p n g l h∧j=RH d c a∧GB o (r+2*b) c∧a.length=b∧nP k e m q a
section
variable{o:Nat}{n k:Bool}{e:List W}{h:List Nat}{i d:Nat}{c:W}{m:Nat}{l:bl}{j:List bl}
def FW{v:cK}{G:Nat}{p:dw}{b:bS}{g:List R}{Y C ao T:Option bZ}{A:cV→bS→Prop}{K:KS}{s:bl}{t:Nat}(w:v=vC cr (o+2))(aa:k=ar↔j≠ [])(ac:d≤20)(af:C=O (.f (.Z d)))(ab:T=O (.f c.b))(x:GB n (G+2*(d+1)) p)(r:g.length=d)(I:nP e.length h i k g)
  (W:c.dh.cF ar=ar) (P:Dr e.length h i c.bV t d) (ag:s=fa ⟨c.bV,t,c.a,c.b,.bX,d+1⟩) (F:∀z L,SI n b (KF m l j e h i b.length Y) e.length h i k G (d+1) z L→A z L):
  fG ⟨cr,v⟩ (fo 2 mm) (KF m l j e h i b.length Y C ao (O (.f (.ad c.bV.cT))) (O (.f s)) T) (RH b p g) (jQ A K):=by
 subst af ab
 have X:g.length≤500:=by refine bT r ?_;exact cu ac (by decide)
 refine AG (c:=⟨cr,v⟩) (a:=c.bV== .j0) (e:=j.isEmpty) (fun K q=>?_) (fun aq K q=>?_) _ ?_
 ·rw [← gr] at q;exact q
 ·induction j with
  |nil=>apply aj;exact s6;exact q
  |cons s y=>apply aj;exact s7;exact q
 refine cD (fun a=>?_) fun a=>?_
 ·obtain ⟨u,au⟩:=iX.mp a
  have u:=dr u
  apply aj;exact dK (a:=RH b p g) (b:=b.length+1) (eo b _ _)
  refine bU fun Q=>?_
  obtain ⟨av,ay,aw,ah⟩:=c
  subst u
  obtain ⟨ae,_⟩:=iX.mp W
  obtain ⟨_,ai⟩:=iX.mp ae
  obtain rfl:ah=.bX:=iA ai
  refine Q ?_;try clear Q
  refine pc w (o4 ..) ?_
  apply aj;exact V2 (d:=⟨.nv,0,.ad "u",.bX,.bX,d+1⟩) X
  refine F _ _ ⟨p,_,_,_,_,_,_,rfl,rfl,x,by (refine bT dZ ?_;refine bT r ?_);rfl,I.Ze (by induction k<;>kernel_rfl) (by refine bT r ?_;exact ⟨(fun f=>dy f),fun y=>by obtain ⟨am,al,ak,an,_⟩:=P.dh y;exact ⟨am,al,ak,an,(fun f=>dy f)⟩⟩)⟩
 ·apply aj;exact dK (a:=RH b p g) (b:=b.length+1) (eo b _ _)
  refine pc w (o4 ..) ?_
  subst ag
  apply aj;exact V2 (d:=⟨c.bV,t,c.a,c.b,.bX,d+1⟩) X
  refine F _ _ ⟨p,_,_,_,_,_,_,rfl,rfl,x,by (refine bT dZ ?_;refine bT r ?_);rfl,I.Ze (Pu W fun f=>?_) (r▸P)⟩
  have a:j.isEmpty=b2:=by
   rcases Bool.and_eq_false_iff.mp a with a|a
   ·rw [f] at a;exact dy a
   ·exact a
  exact aa.mpr fun f=>by rw [f] at a;exact dy a
def X1{Y:cK}{A:Nat}{Q:dw}{s:bS}{y:List R}{aa ay ai af am:Option bZ}{W:cV→bS→Prop}{K:KS}(q:Y=vC cr (o+2))(g:gf e h i)(L:e.length≤20)(f:e[d]? =O c)(u:k=ar↔j≠ [])(ao:A+2*(d+1)≤5000)(w:GB n (A+2*d) Q)(F:y.length=d)(C:nP e.length h i k y)
  (z:∀P X,SI n s (KF m l j e h i s.length aa) e.length h i k A (d+1) P X→W P X):
  fG ⟨cr,Y⟩ mm (KF m l j e h i s.length aa (O (.f (.Z d))) (O (.f c.kO)) ai af am) (RH s Q y) (jQ W K):=by
 have x:d≤20:=cu (iG (fJ.mp f).1) L
 have t:=g.cF d c f
 apply aj;exact AF _ c.bV
 have b:c.Hr=cond c.bV.b8 (gV c.g) c.a:=rfl
 generalize c.Hr=G at b⊢
 refine cD (fun v=>?_) fun v=>?_
 ·have a:=(kl c.bV).symm.trans v
  rw [a] at b
  have az:=SE a t
  cases r:c.g with
  |none=>
   rw [r] at b
   refine bU fun p=>?_
   obtain rfl:G=.bX:=b
   obtain ⟨aw,aq,ab,al,ac,an⟩:=Pv g f a r
   refine p ?_;try clear p
   refine ec q (XX g f ab L al ac) ao w fun av au ae ak=>?_
   refine bU fun p=>?_
   obtain ⟨T,ag,ah,rfl⟩:=ak
   refine p ?_;try clear p
   exact FW (t:=T) q u x rfl rfl ae F C t (an T ag ah) (by unfold fa;refine bT a ?_;rfl) z
  |some I=>
   rw [r] at b
   obtain rfl:G=.Z I:=b
   exact FW (t:=d+I) q u x rfl rfl (w.up (fg _ 2)) F C t (Pw g f a r) (by unfold fa;refine bT a ?_;rfl) z
 ·have a:=(kl c.bV).symm.trans v
  rw [a] at b
  obtain rfl:G=c.a:=b
  exact FW (t:=0) q u x rfl rfl (w.up (fg _ 2)) F C t (SF g f a) (by unfold fa;refine bT a ?_;rfl) z
end
noncomputable def FX(a:List Nat)(b:Nat):Nat:=a.getD b 0
def rX{a:List Nat}{b c:Nat}(d:a[b]? =O c):FX a b=c:=by unfold FX;(rewrite [Ca];refine bT d ?_);rfl
def xg{b:Cd}{d:Nat}{c:Option R}(g:b.nc.a2[d]? =O c):∃a,b.a2[d]? =O a∧c=O a:=by
 obtain ⟨a,e,f⟩:=o3 (d:=O) (g:=b.a2) g
 exact ⟨a,e,f.symm⟩
section
variable{a:List Nat}{c:Nat}{e:Bool}{b:List R}{d:List Ct}{f:List Nat}
def FY(q:nP b.length a c e b)(r:∀j∈d,ka a c j)(s:∀o∈f,o<c∧a[o]? =O 0){n:Nat}(i:cx (Cd.nc ⟨b,d,f⟩) n):n<c:=by
 induction i with
 |dH i=>exact (s _ i).1
 |lg i h _=>obtain ⟨p,_,k⟩:=xg h;exact cG k
 |eK i h j l=>
  refine bU fun g=>?_
  obtain ⟨p,h,k⟩:=xg h
  refine g ?_;try clear g
  obtain rfl:=dg k
  refine bU fun g=>?_
  obtain ⟨_,_,_,m,_⟩:=(q.dh _ _ h).dh l
  refine g ?_;try clear g
  exact (m j).1
 |cI i h j l=>
  refine bU fun g=>?_
  obtain ⟨p,h,k⟩:=xg h
  refine g ?_;try clear g
  obtain rfl:=dg k
  refine bU fun g=>?_
  obtain ⟨_,_,_,_,m⟩:=(q.dh _ _ h).dh l
  refine g ?_;try clear g
  exact (m j).1
 |dJ i h t j l=>exact (r _ t).tlt
def cov{h:Ct}{g:Nat}(k:h.c4 g=ar):h.d1≤g∧g<h.iz:=by
 obtain ⟨i,j⟩:=iX.mp k
 exact ⟨of_decide_eq_true i,of_decide_eq_true j⟩
def Jc(q:a.length=b.length)(m:∀g∈d,ka a c g)(n:c≤b.length){h:Nat}(o:h<c){g:Ct}(j:g∈d)(p:g.c4 h=ar):g.dG≤FX a h:=by
 obtain ⟨k,l⟩:=cov p
 have i:=gS (l:=a) (q▸hH o n:h<a.length)
 refine bT (rX i) ?_
 exact (m g j).C8 h _ k l i
def KG(y:a.length=b.length)(u:c≤b.length)(o:nP b.length a c e b)(l:∀m∈d,ka a c m)(r:∀t∈f,t<c∧a[t]? =O 0):ed (Cd.nc ⟨b,d,f⟩) (FX a) where
 dH h i:=rX (r h i).2
 kJ h i:=by
  show h<(b.map O).length
  rw [et];exact hH (FY o l r i) u
 lg h i j:=by obtain ⟨v,_,g⟩:=xg j;exact cG g
 dh h v i j:=by
  refine bU fun k=>?_
  obtain ⟨G,j,g⟩:=xg j
  refine k ?_;try clear k
  obtain rfl:=dg g
  have s:=FY o l r i
  refine bU fun k=>?_
  obtain ⟨C,z,q,A,x⟩:=(o.dh h v j).dh s
  refine k ?_;try clear k
  have p:=rX z
  refine ⟨p.symm▸q,fun g=>?_,fun g=>?_,fun m n w=>rX (l m n).tgt,fun F m n w=>Jc y l u s n w⟩
  ·(refine bT p ?_;refine bT (rX (A g).2) ?_;rewrite [nS];refine bT (uK q) ?_;rfl)
  ·(refine bT p ?_;refine bT (rX (x g).2) ?_;rewrite [nS];refine bT (uK q) ?_;rfl)
def km(h:Hd)(g:Cd)(e:Bool)(a:List Nat):Prop:=(jn h g e (FX a))∧(a.length=g.a2.length)∧(i3 g)
section
variable{j:Hd}{g:Cd}{k:Bool}{i:List Nat}(h:km j g k i)
include h
def km.k3:jn j g k (FX i):=h.1
def km.cC:i.length=g.a2.length:=h.2.1
def km.jS:i3 g:=h.2.2
end
def X2{o:Hd}(w:o.dm=.ad "block"∨o.dm=.ad "method")(y:∃x F,o.gc=.a3 [x,F])(G:b.length≤20)(l:a.length=b.length)(k:c≤b.length)(n:nP b.length a c e b)(z:d.length≤2)(i:∀h∈d,ka a c h)(A:f.length≤2)(v:f≠ [])(s:∀m∈f,m<c∧a[m]? =O 0):km o ⟨b,d,f⟩ e a:=by
 have t:∀j∈b,j.bV.b8=ar→j.t<b.length:=fun j r p=>by
  obtain ⟨u,q⟩:=yA r
  exact (n.dh u j q).tl p
 exact ⟨⟨w,y,n.cF,t,fun h g=>⟨(i h g).mF,(i h g).jL,l▸(i h g).gm,hH (i h g).tlt k⟩,v,KG l k n i s,fun u q h g C=>Jc l i k (FY n i s q) g C,G,cu z (by decide),cu A (by decide)⟩,l,
  ⟨fun j r p=>iG (t j r p),fun h g=>⟨(i h g).jL,l▸(i h g).gm,iG (hH (i h g).tlt k)⟩,fun m g=>iG (hH (s m g).1 k),v⟩⟩
end
noncomputable def iW(b:bl)(a:List bl):Hd:=⟨b,.ad "c",.bX,.a3 [.ad "x",.ad "y"],a⟩
def Zf(f:Nat)(c:bl)(d:List bl)(g:Bool)(e:bl):Prop:=∃a b,km (iW c d) a g b∧a.a2.length≤f∧e=.cQ [cf (iW c d) a,.a3 (cU b)]
def SG{a:gp}{b:cV}{d:bS}{c:cW}{K:KS}(e:fG a c b d K):fG a .N b d (Dl (fG a c) K):=e
def aaM{a:bS}{b:dw}{c:List R}:Wo (RH a b c) (.cq (a.length+1))=O (.f (.a3 (c.map eR)),O b::(a++[b1])):=by
 refine (js (a:=RH a b c) (b:=a.length+1) (eo a _ _)).trans ?_
 unfold RH
 (refine bT za ?_;rw [kk])
def SH{j:gp}{a:bS}{K:KS}{g e b c h d i m k:Option bZ}{f:cV}(l:K .cc (g::e::b::c::h::d::i::O (.cq a.length)::O (.f (.a3 (cU [0])))::f) (a++[O (.a3 [])])):vS j (.eg [7,8] (.J (.a3 b2 .N) (.J (.a3 ar (.J (.Z 0) .N)) .N))) (g::e::b::c::h::d::i::m::k::f) a K:=by
 refine aj (g4 (a:=a) (b:=[]) (fy _)) ?_
 exact l
section
variable{j:Nat}{g h:Bool}{i:List W}{a:List Nat}{b:Nat}{d:Nat}{c:bl}{e:List bl}
def Jd{v:cK}{o:Nat}{r Y:dw}{l:bS}{f:List R}{k:List Nat}{Q am I ab aa L ak:Option bZ}{u:KE}(q:v=vC cr (j+2))(z:c=.ad "block"∨c=.ad "method")(ai:f.length≤d)(y:f.length≤20)(m:a.length=f.length)(F:0<b)(p:b≤f.length)(T:nP f.length a b h f)(af:k.length≤2)(ag:k≠ [])(al:∀s∈k,s<b∧a[s]? =O 0)(an:o+9≤5000)(A:GB g o r)
  (P:∀(t:dw)(n:bl)(x:bS),GB g (o+9) t→Zf d c e h n→x=O t::l→u (.f n) x):
  fG ⟨cr,v⟩ (fo 4 (AV uf)) [O (.cq 0),O (.f (.Z d)),O (.f c),O (.f (.a3 e)),O (.f (.a3 (i.map W.kO))),O (.f (.a3 (cU a))),O (.f (.Z b)),O (.cq (l.length+1)),O (.f (.a3 (cU k))),Q,am,I,ab,aa,L,ak,b1] (RH l r f) (lG b2 (O Y::l).length u):=by
 apply aj;exact aaM
 have ac:a.length≤20:=m▸y
 refine ec q (KC ac (hH F (m▸p)) (m▸p)) an A fun ah n K ae=>?_
 refine bU fun w=>?_
 obtain ⟨G,X,C,rfl⟩:=ae
 refine w ?_;try clear w
 refine pc q (DY ..) ?_
 exact P ah _ _ K ⟨⟨f,G,k⟩,a,X2 z ⟨_,_,rfl⟩ y m p T X C af ag al,ai,rfl⟩ Hp
def SJ{n:Nat}{p:bl}(k:p∈([.a3 (cU [0]),.a3 (cU [0,n]),.a3 (cU [n]),.a3 (cU [n,0])] :List bl)):∃o:List Nat,p=.a3 (cU o)∧o.length≤2∧o≠ [] ∧∀m∈o,m=0∨m=n:=by
 rcases eP.mp k with rfl|k
 ·exact ⟨_,rfl,er rfl,(fun l=>nomatch l),fun m f=>.inl (ib.mp f)⟩
 rcases eP.mp k with rfl|k
 ·exact ⟨_,rfl,er rfl,(fun l=>nomatch l),fun m f=>(eP.mp f).imp id ib.mp⟩
 rcases eP.mp k with rfl|k
 ·exact ⟨_,rfl,er rfl,(fun l=>nomatch l),fun m f=>.inr (ib.mp f)⟩
 refine bT (ib.mp k) ?_
 exact ⟨_,rfl,er rfl,(fun l=>nomatch l),fun m f=>((eP.mp f).imp id ib.mp).symm⟩
def Je(aB:2≤d)(W:d≤20)(ag:c=.ad "block"∨c=.ad "method")(az:h=ar↔e≠ []):EC (vC cr (j+8)) 53 [.cq 0,.f (.Z d),.f c,.f (.a3 e)] g 93 (Zf d c e h):=FS rfl rfl rfl rfl fun aY r s a7 I aX q aA ab=>by
 refine ec r (Sy aB W) (jr q 42 (by decide)) aA fun am Q aO v=>?_
 refine bU fun k=>?_
 obtain ⟨i,a,b,l,L,rfl⟩:=v
 refine k ?_;try clear k
 have t:=cu L W
 refine SH (a:=O am::I) ?_
 apply aj;exact m3 (cu t (by decide))
 refine KD (SI g I (KF d c e i a b I.length (O (.f (.a3 (cU [0]))))) i.length a b h (s+42)) (fun aG Q aE aF a4 aK G av=>?_) ⟨am,[],_,_,_,_,_,rfl,rfl,aO,rfl,(fun X p=>absurd p gD),fun X X p=>cG p⟩ fun aE aF G=>?_
 ·refine bU fun k=>?_
  obtain ⟨aN,R,rfl⟩:=xM aK
  obtain ⟨a6,ao,rfl⟩:=o3 R
  obtain ⟨Y,y,aI,ae,ai,aa,an,rfl,rfl,n,m,u⟩:=G
  refine k ?_;try clear k
  have aQ:aG+1≤20:=cu (fJ.mp ao).1 t
  exact X1 (ay:=ae) (ai:=ai) (af:=aa) (am:=an) r l t ao az (cu (jq (v9 2 aQ) (s+42)) (jr q 82 (by decide))) n m u av
 ·rw [DT,et] at G
  refine bU fun k=>?_
  obtain ⟨Y,y,aI,ae,ai,aa,an,rfl,rfl,n,m,u⟩:=G
  refine k ?_;try clear k
  have n:GB g (s+82) Y:=n.up (jq (v9 2 t) (s+42))
  rw [← m] at u
  have A:a.length=y.length:=l.cC.trans m.symm
  have z:b≤y.length:=m.symm▸l.gm
  have F:y.length≤20:=m.symm▸t
  have aC:∀f∈ [0],f<b∧a[f]? =O 0:=fun f o=>by refine bT (ib.mp o) ?_;exact ⟨l.v2,l.d1⟩
  apply aj;exact AY n
  refine cD (fun aR=>?_) fun aR=>?_
  ·have af:b≤20:=cu z F
   have aw:a.length≤20:=A▸F
   apply aj;exact ip (cu af (by decide))
   rw [rD]
   refine k6 e8 (fun f=>a[f]? ==O 0) e8 (fun f aV K o ak aq=>?_) ?_
   ·have T:f<a.length:=hH (nf.mp o) (A▸z)
    apply aj;exact hB (gS T) (cu aw (by decide))
    have p:(a[f]? ==O 0)=((a[f] :Int)==0):=by
     rw [gS T]
     exact Ja (b:=0)
    rw [p] at ak aq
    exact cD ak aq
   generalize x:(f5 b).filter (fun f=>a[f]? ==O 0)=w
   have aL:∀f∈w,f<b∧a[f]? =O 0:=fun f o=>by
    obtain ⟨aH,aJ⟩:=l3.mp (x▸o)
    exact ⟨nf.mp aH,dr aJ⟩
   have C:w.length≤20:=by
    refine gT x ?_
    exact cu (r7 _ _) (by refine bT pk ?_;exact af)
   have aT:0<w.length:=by
    refine List.length_pos_of_mem (a:=0) (x▸l3.mpr ⟨nf.mpr l.v2,beq_iff_eq.mpr l.d1⟩)
   clear x
   apply aj;exact lh (c:=e8) (cu C (by decide))
   apply aj;exact eZ (d:=e8) (cu C (by decide))
   refine ec r (f7 aT (kT C (by decide))) (jr q 83 (by decide)) n fun aW Q aU v=>?_
   refine bU fun k=>?_
   obtain ⟨ah,ac,rfl⟩:=v
   refine k ?_;try clear k
   apply aj;exact hB (d:=e8) (gS ac) (cu C (by decide))
   have al:=aL _ (vR ac)
   generalize w[ah] =P at al⊢
   refine ec r (f7 (c:=4) (by decide) (by decide)) (jr q 84 (by decide)) aU fun a5 Q aD v=>?_
   refine bU fun k=>?_
   obtain ⟨ah,aM,rfl⟩:=v
   obtain ⟨aN,R,aP⟩:=Hq (a:=[.a3 (cU [0]),.a3 (cU [0,P]),.a3 (cU [P]),.a3 (cU [P,0])]) aM (er rfl)
   refine k ?_;try clear k
   apply aj;exact aP _
   refine bU fun k=>?_
   obtain ⟨aZ,rfl,au,aS,ay⟩:=SJ R
   refine k ?_;try clear k
   exact Jd (o:=s+84) r ag (m.symm▸L) F A l.v2 z u au aS (fun f o=>by
    rcases ay f o with rfl|rfl
    ·exact ⟨l.v2,l.d1⟩
    ·exact al) q aD ab
  ·refine SG ?_
   exact Jd (o:=s+84) r ag (m.symm▸L) F A l.v2 z u (k:=[0]) (by decide) (fun p=>nomatch p) aC q (n.up (fg _ 2)) ab
end
def SK(a:Nat):∃b:Nat,pO a ((10:Int)^(90:Int).toNat)=b:=by
 obtain ⟨b,c⟩:=UF (Int.fmod_nonneg (a:=a) (b:=(10:Int)^(90:Int).toNat) (sb a) (Int.pow_nonneg (by decide)))
 exact ⟨b,c⟩
section
variable{b:Nat}{a:List Int}
def Em{c:Nat}(f:a.length≤63)(e:c≤1000)(d:bS):jY d ar (.f (.a3 (a.map .Z))) (.f .bX) (.f (.Z c))=O (.f (.a3 ((a.take c).map .Z)),d):=by
 refine bT Mi ?_
 exact xU rfl (by rw [et];exact cu f (by decide)) e
def aaN{i:bS}{c:List Int}{e:Int→Int}:∃d:Nat,eW i ar 2 [.f (.a3 (.Z 0::c.map fun g=>.Z (e g)))] =O (.f (.Z d),i):=by
 have g:∀c:List Int,Cz (c.map fun g=>.Z (e g))=O (c.map e):=fun c=>by
  induction c with
  |nil=>rfl
  |cons d c h=>exact congrArg (nG (e d:: ·)) h
 have k:∀(c:List Int)(f:Int),f≤c.foldl max f:=fun c=>by
  induction c with
  |nil=>exact fun f=>Int.le_refl f
  |cons d c h=>exact fun f=>t6 (Int.le_max_left f d) (h _)
 obtain ⟨d,l⟩:=UF (k (c.map e) 0)
 refine ⟨d,(congrArg (fun j=>jG (nG (0:: ·) j) _) (g c)).trans ?_⟩
 show O (bZ.f (.Z ((c.map e).foldl max 0)),i)=_
 (refine bT l ?_;rfl)
def aaO(q:a.length≤63)(l:KE)(A:∀(u:dw)(f:Bool),GB f 0 u→l (.cq 0) [O u]):vC cr (b+1) 39 [.f (.a3 (a.map .Z))] [] l:=Hi (fun I R=>by
 apply aj;exact Em (c:=1) q (by decide) _
 have j:(a.take 1).length≤1:=Ch _ _
 apply aj;exact eh (cu j (by decide))
 refine iD .Z (fun e=>.Z (e-(10:Int)^(18:Int).toNat)) (fun e W K Y w=>w) ?_
 apply aj;exact lh (cu j (by decide))
 apply aj;exact lw (b:=.Z 0::(a.take 1).map fun e=>.Z (e-(10:Int)^(18:Int).toNat)) (iF (by rw [et];exact cu j (by decide)))
 obtain ⟨h,G⟩:=aaN (i:=[]) (c:=a.take 1) (e:=fun e=>e-(10:Int)^(18:Int).toNat)
 apply aj;exact G
 obtain ⟨x,C⟩:=SK h
 apply aj;exact Em (c:=24) q (by decide) _
 apply aj;exact eh (cu (Ch _ _) (by decide))
 refine wo (fun n o=>∃(d:Nat)(g:Option bZ),d<2 ^ 31∧n=[O (.f (.a3 (a.map .Z))),g,O (.f (.Z (pO h ((10:Int)^(90:Int).toNat)))),O (.f (.Z d)),b1] ∧o=[]) (fun T n o X L m F=>?_) ⟨33023,b1,by decide,rfl,rfl⟩ fun n o m=>?_
 ·obtain ⟨e,_,rfl⟩:=hJ.mp L
  obtain ⟨d,g,p,rfl,rfl⟩:=m
  obtain ⟨Q,_,y⟩:=M7 (f:=d) (e:=48271) (iG p) (by decide:(48271:Int).natAbs≤48271) (by decide) (by decide)
  apply aj;exact y _ _
  obtain ⟨c,v,P⟩:=wE (d:=Q+e) (c:=2147483629) (by decide)
  exact F _ _ ⟨c,_,LY v (by decide),congrArg (fun r=>[_,_,_,O (bZ.f (.Z r)),b1]) P,rfl⟩
 ·obtain ⟨d,g,p,rfl,rfl⟩:=m
  have i:a.length≤500:=cu q (by decide)
  have k:∃f:Bool,VB ⟨cr,I⟩ (.hK (.J (.b7 (.bW 0) (.J .cZ (.a3 ar .N) .N)) (.J (.ev (.J (.b7 (.b0 ar (.b5 12) (.J (.bW 0) .N)) (.J .cZ (.Z 1) .N)) (.J (.b7 (.b0 ar (.b5 42) (.J (.cL (.bW 0) (.Z 0)) .N)) (.J .jL (.Z 10) .N)) .N))) .N))) [O (.f (.a3 (a.map .Z))),g,O (.f (.Z (pO h ((10:Int)^(90:Int).toNat)))),O (.f (.Z d)),b1] [] f:=by
   match a,i with
   |[],_=>exact ⟨ar,fun K c=>by
    apply aj;exact s6
    exact c⟩
   |s::t,i=>exact ⟨_,VO (a:=b2) (e:=((t.length+1:Nat):Int)==1&&dY ((s.natAbs:Int)<10)) (fun K c=>by
    apply aj;exact s7
    exact c) fun z=>AG (fun K c=>by
    apply aj;exact eZ (d:=bl.Z) i
    exact c) fun z K c=>by
    apply aj;exact hB (b:=s::t) (d:=bl.Z) (e:=0) rfl i
    exact c⟩
  obtain ⟨f,k⟩:=k
  refine k _ ?_
  apply aj;exact g4 (er rfl)
  refine c8 (b:=l) (A (.a3 [.Z (pO h ((10:Int)^(90:Int).toNat)),.Z d,.Z 0,.b3 f]) f ⟨x,d,0,congrArg (fun r=>dw.a3 [.Z r,.Z d,.Z 0,.b3 f]) C,p,dX 0⟩) rfl) rfl rfl rfl rfl
end
def sx(c d:Cd):Prop:=∀a∈d.b6,∃b∈c.b6,a.mF=b.mF∧a.dG=b.dG
def sx.cX(b:Cd)(e:cb):sx b (b.cX e):=fun h f=>by
 refine bU fun c=>?_
 obtain ⟨d,g,a⟩:=Gn.mp f
 refine c ?_;try clear c
 unfold Ct.fI at a
 split at a
 ·refine gT (dg a) ?_;exact ⟨d,g,rfl,rfl⟩
 ·exact cG a
def sx.ci{c b a:Cd}(k:sx c b)(d:sx b a):sx c a:=fun j f=>by
 obtain ⟨h,g,m,e⟩:=d j f
 obtain ⟨i,n,o,l⟩:=k h g
 exact ⟨i,n,m.trans o,e.trans l⟩
def A0(a:Cd):sx a (ig a):=(((((((sx.cX a _).ci (.cX _ _)).ci (.cX _ _)).ci (.cX _ _)).ci (.cX _ _)).ci (.cX _ _)).ci (.cX _ _)).ci (.cX _ _)
def En:∀(a:Nat)(b:Cd),sx b (d6 a b):=by
 intro a
 induction a with
 |zero=>
  intro b
  exact fun a c=>⟨a,c,rfl,rfl⟩
 |succ a d=>
  intro b
  unfold d6
  split
  ·exact A0 b
  ·exact (A0 b).ci (d _)
section
variable{c e:Hd}{a:Cd}{b:Bool}{d:List Nat}
def km.hM(f:km c a b d):kL a b:=⟨⟨⟨_,f.k3.gK⟩,fun i h g=>f.k3.a2 h (gj (dF.mp g))⟩,f.jS,f.k3.iV⟩
def km.KH(g:km c a b d)(f:a.a2.length≤10):gR (d6 24 a) b∧fH a.nc (d6 24 a).nc:=
 Ry 24 g.hM (iF (cu (pH f (cu T3 f)) (by decide)))
def Px{f:bl}(c:f=.ad "rescue"∨f=.ad "ensure"):gh f=ar:=by rcases c with rfl|rfl<;>rfl
def km.C9(h:km c a b d):s5 a:=fun f g=>Px (h.k3.b6 f g).mF
def km.NX(k:km c a b d)(f:Nat):s5 (d6 f a):=fun j g=>by
 obtain ⟨h,l,i,_⟩:=En f a j g
 refine bT i ?_;exact k.C9 h l
def oQ(i:gR a b):∀f∈a.a2,f.cF b=ar:=fun f g=>by
 obtain ⟨h,j⟩:=yA g
 exact i.hM.cF.cF h f (dF.mpr j)
def rE(g:g0 a)(j:Bd a):∀f∈a.a2,f.bV.b8=ar→f.t≤1000:=fun f h i=>cu (iG (g f h i)) (cu j.a2 (by decide))
def Eo(i:km c a b d)(w:a.a2.length≤10)(x:∀g∈a.b6,g.dG=0)(f:e.dm=.ad "block"∨e.dm=.ad "method")(v:∃t y,e.gc=.a3 [t,y]):∃n,jn e (d6 24 a) b n:=by
 have h:=(i.KH w).1
 have s:=En 24 a
 have z:=BK 24 i.hM i.k3.bd
 generalize d6 24 a=o at*
 obtain ⟨n,r⟩:=h.hM.cF.gK
 refine ⟨n,f,v,oQ h,h.hM.gH,fun g f=>?_,h.hM.jS.Aq,r,fun A u g f u=>?_,z⟩
 ·obtain ⟨j,m,k,_⟩:=s g f
  obtain ⟨l,p,_⟩:=h.hM.jS.b6 g f
  have q:=hH l p
  refine ⟨k▸(i.k3.b6 j m).mF,l,p,?_⟩
  have:=r.kJ _ (.dJ (h.J5.2 _ q) (dF.mpr (gS q)) f (by unfold Ct.c4;(refine bT (decide_eq_true (dX _)) ?_;refine bT (decide_eq_true l) ?_);rfl))
  rw [show o.nc.a2=o.a2.map O from rfl,et] at this
  exact this
 ·obtain ⟨j,m,_,k⟩:=s g f
  (refine bT k ?_;refine bT (x j m) ?_);exact fy _
end
noncomputable def Ds:List b4:=["threaded","known branches","turned branches","short jumps","dead rows","pushes","copies","swaps"]
noncomputable def Dt:List b4:=["copies","dead rows","known branches","pushes","short jumps","swaps","threaded","turned branches"]
def KI(c b a:b4)(d:ie c b=ar)(e:ie b a=ar):ie c a=ar:=decide_eq_true (Mj (of_decide_eq_true d) (of_decide_eq_true e))
def KJ(a b:b4):(ie a b||ie b a)=ar:=by
 rcases Un a.cps.toList b.cps.toList with c|c
 ·exact nR.mpr (.inl (decide_eq_true c))
 ·exact nR.mpr (.inr (decide_eq_true c))
def Py:Ds.mergeSort ie=Dt:=
 U4 (le:=fun a b=>ie a b=ar) (fun a b c d=>(show∀a∈Ds,∀b∈Dt,ie a b=ar→ie b a=ar→a=b by decide+kernel) a ((L7 Ds ie).mem_iff.mp c) b d) (TX KI KJ Ds) (by decide+kernel) ((L7 Ds ie).trans (by decide+kernel))
def Pz{a:bS}:eW a ar 7 [.f (.a3 (Ds.map .ad))] =O (.f (.a3 (Dt.map .ad)),a):=by
 show iI a ar ((Ds.mergeSort ie).map .ad)=_
 refine bT Py ?_
 exact lh (er rfl)
def mc(a:pd):Prop:=(a.1=iW (.ad "block") [])∧(∃b,km a.1 a.2 b2 b)∧(a.2.a2.length≤10)
section
variable{a:pd}(b:mc a)
include b
def mc.hd:a.1=iW (.ad "block") [] :=b.1
def mc.cF:∃c,km a.1 a.2 b2 c:=b.2.1
def mc.n:a.2.a2.length≤10:=b.2.2
end
def v3{b:bl}(d:gh b=ar)(c:List bl):tF (iW b c):=⟨d,rfl,rfl,[.ad "x",.ad "y"],rfl,er rfl,fun e a=>by
 rcases eP.mp a with rfl|a
 ·rfl
 ·refine bT (ib.mp a) ?_;rfl⟩
section
variable{b:pd}
def mc.bX(K:mc b):b.1.fB=[] :=by refine bT K.hd ?_;rfl
def mc.hdo(K:mc b):tF b.1:=by refine bT K.hd ?_;exact v3 rfl _
def mc.zG(K:mc b):uq b:=by obtain ⟨_,e⟩:=K.cF;exact ⟨e.hM,e.k3.bd,K.bX⟩
def mc.WE(K:mc b):wz b:=by obtain ⟨_,e⟩:=K.cF;exact ⟨K.hdo,e.k3.bd,e.k3.a2,rE e.k3.iV e.k3.bd,K.bX⟩
def mc.WF(K:mc b):Dq b:=by obtain ⟨_,e⟩:=K.cF;exact ⟨⟨_,e.k3⟩,K.bX,by refine bT K.hd ?_;rfl⟩
def mc.iQ(K:mc b):k1 10 (nO b.1 b.2 []):=by obtain ⟨_,e⟩:=K.cF;exact rB (j:=5) K.hdo e.C9 e.k3.a2 fun g f=>absurd f gD
def md(f:Hd)(e:Cd)(g:Prop):Prop:=(gR e b2)∧(Bd e)∧(s5 e)∧(f=iW (.ad "block") [])∧(g→∃h,jn f e b2 h)
section
variable{g:Hd}{f:Cd}{h:Prop}(e:md g f h)
include e
def md.ly:gR f b2:=e.1
def md.bd:Bd f:=e.2.1
def md.C9:s5 f:=e.2.2.1
def md.hd:g=iW (.ad "block") [] :=e.2.2.2.1
def md.k3:h→∃a,jn g f b2 a:=e.2.2.2.2
end
def mc.acj(K:mc b):∃f,h7 b=(b.1,f)∧fH b.2.nc f.nc∧md b.1 f (∀j∈b.2.b6,j.dG=0):=by
 obtain ⟨_,e⟩:=K.cF
 have g:=e.KH K.n
 have h:=BK 24 e.hM e.k3.bd
 have k:=e.NX 24
 have l:=fun m=>Eo (e:=b.1) e K.n m (.inl (by refine bT K.hd ?_;rfl)) ⟨.ad "x",.ad "y",by refine bT K.hd ?_;rfl⟩
 have i:h7 b=(b.1,d6 24 b.2):=by unfold h7;with_reducible rfl
 generalize d6 24 b.2=f at*
 exact ⟨f,i,g.2,g.1,h,k,K.hd,l⟩
variable{c:Hd}{a:Cd}{d:Prop}
def md.bX(e:md c a d):c.fB=[] :=by refine bT e.hd ?_;rfl
def md.ack(e:md c a d):Dp (c,a):=⟨e.ly,e.bd,e.bX⟩
def md.zG(e:md c a d):uq (c,a):=⟨e.ly.hM,e.bd,e.bX⟩
def md.WE(e:md c a d):wz (c,a):=⟨by refine bT e.hd ?_;exact v3 rfl _,e.bd,oQ e.ly,rE e.ly.hM.gH e.bd,e.bX⟩
def md.WF(e:md c a d)(f:d):Dq (c,a):=⟨e.k3 f,e.bX,by refine bT e.hd ?_;rfl⟩
def md.iQ(e:md c a d):k1 10 (nO c a []):=rB (j:=5) (by refine bT e.hd ?_;exact v3 rfl _) e.C9 (oQ e.ly) fun f d=>absurd d gD
end
section
variable{b:bS}{a:bl}
def BS(d:k1 12 a)(e:∃c,a=.a3 c):fh cr b .ne (.f a) (.f a)=O b2:=by
 obtain ⟨c,rfl⟩:=e
 show (lE (.a3 c) (.a3 c)).map _=_
 unfold lE
 refine bT (show nt k5 (.a3 c) (.a3 c)=O ar from d) ?_;rfl
def SL(d:k1 12 a)(e:∃c,a=.a3 c):fh cr b .cZ (.f a) (.f a)=O ar:=by
 obtain ⟨c,rfl⟩:=e
 show lE (.a3 c) (.a3 c)=_
 unfold lE
 exact d
def KK(g:Nat)(f:Nat→Nat)(d:Nat→Bool):kN (iN g f d):=fun i h=>by
 refine bU fun c=>?_
 obtain ⟨e,_,rfl⟩:=hJ.mp h
 refine c ?_;try clear c
 unfold oP
 cases d e<;>exact fC rfl
end
abbrev fL:=Hd×Cd×Cd
def fL.f(a:fL):bl:=cf a.1 a.2.1
def fL.g(a:fL):bl:=cf a.1 a.2.2
def lJ(c:cK)(a:List fL)(b:Hd)(f d:Cd)(g i:List Nat)(j k:List bl):Prop:=(PC c 54 [.f (cf (b.wk (a.map fL.f)) f)] (.a3 j))∧(PC c 54 [.f (cf (b.wk (a.map fL.g)) d)] (.a3 k))∧(k1 12 (.a3 j))∧(k1 12 (.a3 k))∧(PC c 55 [.f (cf (b.wk (a.map fL.f)) f)] (.a3 (cU i)))∧(PC c 63 [.f (cf (b.wk (a.map fL.f)) f)] (.a3 (iN g.length (FX g) fun l=>i.contains l)))∧(PC c 36 [.f (cf (b.wk (a.map fL.f)) f)] (cf (b.wk (a.map fL.g)) d))∧(PC c 36 [.f (cf (b.wk (a.map fL.g)) d)] (cf (b.wk (a.map fL.g)) d))∧(PC c 59 [.f (cf (b.wk (a.map fL.g)) d)] (.b3 ar))∧(PC c 62 [.f (cf (b.wk (a.map fL.f)) f),.f (cf (b.wk (a.map fL.g)) d)] (.b3 ar))∧(∀e∈a,PC c 59 [.f e.g] (.b3 ar))∧(∀e∈a,PC c 62 [.f e.f,.f e.g] (.b3 ar))∧(∀n∈Dt,PC c 38 [.f (cf (b.wk (a.map fL.g)) d),.f (.a3 [.ad n])] (cf (b.wk (a.map fL.g)) d))∧((∀h∈f.b6,h.dG=0)→(∀e∈a,∀h∈e.2.1.b6,h.dG=0)→∃o m,PC c 63 [.f (cf (b.wk (a.map fL.g)) d)] (.a3 (iN o m fun p=>ar)))∧(g.length≤20)∧(a.length≤5)∧(f.b6.length≤8)∧(∀e∈a,e.2.1.b6.length≤8)
section
variable{d:cK}{a:List fL}{c:Hd}{h e:Cd}{i j:List Nat}{k l:List bl}(b:lJ d a c h e i j k l)
include b
def lJ.V3:PC d 54 [.f (cf (c.wk (a.map fL.f)) h)] (.a3 k):=b.1
def lJ.Nb:PC d 54 [.f (cf (c.wk (a.map fL.g)) e)] (.a3 l):=b.2.1
def lJ.s1:k1 12 (.a3 k):=b.2.2.1
def lJ.s2:k1 12 (.a3 l):=b.2.2.2.1
def lJ.acl:PC d 55 [.f (cf (c.wk (a.map fL.f)) h)] (.a3 (cU j)):=b.2.2.2.2.1
def lJ.acm:PC d 63 [.f (cf (c.wk (a.map fL.f)) h)] (.a3 (iN i.length (FX i) fun f=>j.contains f)):=b.2.2.2.2.2.1
def lJ.KH:PC d 36 [.f (cf (c.wk (a.map fL.f)) h)] (cf (c.wk (a.map fL.g)) e):=b.2.2.2.2.2.2.1
def lJ.aaP:PC d 36 [.f (cf (c.wk (a.map fL.g)) e)] (cf (c.wk (a.map fL.g)) e):=b.2.2.2.2.2.2.2.1
def lJ.ly:PC d 59 [.f (cf (c.wk (a.map fL.g)) e)] (.b3 ar):=b.2.2.2.2.2.2.2.2.1
def lJ.je:PC d 62 [.f (cf (c.wk (a.map fL.f)) h),.f (cf (c.wk (a.map fL.g)) e)] (.b3 ar):=b.2.2.2.2.2.2.2.2.2.1
def lJ.aaQ:∀f∈a,PC d 59 [.f f.g] (.b3 ar):=b.2.2.2.2.2.2.2.2.2.2.1
def lJ.aaR:∀f∈a,PC d 62 [.f f.f,.f f.g] (.b3 ar):=b.2.2.2.2.2.2.2.2.2.2.2.1
def lJ.acn:∀f∈Dt,PC d 38 [.f (cf (c.wk (a.map fL.g)) e),.f (.a3 [.ad f])] (cf (c.wk (a.map fL.g)) e):=b.2.2.2.2.2.2.2.2.2.2.2.2.1
def lJ.iz:(∀f∈h.b6,f.dG=0)→(∀m∈a,∀f∈m.2.1.b6,f.dG=0)→∃n g,PC d 63 [.f (cf (c.wk (a.map fL.g)) e)] (.a3 (iN n g fun o=>ar)):=b.2.2.2.2.2.2.2.2.2.2.2.2.2.1
def lJ.nh:i.length≤20:=b.2.2.2.2.2.2.2.2.2.2.2.2.2.2.1
def lJ.nT:a.length≤5:=b.2.2.2.2.2.2.2.2.2.2.2.2.2.2.2.1
def lJ.nk:h.b6.length≤8:=b.2.2.2.2.2.2.2.2.2.2.2.2.2.2.2.2.1
def lJ.nkt:∀f∈a,f.2.1.b6.length≤8:=b.2.2.2.2.2.2.2.2.2.2.2.2.2.2.2.2.2
end
section
variable{j:cK}{a:List fL}{c:Hd}{d k:Cd}{b e:List Nat}{l m:List bl}(h:lJ j a c d k b e l m){i:bS}
def rF(a:List fL)(c:Hd)(d:Cd)(b:List Nat)(r q n s o t p f g:Option bZ):cV:=[r,q,O (.f (.a3 (a.map fL.f))),n,s,o,O (.f (cf (c.wk (a.map fL.f)) d)),O (.f (.a3 (cU b))),t,p,f,g,b1,b1,b1,b1,b1,b1]
include h
def aaS{K:KS}{t q u s p:Option bZ}(f:K .cc (rF a c d b t q b1 b1 b1 u (O (.f (.a3 (cU e)))) s p) i):
  vS ⟨cr,j⟩ (.cB (.b7 (.b0 ar (.b5 76) (.J (.bW 6) .N)) (.J .ne Aa .N)) (.J (.cw (.b3 b2)) .N) .N) (rF a c d b t q b1 b1 b1 u (O (.f (.a3 (cU e)))) s p) i K:=by
 refine pc rfl h.acm ?_
 apply aj;exact eZ (d:=e8) (cu h.nh (by decide))
 apply aj;exact ip (cu h.nh (by decide))
 rw [rD]
 refine iD e8 (oP (FX b) fun n=>e.contains n) (fun g w K v f=>?_) ?_
 ·apply aj;exact RW e g
  have r:g<b.length:=nf.mp v
  have f:K (w++[cond (e.contains g) (.Z (FX b g)) .bX]) i:=f
  refine cD (fun o=>?_) fun o=>?_
  ·rw [o,rX (gS r)] at f
   apply aj;exact hB (d:=e8) (gS r) (cu h.nh (by decide))
   exact f
  ·rw [o] at f
   exact f
 apply aj;exact lh (cu (jH pk) (cu h.nh (by decide)))
 apply aj;exact BM (KK b.length (FX b) fun n=>e.contains n)
 exact f
def aaT{K:KS}{o p s q g n:Option bZ}(u:K .cc (rF a c d b o p (O (.f (cf (c.wk (a.map fL.g)) k))) b1 b1 s q g n) i):
  vS ⟨cr,j⟩ (.cB (.hK (.J (.b7 (.b0 ar (.b5 12) (.J (.bY (.bW 3) "children") .N)) (.J .ne (.b0 ar (.b5 12) (.J (.bW 2) .N)) .N)) (.J (.b7 (.b0 ar (.b5 78) (.J Ab .N)) (.J .ne (.b0 ar (.b5 9) (.J (.b5 77) .N)) .N)) .N))) (.J (.cw (.b3 b2)) .N) .N) (rF a c d b o p (O (.f (cf (c.wk (a.map fL.g)) k))) b1 b1 s q g n) i K:=by
 have r:a.length≤500:=cu h.nT (by decide)
 refine VO (c:=⟨cr,j⟩) (a:=b2) (e:=b2) (fun K f=>?_) (fun w K f=>?_) _ ?_
 ·apply aj;exact eZ (d:=fL.g) r
  apply aj;exact eZ (d:=fL.f) r
  have v:(!((a.length:Int)==(a.length:Int)))=b2:=by rw [beq_self_eq_true];rfl
  rw [← v] at f
  exact f
 ·apply aj;exact Pz
  apply aj;exact BS (a:=.a3 (Dt.map .ad)) (j8 fun x t=>by
   obtain ⟨y,_,rfl⟩:=hJ.mp t
   exact fC rfl) ⟨_,rfl⟩
  exact f
 exact u
end
def PA{d:Type}(b c:d→bl):∀a:List d,iC (a.map b) (a.map c)=a.map fun e=>.cQ [b e,c e] :=by
 intro a
 induction a with
 |nil=>
  exact rfl
 |cons f a g=>
  exact congrArg (bl.cQ [b f,c f] :: ·) (g)
def PB{c g:Type}{d:c→List g}:∀{a:List c},(∀b∈a,(d b).length≤8)→(a.flatMap d).length≤8*a.length:=by
 intro a
 induction a with
 |nil=>
  intro _
  exact dX 0
 |cons b a f=>
  intro e
  (refine bT Mc ?_;refine bT dZ ?_;refine bT lZ ?_;rw [y7,qB])
  exact pH (f fun i h=>e i (ia _ h)) (e b fD)
def SM{e:bS}(b:Nat)(a:Nat→Nat):fh cr e .ft (.f .bX) (.f (.a3 (iN b a fun c=>ar)))=O b2:=by
 show ic .bX (iN b a fun c=>ar)=_
 unfold ic iN
 induction f5 b with
 |nil=>rfl
 |cons g f d=>
  show (nG _ (zu .bX (f.map (oP a fun c=>ar))))=_
  refine bT d ?_;rfl
def X3{d:Type}{j:cV→bS→List bl→KL→Prop}{l:List Nat}{s:Bool}{r:cV}{e:bS}(k:d→bl)(h:d→List bl){n p:Nat}:∀{c:List d}{a:List bl}{K:KL},
  (∀(b:d)(a:List bl)(K:KL),b∈c→a.length≤n→K (a++h b) e→jP r l s (k b) fun u=>j u e a K)→(∀b∈c,(h b).length≤p)→a.length+c.length*p≤n→K (a++c.flatMap h) e→og j r l s (c.map k) e a K:=by
 intro c
 induction c with
 |nil=>
  intro a K _ _ _ f
  rw [Ud,kX] at f;exact f
 |cons b v t=>
  intro a K m q o f
  exact m b a _ fD (cu (fg _ _) o) (t (fun i a K g=>m i a K (ia _ g)) (fun i g=>q i (ia _ g))
   (by
    (refine bT dZ ?_;rw [nH])
    refine cu (jq ?_ _) o
    (refine bT lZ ?_;rw [Nat.succ_mul,qB])
    exact jq (q b fD) _) (by (rewrite [m8];refine gT Mc ?_);exact f))
section
variable{i:cK}{a:List fL}{b:Hd}{d j:Cd}{h l:List Nat}{m k:List bl}(c:lJ i a b d j h l m k){e:bS}
include c
def aaU{K:KS}{u q y r:Option bZ}(F:∀o g,K .cc (rF a b d h u q (O (.f (cf (b.wk (a.map fL.g)) j))) b1 b1 y r o g) e):
  vS ⟨cr,i⟩ (.fT [10,11] ar (.zt (.eD ar .dc (.a3 ar (.J (.bW 6) .N)) (.bW 2)) (.eD ar .dc (.a3 ar (.J (.bW 3) .N)) (.bY (.bW 3) "children"))) Ac) (rF a b d h u q (O (.f (cf (b.wk (a.map fL.g)) j))) b1 b1 y r b1 b1) e K:=by
 have v:∀{Q:fL→bl}{I:bl},(I::a.map Q).length≤100000:=iF (by rw [et];exact cu c.nT (by decide))
 apply aj;exact lw (b:=_::a.map fL.f) v
 apply aj;exact lw (b:=_::a.map fL.g) v
 apply aj;exact if_pos v
 refine wo (fun x s=>∃o g,x=rF a b d h u q (O (.f (cf (b.wk (a.map fL.g)) j))) b1 b1 y r o g∧s=e) (fun z x s T f t L=>?_) ⟨_,_,rfl,rfl⟩ fun x s t=>?_
 ·refine bU fun n=>?_
  obtain ⟨o,g,rfl,rfl⟩:=t
  have R:∃w p,z=.cQ [w,p] ∧PC i 59 [.f p] (.b3 ar)∧PC i 62 [.f w,.f p] (.b3 ar):=by
   rcases eP.mp f with rfl|f
   ·exact ⟨_,_,rfl,c.ly,c.je⟩
   ·have f:z∈iC (a.map fL.f) (a.map fL.g):=f
    rw [PA] at f
    obtain ⟨A,C,rfl⟩:=hJ.mp f
    exact ⟨_,_,rfl,c.aaQ A C,c.aaR A C⟩
  obtain ⟨w,p,rfl,P,G⟩:=R
  refine n ?_;try clear n
  refine pc rfl P ?_
  refine pc rfl G ?_
  exact L _ _ ⟨_,_,rfl,rfl⟩
 ·refine bU fun n=>?_
  obtain ⟨o,g,rfl,rfl⟩:=t
  refine n ?_;try clear n
  exact F _ _
def aaV{K:KS}{n o q p f g:Option bZ}(r:K .cc (rF a b d h n o (O (.f (cf (b.wk (a.map fL.g)) j))) (O (.f (.a3 k))) b1 q p f g) e):
  vS ⟨cr,i⟩ (.cB (.hK (.J (.b7 Ad (.J .ne (.a3 ar .N) .N)) (.J (.b7 (.b0 ar (.b5 67) (.J (.b0 ar (.b5 38) (.J (.bW 3) .N)) .N)) (.J .ne (.bW 4) .N)) .N))) (.J (.cw (.b3 b2)) .N) .N) (rF a b d h n o (O (.f (cf (b.wk (a.map fL.g)) j))) (O (.f (.a3 k))) b1 q p f g) e K:=by
 iterate 8
  refine pc rfl (c.acn _ (by decide+kernel)) ?_
  refine pc rfl c.Nb ?_
  apply aj;exact BS c.s2 ⟨_,rfl⟩
 apply aj;exact wD
 refine pc rfl c.aaP ?_
 refine pc rfl c.Nb ?_
 apply aj;exact BS c.s2 ⟨_,rfl⟩
 exact r
def fU(g:pd):List bl:=(g.2.b6.filter fun f=>dY ((0:Int)<(f.dG:Int))).map k0
def nQ(a:List fL)(b:Hd)(d:Cd):List pd:=(b.wk (a.map fL.f),d)::a.map fun f=>(f.1,f.2.1)
def X4{K:KS}{t p s v A r y q:Option bZ}(n:K .cc (rF a b d h t p s v (O (.f (.a3 ((nQ a b d).flatMap fU)))) A r y q) e):
  vS ⟨cr,i⟩ (.ch 5 Ae) (rF a b d h t p s v b1 A r y q) e K:=by
 have u:∀{L:fL→bl}{C:bl},(C::a.map L).length≤100000:=iF (by rw [et];exact cu c.nT (by decide))
 have T:cf (b.wk (a.map fL.f)) d::a.map fL.f=(nQ a b d).map ez:=by unfold nQ;(refine bT Cj ?_;refine bT lO ?_);rfl
 have z:∀f∈nQ a b d,f.2.b6.length≤8:=fun f g=>by
  rcases eP.mp g with rfl|g
  ·exact c.nk
  ·obtain ⟨F,I,rfl⟩:=hJ.mp g
   exact c.nkt F I
 apply aj;exact lw (b:=_::a.map fL.f) u
 apply aj;exact FA u
 refine bT T ?_
 have w:(nQ a b d).length≤6:=iF (by rw [et];exact c.nT)
 have x:∀f∈nQ a b d,(fU f).length≤8:=fun f g=>by
  unfold fU
  rw [et]
  exact cu (r7 _ _) (z f g)
 refine X3 (n:=48) ez fU (fun f G K g Q n=>?_) x (cu (jq (Nat.mul_le_mul_right 8 w) _) (by decide)) ?_
 ·apply aj;exact eh (cu (z f g) (by decide))
  apply aj;exact FA (cu Q (by decide))
  refine k6 k0 (fun o=>dY ((0:Int)<(o.dG:Int))) k0 (fun o G K W P R=>?_) ?_
  ·exact cD P R
  ·exact n
 apply aj;exact lw (b:=(nQ a b d).flatMap fU) (cu (PB x) (cu (v9 8 w) (by decide)))
 exact n
def PD(r:(nQ a b d).flatMap fU=[]):∃u s,PC i 63 [.f (cf (b.wk (a.map fL.g)) j)] (.a3 (iN u s fun w=>ar)):=by
 have g:∀n∈nQ a b d,∀f∈n.2.b6,f.dG=0:=fun n t f q=>by
  refine Nat.eq_zero_of_not_pos fun g=>?_
  have p:k0 f∈(nQ a b d).flatMap fU:=List.mem_flatMap.mpr ⟨n,t,hJ.mpr ⟨f,l3.mpr ⟨q,decide_eq_true (kY.mpr g)⟩,rfl⟩⟩
  rw [r] at p
  cases p
 exact c.iz (g _ fD) fun o v=>g (o.1,o.2.1) (ia _ (hJ.mpr ⟨o,v,rfl⟩))
def X5{K:KS}{t s u v q n o:Option bZ}(f:K .cc (rF a b d h t s (O (.f (cf (b.wk (a.map fL.g)) j))) u (O (.f (.a3 ((nQ a b d).flatMap fU)))) v q n o) e):
  vS ⟨cr,i⟩ (.cB (.ev (.J (.b7 (.bW 5) (.J .cZ (.a3 ar .N) .N)) (.J (.b7 .bX (.J .ft (.b0 ar (.b5 76) (.J (.bW 3) .N)) .N)) .N))) (.J (.cw (.b3 b2)) .N) .N) (rF a b d h t s (O (.f (cf (b.wk (a.map fL.g)) j))) u (O (.f (.a3 ((nQ a b d).flatMap fU)))) v q n o) e K:=by
 have p:=PD c
 generalize (nQ a b d).flatMap fU=r at p f⊢
 induction r with
 |nil=>
  apply aj;exact s6
  refine bU fun g=>?_
  obtain ⟨z,x,w⟩:=p rfl
  refine g ?_;try clear g
  refine pc rfl w ?_
  apply aj;exact SM z x
  exact f
 |cons C r=>
  refine AG (c:=⟨cr,i⟩) (a:=b2) (e:=b2) (fun K y=>?_) (fun A=>dy A) _ ?_
  ·apply aj;exact s7
   exact y
  exact f
def aaW{p o:Option bZ}{g:bS}{f:KE}(n:∀e,f (.f (.b3 ar)) e):
  fG ⟨cr,i⟩ (fo 3 (AV Fp)) (rF a b d h p o b1 b1 b1 b1 b1 b1 b1) e (lG b2 g.length f):=by
 refine pc rfl c.V3 ?_
 refine pc rfl c.acl ?_
 refine aaS c ?_
 refine pc rfl c.KH ?_
 refine aaT c ?_
 refine aaU c fun q r=>?_
 refine pc rfl c.Nb ?_
 refine aaV c ?_
 refine X4 c ?_
 refine X5 c ?_
 refine pc rfl c.V3 ?_
 apply aj;exact SL c.s1 ⟨_,rfl⟩
 exact n _
end
def v5(a:fL):Prop:=(mc (a.1,a.2.1))∧(h7 (a.1,a.2.1)=(a.1,a.2.2))∧(fH a.2.1.nc a.2.2.nc)∧(md a.1 a.2.2 (∀b∈a.2.1.b6,b.dG=0))
section
variable{a:fL}(c:v5 a)
include c
def v5.s:mc (a.1,a.2.1):=c.1
def v5.e:h7 (a.1,a.2.1)=(a.1,a.2.2):=c.2.1
def v5.b:fH a.2.1.nc a.2.2.nc:=c.2.2.1
def v5.u:md a.1 a.2.2 (∀b∈a.2.1.b6,b.dG=0):=c.2.2.2
end
noncomputable def kf(a:fL):pd:=(a.1,a.2.1)
noncomputable def kg(a:fL):pd:=(a.1,a.2.2)
def Nd(a:List fL):(a.map kf).map ez=a.map fL.f:=by refine bT lO ?_;rfl
def V4(a:List fL):(a.map kg).map ez=a.map fL.g:=by refine bT lO ?_;rfl
def sy{d:Type}{b:d→Prop}{e:fL→d}{c:List fL}(h:∀a∈c,b (e a)):∀f∈c.map e,b f:=fun f g=>by
 obtain ⟨a,i,rfl⟩:=hJ.mp g
 exact h a i
def X6:∀a∈Dt,∃b∈j6,b.1=a:=by decide+kernel
def PE{a:Cd}{d:Nat→Nat}(f:∀c,c<a.a2.length→cx a.nc c):iN a.a2.length d (j5 a)=iN a.a2.length d fun g=>ar:=
 y9 fun b e=>by unfold oP;(refine bT ((ln a b).mpr (f b (nf.mp e))) ?_;rfl)
def aaX{g:Nat}{c:List fL}{k:Cd}{R:List Nat}{K:Bool}(f:∀a∈c,v5 a)(w:c.length≤5)(F:K=ar→c≠ [])(d:km (iW (.ad "method") (c.map fL.f)) k K R)(A:k.a2.length≤10):
  ∃q r ac ak,lJ (vC cr (g+8)) c (iW (.ad "method") []) k q R r ac ak:=by
 have au:∀I,(iW (.ad "method") []).wk I=iW (.ad "method") I:=fun aq=>rfl
 have z:(c.map kf).length≤5:=by rw [et];exact w
 have p:(c.map kg).length≤5:=by rw [et];exact w
 have n:5≤500:=by decide
 refine bU fun j=>?_
 obtain ⟨r,W,_,ae⟩:=NJ (iW (.ad "method") (c.map fL.f)) k d.hM.cF d.k3.bd
 refine j ?_;try clear j
 have ao:j5 k=fun m=>r.contains m:=funext fun m=>by rw [vJ,ln,rb,W]
 have T:=NK (a:=g+6) (iW (.ad "method") []) (v3 rfl _) d.k3.bd d.k3.a2 (rE d.k3.iV d.k3.bd) (e:=c.map kf) (cu z n) (sy fun a b=>(f a b).s.WE)
 have ah:k1 12 (nO (iW (.ad "method") []) k ((c.map kf).map fun e=>nO e.1 e.2 [])):=rB (j:=7) (v3 rfl _) d.C9 d.k3.a2 fun aa u=>by
  refine bU fun j=>?_
  obtain ⟨e,s,rfl⟩:=hJ.mp u
  refine j ?_;try clear j
  exact sy (b:=fun e=>k1 10 (nO e.1 e.2 [])) (e:=kf) (fun a b=>(f a b).s.iQ) e s
 have C:=NQ (c:=g) d.k3 rfl (h:=c.map kf) (Nd c).symm z (fun l t=>F l (L5.mp t)) (sy fun a b=>(f a b).s.WF)
 rw [← d.cC,ao] at C
 have o:=NI (a:=g+1) (iW (.ad "method") []) d.hM d.k3.bd (e:=c.map kf) (cu z n) (sy fun a b=>(f a b).s.zG)
 have Y:((c.map kf).map fun e=>ez (h7 e))=c.map fL.g:=by
  refine bT lO ?_
  refine y9 fun a b=>?_
  show ez (h7 (a.1,a.2.1))=_
  refine bT ((f a b).e) ?_;rfl
 rw [Y] at o
 have h:=d.KH A
 have i:=BK 24 d.hM d.k3.bd
 have Q:=d.NX 24
 have P:=fun l=>Eo (e:=iW (.ad "method") (c.map fL.g)) d A l (.inr rfl) ⟨_,_,rfl⟩
 generalize d6 24 k=q at o h i Q P
 obtain ⟨h,ag⟩:=h
 have G:=NK (a:=g+6) (iW (.ad "method") []) (v3 rfl _) i (oQ h) (rE h.hM.gH i) (e:=c.map kg) (cu p n) (sy fun a b=>(f a b).u.WE)
 have ai:k1 12 (nO (iW (.ad "method") []) q ((c.map kg).map fun e=>nO e.1 e.2 [])):=rB (j:=7) (v3 rfl _) Q (oQ h) fun aa u=>by
  refine bU fun j=>?_
  obtain ⟨e,s,rfl⟩:=hJ.mp u
  refine j ?_;try clear j
  exact sy (b:=fun e=>k1 10 (nO e.1 e.2 [])) (e:=kg) (fun a b=>(f a b).u.iQ) e s
 have x:=NI (a:=g+1) (iW (.ad "method") []) h.hM i (e:=c.map kg) (cu p n) (sy fun a b=>(f a b).u.zG)
 have an:((c.map kg).map fun e=>ez (h7 e))=c.map fL.g:=by
  refine bT lO ?_
  refine y9 fun a b=>?_
  show ez (h7 (a.1,a.2.2))=_
  have:h7 (a.1,a.2.2)=(a.1,a.2.2):=by unfold h7;rw [(f a b).u.ly.QU]
  refine bT this ?_;rfl
 rw [an,h.QU] at x
 have L:=fun m v=>O4 (a:=g+2) (iW (.ad "method") []) h i (d:=c.map kg) (cu p n) (sy fun a b=>(f a b).u.ack) m v
 rw [Nd] at T
 rw [V4] at G x L
 rw [Nd] at o
 exact ⟨q,r,_,_,⟨
  T,
  G,
  ah,
  ai,
  ae (g+7),
  C,
  o,
  x,
  AH (b:=g+5) _ h i,
  (vB (a:=g+5) _ _ (cu d.k3.bd.a2 (by decide)) (cu d.k3.bd.b6 (by decide)) (cu i.a2 (by decide)) (cu i.b6 (by decide)) (cu d.k3.bd.cp (by decide)) d.hM.cF h.hM.cF ag),
  (fun a b=>AH (b:=g+5) _ (f a b).u.ly (f a b).u.bd),
  (fun a b=>let y:=(f a b).s.zG.bd;let i:=(f a b).u.bd;vB (a:=g+5) _ _ (cu y.a2 (by decide)) (cu y.b6 (by decide)) (cu i.a2 (by decide)) (cu i.b6 (by decide)) (cu y.cp (by decide)) (f a b).s.zG.hM.cF (f a b).u.ly.hM.cF (f a b).b),
  (fun af am=>by obtain ⟨m,v,X⟩:=X6 af am;exact X▸L m v),
  (fun l ab=>by
   obtain ⟨al,e⟩:=P l
   exact ⟨_,al,PE h.J5.2▸NQ (c:=g) e rfl (h:=c.map kg) (V4 c).symm p (fun l t=>F l (L5.mp t)) (sy fun a b=>(f a b).u.WF (ab a b))⟩),
  (d.cC▸cu A (by decide)),
  w,
  d.k3.bd.b6,
  (fun a b=>(f a b).s.zG.bd.b6)⟩⟩
def Jf{h:cK}(b:h=vC cr 39){s:Bool}{f:Nat}{d:dw}{a:List fL}{e:Bool}{t:Option bZ}{p:bS}{g:KE}(q:∀v,g (.f (.b3 ar)) v)(y:f+93≤5000)(j:GB s f d)(l:∀n∈a,v5 n)(u:a.length≤5)(c:e=ar↔a.map fL.f≠ []):
  fG ⟨cr,h⟩ (fo 2 (AV Fp)) [t,O (.cq 0),O (.f (.a3 (a.map fL.f))),b1,b1,b1,b1,b1,b1,b1,b1,b1,b1,b1,b1,b1,b1,b1] [O d] (lG b2 p.length g):=by
 refine ec b (Je (j:=31) (d:=10) (c:=.ad "method") (e:=a.map fL.f) (h:=e) (by decide) (by decide) (.inr rfl) c) y j fun I z C r=>?_
 refine bU fun i=>?_
 obtain ⟨K,L,k,w,rfl⟩:=r
 obtain ⟨F,P,A,G,o⟩:=aaX (g:=31) l u (fun x m=>c.mp x (by refine bT m ?_;rfl)) k w
 refine i ?_;try clear i
 subst b
 exact aaW o q
def SN(e:List Int)(s:e.length≤63):vC cr 40 MR [.f (.a3 (e.map .Z))] [] fun f b=>f=.f (.b3 ar):=Hi (fun w c=>by
 refine vc c (aaO s _ fun u x d=>?_)
 apply aj;exact AY d
 refine cD (fun q=>?_) fun q=>?_
 ·exact Jf (a:=[]) (e:=b2) c (fun b=>rfl) (by decide:0+93≤5000) d (fun b a=>absurd a gD) (by decide) ⟨(fun a=>dy a),fun a=>absurd rfl a⟩
 ·refine ec c (Je (j:=31) (d:=6) (c:=.ad "block") (e:=[]) (h:=b2) (by decide) (by decide) (.inl rfl) ⟨(fun a=>dy a),fun a=>absurd rfl a⟩) (by decide:0+93≤5000) d fun y f m p=>?_
  refine bU fun g=>?_
  obtain ⟨h,r,k,t,rfl⟩:=p
  have K:mc (iW (.ad "block") [],h):=⟨rfl,⟨r,k⟩,cu t (by decide)⟩
  obtain ⟨l,i,o,j⟩:=K.acj
  refine g ?_;try clear g
  exact Jf (a:=[(iW (.ad "block") [],h,l)]) (e:=ar) c (fun b=>rfl) (by decide:93+93≤5000) m (fun v n=>by
   refine bT (ib.mp n) ?_
   exact ⟨K,i,o,j⟩) (er rfl) ⟨(fun b a=>nomatch a),fun b=>rfl⟩) rfl rfl rfl rfl
end
section
open PySem PySem.W PyProof.Rows PySem.Calls
def aco{a:Prop}(c:∀b:Prop,(a→b)→b):a:=c a id
abbrev di:=cz→Option eb
def k4(d c:di):Prop:=∀a b,d a=O b→c a=O b
def k4.cy(a:di):k4 a a:=fun b b c=>c
def k4.ci{e a c:di}(h:k4 e a)(g:k4 a c):k4 e c:=fun d b f=>g d b (h d b f)
noncomputable def di.d7(d:di)(b:cz)(c:eb):di:=fun a=>if a=b then O c else d a
def di.eF(c:di)(a:cz)(b:eb):c.d7 a b a=O b:=if_pos rfl
def di.fe(c:di){b a:cz}(d:eb)(e:a≠b):c.d7 b d a=c a:=if_neg e
def k4.d7{b:di}{c:cz}(d:eb)(e:b c=b1):k4 b (b.d7 c d):=fun g f a=>by
 rw [di.fe]
 ·exact a
 ·rintro rfl;rw [e] at a;exact cG a
structure Wd where
 dP:r9
 w:t3
 K:gI
 eG:eu
 aaY:Co
 T:rg
 jT:Nat→cz
 eS:Nat→cz
 kP:Nat→cz
 yo:Nat→cj
def jp(c:eb)(e:b4→Option cj):Prop:=∃a d,c.data=.dict a d∧StrKeys a∧∀b,tX a b=e b
def jp.eH{b:eu}{c:cz}{a:eb}{d:b4→Option cj}(h:jp a d)(e:b.get? c=O a):b.Ns c d:=by obtain ⟨g,f,i⟩:=h;exact ⟨a,g,f,e,i⟩
def jp.eI{b:eu}{c:cz}{d:b4→Option cj}(h:b.Ns c d):∃a,b.get? c=O a∧jp a d:=by obtain ⟨a,g,f,e,i⟩:=h;exact ⟨a,e,g,f,i⟩
noncomputable def dl(b:String)(a:List cj)(c:Nat):eb:={cls:=.type b,data:=.seq a.toArray c}
def qy(d:lb)(e:b4→Option cj)(f:List cj):Prop:=(∀(c:Nat)(a:b4)(b:cj),d.dj[c]? =O a→f[c]? =O b→e a=O b)∧(∀a,a∉d.dj→e a=b1)
section
variable{a:lb}{b:b4→Option cj}{d:List cj}(c:qy a b d)
include c
def qy.eH:∀(e:Nat)(g:b4)(f:cj),a.dj[e]? =O g→d[e]? =O f→b g=O f:=c.1
def qy.acp:∀e,e∉a.dj→b e=b1:=c.2
end
def v6(b:Wd)(f:di)(i:cz)(a:Nat)(c:lb)(h:List cj):Prop:=b.T.e7[a]? =O c∧∃e d g,f i=O (ki (b.eS a) e)∧f e=O d∧jp d g∧qy c g h
mutual
noncomputable def g5(W:Wd)(F:di):bl→cj→Prop
 |.bX,v=>v=.none
 |.b3 b,v=>v=.bool b
 |.Z i,v=>∃t,v=.int i t
 |.ad x,v=>∃t,v=.str x t
 |.cQ xs,v=>∃a vs n,v=.ref a∧F a=O (dl "tuple" vs n)∧dB W F xs vs
 |.a3 xs,v=>∃a vs n,v=.ref a∧F a=O (dl "list" vs n)∧dB W F xs vs
 |.gJ c fs,v=>∃a k vs,v=.ref a∧v6 W F a c k vs∧fs.length=k.dj.length∧dB W F fs vs
 |.fn k,v=>v=.ref (W.jT k)
 |.kE c,v=>v=.ref (W.eS c)
 |.bi k,v=>v=W.yo k
 |.ob d,v=>v=.ref (W.kP d)
noncomputable def dB(W:Wd)(F:di):List bl→List cj→Prop
 |[],vs=>vs=[]
 |x::xs,vs=>∃v us,vs=v::us∧g5 W F x v∧dB W F xs us
end
section
variable{c:Wd}{d i:di}
def dB.xh{h:bl}{g:List bl}{f:List cj}{e:List cj→Prop}(l:dB c d (h::g) f)(j:∀a b,g5 c d h a→dB c d g b→e (a::b)):e f:=by
 obtain ⟨a,b,rfl,m,k⟩:=l
 exact j a b m k
def v6.cO(g:k4 d i){f:cz}{a:Nat}{e:lb}{b:List cj}(l:v6 c d f a e b):v6 c i f a e b:=by obtain ⟨k,m,n,p,h,j,o⟩:=l;exact ⟨k,m,n,p,g _ _ h,g _ _ j,o⟩
mutual
theorem g5.cO(l:k4 d i):∀{x:bl}{v:cj},g5 c d x v→g5 c i x v
 |.bX,_,h=>h
 |.b3 _,_,h=>h
 |.Z _,_,h=>h
 |.ad _,_,h=>h
 |.cQ _,_,h=>by obtain ⟨a,vs,n,e,f,r⟩:=h;exact ⟨a,vs,n,e,l _ _ f,dB.cO l r⟩
 |.a3 _,_,h=>by obtain ⟨a,vs,n,e,f,r⟩:=h;exact ⟨a,vs,n,e,l _ _ f,dB.cO l r⟩
 |.gJ _ _,_,h=>by obtain ⟨a,k,vs,e,f,q,r⟩:=h;exact ⟨a,k,vs,e,f.cO l,q,dB.cO l r⟩
 |.fn _,_,h=>h
 |.kE _,_,h=>h
 |.bi _,_,h=>h
 |.ob _,_,h=>h
theorem dB.cO(l:k4 d i):∀{xs:List bl}{vs:List cj},dB c d xs vs→dB c i xs vs
 |[],_,h=>h
 |_::_,_,h=>by obtain ⟨v,us,e,a,b⟩:=h;exact ⟨v,us,e,g5.cO l a,dB.cO l b⟩
end
def dB.cC{a:List bl}:∀{b:List cj},dB c d a b→b.length=a.length:=by
 induction a with
 |nil=>exact fun e=>congrArg qE (show _=[] from e)
 |cons l a f=>
  intro b e
  obtain ⟨j,k,g,_,h⟩:=e
  exact (congrArg qE g).trans (congrArg pI (f h))
def dB.iU{g:List bl}:∀{e:List cj}{b:Nat}{h:bl},dB c d g e→g[b]? =O h→∃a,e[b]? =O a∧g5 c d h a:=by
 induction g with
 |nil=>exact fun p f=>cG f
 |cons h g j=>
  intro e b n m f
  refine m.xh (e:=fun e=>∃a,e[b]? =O a∧g5 c d n a) fun a k o l=>?_
  induction b with
  |zero=>exact ⟨a,rfl,dg f▸o⟩
  |succ b=>exact j (e:=k) (b:=b) l f
def dB.mK{g:List bl}{b:List cj}{f:Nat}{h:bl}{a:cj}(k:dB c d g b)(l:g[f]? =O h)(j:b[f]? =O a):g5 c d h a:=by
 obtain ⟨n,e,m⟩:=k.iU l
 rw [j] at e
 exact dg e▸m
def dB.NY{b e:List bl}{f:List cj}:∀{a:List cj},dB c d b a→dB c d e f→dB c d (b++e) (a++f):=by
 induction b with
 |nil=>intro a l g;refine bT (show a=[] from l) ?_;exact g
 |cons o b k=>exact fun g h=>g.xh (e:=fun a=>dB c d (o::(b++e)) (a++f)) fun j a n m=>⟨j,_,rfl,n,k m h⟩
def dB.o9{b:bl}{a:cj}(e:g5 c d b a):dB c d [b] [a] :=⟨a,[],rfl,e,rfl⟩
structure dQ where
 F:di
 T:di
 α:List cz
def dU(c:Wd)(e:dQ):bZ→cj→Prop
 |.f g,a=>g5 c e.F g a
 |.cq f,a=>∃b,a=.ref b∧e.α[f]? =O b
 |.fK f,a=>∃b,a=.ref b∧e.α[f]? =O b
noncomputable def ef(c:Wd)(e:dQ):List bZ→List cj→Prop
 |[],a=>a=[]
 |h::g,a=>∃b f,a=b::f∧dU c e h b∧ef c e g f
structure Le(fr:cz→Prop)(g g':dQ):Prop where
 F:k4 g.F g'.F
 α:g.α <+: g'.α
 T:∀a,¬fr a→g'.T a=g.T a
abbrev pY:dQ→dQ→Prop:=Le fun a=>False
def Le.cy{e:cz→Prop}(a:dQ):Le e a a:=⟨k4.cy _,jU _,fun b b=>rfl⟩
def Le.ci{a:cz→Prop}{f g k:dQ}(e:Le a f g)(b:Le a g k):Le a f k:=⟨e.F.ci b.F,e.α.trans b.α,fun j h=>(b.T j h).trans (e.T j h)⟩
def Le.up{f h:cz→Prop}{e g:dQ}(b:Le f e g)(j:∀a,f a→h a):Le h e g:=⟨b.F,b.α,fun a k=>b.T a fun l=>k (j a l)⟩
def Le.vd{e:cz→Prop}{a b:dQ}(g:pY a b):Le e a b:=g.up fun h f=>f.elim
def Jg{a b:List cz}(h:a <+: b){f:Nat}{g:cz}(e:a[f]? =O g):b[f]? =O g:=by
 obtain ⟨j,rfl⟩:=h
 rw [ph (fJ.mp e).1];exact e
def dU.cO{l:cz→Prop}{h j:dQ}(e:Le l h j):∀{k:bZ}{g:cj},dU c h k g→dU c j k g
 |.f _,_,m=>g5.cO e.F m
 |.cq _,_,⟨f,b,a⟩=>⟨f,b,Jg e.α a⟩
 |.fK _,_,⟨f,b,a⟩=>⟨f,b,Jg e.α a⟩
theorem ef.cO{j:cz→Prop}{b e:dQ}(g:Le j b e):∀{f:List bZ}{a:List cj},ef c b f a→ef c e f a
 |[],_,n=>n
 |_::_,_,⟨h,l,k,o,m⟩=>⟨h,l,k,o.cO g,ef.cO g m⟩
def ef.cC{g:dQ}{a:List bZ}:∀{b:List cj},ef c g a b→b.length=a.length:=by
 induction a with
 |nil=>exact fun e=>congrArg qE (show _=[] from e)
 |cons m a f=>
  intro b e
  obtain ⟨k,l,h,_,j⟩:=e
  exact (congrArg qE h).trans (congrArg pI (f j))
def dB.Zg{e:dQ}:∀{a:List bl}{b:List cj},dB c e.F a b→ef c e (a.map .f) b:=by
 intro a
 induction a with
 |nil=>
  intro _ m
  exact m
 |cons _ _ g=>
  intro _ h
  obtain ⟨f,k,j,n,l⟩:=h
  exact ⟨f,k,j,n,(g l)⟩
def td{b:bZ}{K:bl→Prop}(e:Vp b K):∃a,b=.f a∧K a:=by
 induction b with
 |f a=>exact ⟨a,rfl,e⟩
 |_=>exact e.elim
def ef.uP{h:dQ}:∀{e:List bZ}{g:List cj}{K:List bl→Prop},ef c h e g→uP e K→∃b,dB c h.F b g∧K b:=by
 intro e
 induction e with
 |nil=>
  intro _ _ f a
  exact ⟨[],f,a⟩
 |cons _ _ l=>
  intro _ _ f a
  refine bU fun j=>?_
  obtain ⟨q,rfl,a⟩:=td a
  obtain ⟨k,o,n,m,p⟩:=f
  obtain ⟨b,r,a⟩:=l p a
  refine j ?_;try clear j
  exact ⟨q::b,⟨k,o,n,m,r⟩,a⟩
end
noncomputable def Hv:Sum Int b4→cj→Bool
 |.inl c,a=>Value.isInt c a
 |.inr b,a=>zr b a
noncomputable def KM:Sum Int b4→kD→cj
 |.inl b,a=>.int b a
 |.inr c,a=>.str c a
def rY{a:Sum Int b4}{b:cj}(c:Hv a b=ar):∃d,b=KM a d:=by
 induction a with
 |inl _=>exact Value.isInt_shape c
 |inr _=>exact Value.isStrOf_shape c
def SO{d e:Type}{c b:d}[DecidableEq d]{a:d→e}[DecidableEq e](f:(a c=a b)=(c=b)):(c==b)=dY (a c=a b):=by (rewrite [vJ,beq_iff_eq,decide_eq_true_iff];refine bT f ?_;rfl)
def X7(g:r9)(e:t3){k:d9}{f:cj→cM→Prop}{h:cM}{j i:kD}:∀{c a:Sum Int b4}{b:Bool→cM→Prop},b (dY (c=a)) h→n9 (i5 g e) k (eqBool (KM c j) (KM a i)) b f h
 |.inl c,.inl a,b,d=>wpAny_eqBool_int (by refine bT (SO (a:=Sum.inl (β:=b4)) (Sum.inl.injEq c a)) ?_;exact d)
 |.inl c,.inr a,b,d=>SeqAt.EqAt.int_str _ _ _ _ g e f b d
 |.inr c,.inl a,b,d=>SeqAt.EqAt.str_int _ _ _ _ g e f b d
 |.inr c,.inr a,b,d=>wpAny_eqBool_str (by rw [← decide_eq_decide.mpr (Eq.to_iff (Sum.inr.injEq c a))];exact d)
def i8(h:r9)(f:t3):KeyKind h f (Sum Int b4) where
 is:=Hv
 hash:=fun c=>match c with
  |.inl m=>hashInt m
  |.inr i=>hashStr f i
 inj:=fun d k j q n=>by
  obtain ⟨e,rfl⟩:=rY q
  obtain ⟨l,a⟩:=rY n
  match k,j,a with
  |.inl _,.inl _,a=>(refine bT ((Value.int.inj a).1) ?_;rfl)
  |.inr _,.inr _,a=>(refine bT ((U8 a).1) ?_;rfl)
 byValue:=fun c d b=>by
  obtain ⟨e,rfl⟩:=rY b
  induction c<;>rfl
 pyHash:=fun {t s p c d r} g b=>by
  obtain ⟨e,rfl⟩:=rY g
  induction c
  ·exact wpAny_pyHash_int b
  ·exact wpAny_pyHash_str b
 eqBool:=fun {t s p k j l d r} o g b=>by
  obtain ⟨e,rfl⟩:=rY o
  obtain ⟨u,rfl⟩:=rY g
  exact X7 h f b
 «strs»:=fun c i e d b=>by
  obtain ⟨l,a⟩:=rY b
  match c,a with
  |.inr v,a=>
   obtain rfl:=(U8 a).1
   induction d<;>rfl
abbrev g6:=Sum Int b4
noncomputable def ij(c:Wd)(f:di):List (g6×bl)→List (g6×cj)→Prop
 |[],a=>a=[]
 |d::g,a=>∃b e,a=(d.1,b)::e∧g5 c f d.2 b∧ij c f g e
theorem ij.cO{c:Wd}{g b:di}(e:k4 g b):∀{d:List (g6×bl)}{f:List (g6×cj)},ij c g d f→ij c b d f
 |[],_,a=>a
 |_::_,_,a=>by obtain ⟨h,j,i,l,k⟩:=a;exact ⟨h,j,i,g5.cO e l,ij.cO e k⟩
def sz(b:Wd)(a:di)(k:List cz)(h:eu)(c:cz):dw→Prop
 |.a3 l=>a c=b1∧∃d n,h.get? c=O (dl "list" d n)∧dB b a l d
 |.d4 m=>a c=b1∧(c==qG)=b2∧∃e i,h.get? c=O e∧e.IsDictOf (i8 b.dP b.w) i∧ij b a m i
 |.jW j f=>∃g d,v6 b a c j g d∧f.length=g.dj.length∧ef b ⟨a,a,k⟩ f d
structure c7(W:Wd)(g:dQ)(σ:bS)(s:cM):Prop where
 cC:g.α.length=σ.length
 pZ:g.α.Nodup
 uv:∀a∈g.α,∃o,s.heap.get? a=O o
 kQ:k4 W.eG.get? g.F
 ey:k4 g.F s.heap.get?
 hN:k4 g.T s.heap.get?
 hF:∀a o,g.F a=O o→g.T a=b1
 jx:∀a∈g.α,g.T a=b1
 nB:∀i a mo,g.α[i]? =O a→σ[i]? =O (O mo)→sz W g.F (g.α.take i) s.heap a mo
 qg:s.gens=#[]
 A1:s.os=W.aaY
section
variable{c:Wd}{a e:dQ}{d:bS}{b:cM}
def sz.cO{o h:di}{r p:List cz}{f t:eu}{g:cz}(k:k4 o h)(x:r <+: p)(q:∀l,f.get? g=O l→t.get? g=O l)(u:o g=b1→h g=b1):∀{s:dw},sz c o r f g s→sz c h p t g s
 |.a3 _,f=>by obtain ⟨m,n,C,i,j⟩:=f;exact ⟨u m,n,C,q _ i,j.cO k⟩
 |.d4 _,f=>by obtain ⟨m,y,l,F,i,z,j⟩:=f;exact ⟨u m,y,l,F,q _ i,z,j.cO k⟩
 |.jW _ _,f=>by obtain ⟨v,n,i,A,j⟩:=f;exact ⟨v,n,i.cO k,A,j.cO (j:=fun w=>True) (e:=⟨h,h,p⟩) ⟨k,x,fun w G=>(G trivial).elim⟩⟩
def o6{h:Type}{g:Option h}(i:∀f,g=O f→False):g=b1:=by
 induction g with
 |none=>rfl
 |some f=>exact (i f rfl).elim
def c7.yY(j:c7 c a d b){f:cz}(i:b.heap.objs.size≤f):a.F f=b1:=o6 fun g h=>absurd (nV (j.ey f g h)) (jI.mpr i)
def c7.pC(j:c7 c a d b){f:cz}(i:b.heap.objs.size≤f):a.T f=b1:=o6 fun g h=>absurd (nV (j.hN f g h)) (jI.mpr i)
def c7.fY(i:c7 c a d b){f:cz}(h:b.heap.objs.size≤f):f∉a.α:=fun j=>by obtain ⟨_,g⟩:=i.uv f j;exact absurd (nV g) (jI.mpr h)
def c7.kR(h:c7 c a d b){f:cz}{g:eb}(i:c.eG.get? f=O g):b.heap.get? f=O g:=h.ey f g (h.kQ f g i)
def c7.KN(i:c7 c a d b)(n:cz→Prop){t:di}{o:eu}(y:Nat)(w:∀j,n j→∃g,a.T j=O g)(m:∀j g,¬n j→b.heap.get? j=O g→o.get? j=O g)(q:∀f g,t f=O g→o.get? f=O g∧a.F f=b1∧f∉a.α):c7 c ⟨a.F,t,a.α⟩ d {b with heap:=o,toks:=y}:=by
 have p:∀j,a.T j=b1→¬n j:=fun j h z=>by
  obtain ⟨g,k⟩:=w j z
  rw [h] at k;exact cG k
 refine ⟨i.cC,i.pZ,fun f l=>let ⟨g,h⟩:=i.uv f l;⟨g,m _ _ (p f (i.jx f l)) h⟩,i.kQ,fun f g h=>m _ _ (p f (i.hF f g h)) (i.ey f g h),fun f g h=>(q f g h).1,fun f g h=>o6 fun r k=>?_,fun f l=>o6 fun r k=>(q f r k).2.2 l,fun u f v s x=>?_,i.qg,i.A1⟩
 ·have:=(q f r k).2.1
  rw [h] at this;exact cG this.symm
 ·exact (i.nB u f v s x).cO (k4.cy _) (jU _) (fun g h=>m _ _ (p f (i.jx f (gj s))) h) id
def c7.iO(h:c7 c a d b){k:eu}(n:Nat)(m:∀g f,b.heap.get? g=O f→k.get? g=O f):c7 c a d {b with heap:=k,toks:=n}:=
 h.KN (fun l=>False) n (fun l q=>q.elim) (fun g f l=>m g f) fun j f i=>⟨m _ _ (h.hN j f i),o6 fun o p=>(by have:=h.hF j o p;rw [i] at this;exact cG this.symm),fun r=>(by have:=h.jx j r;rw [i] at this;exact cG this.symm)⟩
def c7.qh(i:c7 c a d b)(f:Nat):c7 c a d {b with toks:=f}:=i.iO f fun g g h=>h
def c7.d0(i:c7 c a d b)(g:eb):c7 c a d {b with heap:=b.heap.push g}:=i.iO b.toks fun f f h=>ng _ h
def c7.qo(h:c7 c a d b){f:cz}{i:eb}(g:a.T f=O i):a.F f=b1∧f∉a.α:=⟨o6 fun j k=>(by have:=h.hF f j k;rw [g] at this;exact cG this.symm),fun l=>(by have:=h.jx f l;rw [g] at this;exact cG this.symm)⟩
def c7.uw(i:c7 c a d b){j:cz}{k:eb}(w:b.heap.get? j=O k)(v:a.F j=b1)(y:a.T j=b1)(z:∀l:Nat,a.α[l]? =O j→d[l]? =O b1):c7 c ⟨a.F.d7 j k,a.T,a.α⟩ d b∧pY a ⟨a.F.d7 j k,a.T,a.α⟩:=by
 have t:∀(f:cz)(g:eb)(p:Prop),a.F.d7 j k f=O g→(f=j→k=g→p)→(a.F f=O g→p)→p:=fun f g p h n o=>by
  by_cases u:f=j
  ·subst u;rw [di.eF] at h;exact n rfl (dg h)
  ·rw [di.fe _ _ u] at h;exact o h
 have s:pY a ⟨a.F.d7 j k,a.T,a.α⟩:=⟨k4.d7 k v,jU _,fun q q=>rfl⟩
 refine ⟨⟨i.cC,i.pZ,i.uv,i.kQ.ci s.F,fun f g h=>t f g _ h (fun m A=>m▸A▸w) (i.ey f g),i.hN,fun f g h=>t f g _ h (fun m q=>m▸y) (i.hF f g),i.jx,fun l f x n o=>?_,i.qg,i.A1⟩,s⟩
 refine (i.nB l f x n o).cO s.F (jU _) (fun q h=>h) fun h=>o6 fun g r=>t f g _ r (fun m q=>?_) fun r=>by rw [h] at r;exact cG r
 rw [m] at n
 rw [z l n] at o
 cases o
def c7.FZ(f:c7 c a d b){g:cz}{p:dw}(y:g∉a.α)(w:a.T g=b1)(m:∃x,b.heap.get? g=O x)(u:sz c a.F a.α b.heap g p):c7 c ⟨a.F,a.T,a.α++[g]⟩ (d++[O p]) b∧pY a ⟨a.F,a.T,a.α++[g]⟩:=by
 have q:∀{n:cz→Prop},(∀h∈a.α,n h)→n g→∀h∈a.α++[g],n h:=fun i k h m=>(my.mp m).elim (i h) fun A=>ib.mp A▸k
 have t:pY a ⟨a.F,a.T,a.α++[g]⟩:=⟨k4.cy _,vP _ _,fun v v=>rfl⟩
 refine ⟨⟨by (refine bT dZ ?_;refine bT dZ ?_;refine bT f.cC ?_);rfl,zb.mpr ⟨f.pZ,vU.mpr ⟨gD,Mh⟩,fun h z C s r=>y (ib.mp s▸r▸z)⟩,q f.uv m,f.kQ,f.ey,f.hN,f.hF,q f.jx w,fun l h o i k=>?_,f.qg,f.A1⟩,t⟩
 by_cases j:l<a.α.length
 ·rw [ph j] at i
  rw [ph (f.cC▸j)] at k
  show sz c a.F ((a.α++[g]).take l) b.heap h o
  refine bT (TQ (iG j)) ?_
  exact f.nB l h o i k
 ·have j:=ra j
  rw [la j] at i
  have:=(fJ.mp i).1
  obtain rfl:l=a.α.length:=r6 (Tx (LW.mp this)) j
  rw [pg] at i
  rw [f.cC,la (dX _),pg] at k
  show sz c a.F ((a.α++[g]).take a.α.length) b.heap h o
  (refine gT (dg i) ?_;refine gT (dg (dg k)) ?_;refine bT ze ?_)
  exact u
def c7.acq(f:c7 c a d b)(h:Nat):c7 c a (d.set h b1) b:=⟨by refine bT m9 ?_;exact f.cC,f.pZ,f.uv,f.kQ,f.ey,f.hN,f.hF,f.jx,fun i m n k g=>f.nB i m n k (by
 by_cases j:h=i
 ·subst j
  rw [TY] at g
  cases l:d[h]? <;>rw [l] at g<;>cases g
 ·rw [pi j] at g;exact g),f.qg,f.A1⟩
def c7.x6(f:c7 c a d b)(i:Nat):c7 c ⟨a.F,a.T,a.α.take i⟩ (d.take i) b:=by
 refine ⟨by (refine bT zd ?_;refine bT zd ?_;refine bT f.cC ?_;rfl),f.pZ.sublist (List.take_sublist _ _),fun g k=>f.uv g (L4 k),f.kQ,f.ey,f.hN,f.hF,fun g k=>f.jx g (L4 k),fun h g n j l=>?_,f.qg,f.A1⟩
 have m:h<i:=hH (fJ.mp j).1 (Ch _ _)
 rw [Gi m] at j l
 have o:(a.α.take i).take h=a.α.take h:=by (refine bT List.take_take ?_;refine bT (y6 (iG m)) ?_;rfl)
 show sz c a.F ((a.α.take i).take h) b.heap g n
 refine bT o ?_
 exact f.nB h g n j l
end
end
section
open PySem PySem.W PyProof.Rows PySem.Calls SeqAt
def Wp(a:Wd)(g:d9){b:Type}(e:gl b)(f:b→cM→Prop)(d:cM):Prop:=n9 (i5 a.dP a.w) g e f (fun c c=>False) d
structure xi(A:d9)(d:Nat):Prop where
 f8:A.handled=b1
 dG:A.depth+4*d<zf
 BT:A.units+20*d+20<t4
def xi.aaZ{a:d9}{c:Nat}(b:xi a c):a.units+k5<t4:=abA b.BT
section
variable{a:Wd}{b:dQ}{d:bS}{c:cM}{g:d9}{h:Type}{e:gl h}
def Wp.cO{k j:h→cM→Prop}(f:Wp a g e k c)(n:∀l i,k l i→j l i):Wp a g e j c:=Cm f n fun m m f=>f
def Wp.mQ{k j:h→cM→Prop}{n:cj→cM→Prop}(f:Wp a g e k c)(o:∀l i,k l i→j l i):n9 (i5 a.dP a.w) g e j n c:=Cm f o fun m m f=>f.elim
def VP(a:Wd)(b:dQ)(K:KE)(l:cj)(k:cM):Prop:=∃j i f,pY b f∧dU a f j l∧c7 a f i k∧K j i
def TP(a:Wd)(b:dQ){j:Type}(K:j→bS→Prop)(k:j)(l:cM):Prop:=∃f i,pY b i∧c7 a i f l∧K k f
def VP.hZ{f:dQ}{K:KE}{i:cj}(m:pY b f)(l:VP a f K i c):VP a b K i c:=by obtain ⟨p,j,k,n,o⟩:=l;exact ⟨p,j,k,m.ci n,o⟩
def TP.hZ{i:dQ}{j:Type}{K:j→bS→Prop}{f:j}(n:pY b i)(m:TP a i K f c):TP a b K f c:=by obtain ⟨k,l,o,p⟩:=m;exact ⟨k,l,n.ci o,p⟩
def Wp.vp{e:gl cj}{K:KE}{m:cj→cM→Prop}(q:Wp a g e (VP a b K) c)(p:∀k j l i f,pY b f→dU a f l k→c7 a f i j→K l i→m k j):Wp a g e m c:=q.cO fun k j n=>by obtain ⟨l,i,f,r,t,s,o⟩:=n;exact p k j l i f r t s o
def Wp.ve{k:Type}{e:gl k}{K:k→bS→Prop}{m:k→cM→Prop}(q:Wp a g e (TP a b K) c)(p:∀l j f i,pY b i→c7 a i f j→K l f→m l j):Wp a g e m c:=q.cO fun s j n=>by obtain ⟨f,i,r,t,o⟩:=n;exact p s j f i r t o
def Wp.hZ{e:gl cj}{f:dQ}{K:KE}(k:Wp a g e (VP a f K) c)(l:pY b f):Wp a g e (VP a b K) c:=k.cO fun i i j=>j.hZ l
def Wp.ux{i:Type}{e:gl i}{f:dQ}{K:i→bS→Prop}(l:Wp a g e (TP a f K) c)(m:pY b f):Wp a g e (TP a b K) c:=l.cO fun j j k=>k.hZ m
def VP.m{K:KE}{f:bZ}{i:cj}(k:c7 a b d c)(l:dU a b f i)(j:K f d):VP a b K i c:=⟨f,d,b,.cy _,l,k,j⟩
def VP.f{K:KE}{f:bl}{i:cj}(k:c7 a b d c)(l:g5 a b.F f i)(j:K (.f f) d):VP a b K i c:=⟨.f f,d,b,.cy _,l,k,j⟩
def VP.Z{K:KE}{f:Int}{e:kD}(j:c7 a b d c)(i:K (.f (.Z f)) d):VP a b K (.int f e) c:=.f (f:=.Z f) j ⟨e,rfl⟩ i
def VP.ad{K:KE}{f:b4}{e:kD}(j:c7 a b d c)(i:K (.f (.ad f)) d):VP a b K (.str f e) c:=.f (f:=.ad f) j ⟨e,rfl⟩ i
def VP.b3{K:KE}{f:Bool}(j:c7 a b d c)(i:K (.f (.b3 f)) d):VP a b K (.bool f) c:=.f (f:=.b3 f) j rfl i
def fj{j:Type}{i:Option j}{K:j→Prop}(k:lu i K):∃f,i=O f∧K f:=by
 induction i with
 |none=>exact k.elim
 |some f=>exact ⟨f,rfl,k⟩
def iE{f:Option (bZ×bS)}{K:KE}(j:gy f K):∃k d,f=O (k,d)∧K k d:=by
 induction f with
 |none=>exact j.elim
 |some i=>exact ⟨i.1,i.2,rfl,j⟩
def qT{e:Bool}{f:Prop}(i:pT e f False):e=ar∧f:=by
 induction e with
 |true=>exact ⟨rfl,i⟩
 |false=>exact i.elim
def jC{j:Type}{i:Option j}{k:j→Bool}(l:i.any k=ar):∃f,i=O f∧k f=ar:=by
 induction i with
 |none=>exact dy l
 |some f=>exact ⟨f,rfl,l⟩
def gu{f i:Bool}(j:(f&&i)=ar):f=ar∧i=ar:=iX.mp j
def cH{j m:Type}{i:Option j}{k:j→Option m}{n:m}(l:i.bind k=O n):∃f,i=O f∧k f=O n:=by
 induction i with
 |none=>exact cG l
 |some f=>exact ⟨f,rfl,l⟩
def dC{j m:Type}{i:Option j}{k:j→m}{n:m}(l:i.map k=O n):∃f,i=O f∧k f=n:=by
 induction i with
 |none=>exact cG l
 |some f=>exact ⟨f,rfl,dg l⟩
def eB{f:Prop}[Decidable f]{k:Type}{m:Option k}{l:k}(i:(if f then m else b1)=O l):f∧m=O l:=by
 by_cases j:f
 ·rw [if_pos j] at i;exact ⟨j,i⟩
 ·rw [if_neg j] at i;exact cG i
def Ep{f:List cz}(o:f.Nodup){j i:Nat}{l k:cz}(m:f[j]? =O l)(p:f[i]? =O k)(n:j≠i):k≠l:=by
 rintro rfl
 exact n (List.getElem?_inj (fJ.mp m).1 o |>.mp (m.trans p.symm))
def c7.Zh(i:c7 a b d c){n:Nat}{l:cz}{t:dw}{o:eu}(F:Nat)(r:b.α[n]? =O l)(x:b.F l=b1)(s:t5 l c.heap o)(z:sz a b.F (b.α.take n) o l t)(C:∃k,o.get? l=O k):c7 a b (d.set n (O t)) {c with heap:=o,toks:=F}:=by
 have w:∀{f:cz}{k:eb}{v:di},v l=b1→v f=O k→f≠l:=fun G j m=>by rw [m,G] at j;exact cG j
 refine ⟨by refine bT m9 ?_;exact i.cC,i.pZ,fun f y=>?_,i.kQ,fun f k j=>(s.2 f (w x j)).trans (i.ey f k j),fun f k j=>(s.2 f (w (i.jx l (gj r)) j)).trans (i.hN f k j),i.hF,i.jx,fun u f A p q=>?_,i.qg,i.A1⟩
 ·by_cases m:f=l
  ·exact m▸C
  ·obtain ⟨k,j⟩:=i.uv f y
   exact ⟨k,(s.2 f m).trans j⟩
 ·by_cases m:n=u
  ·subst m
   rw [r] at p
   rw [Gj (i.cC▸(fJ.mp r).1)] at q
   (refine gT (dg p) ?_;refine gT (dg (dg q)) ?_)
   exact z
  ·rw [pi m] at q
   exact (i.nB u f A p q).cO (k4.cy _) (jU _) (fun k j=>(s.2 f (Ep i.pZ r p m)).trans j) id
def xW{k:Nat}{i:Type}{j:dw→Option i}{l:i}(p:(wP d k).bind j=O l):∃f,d[k]? =O (O f)∧j f=O l:=by
 obtain ⟨f,m,n⟩:=cH p
 obtain ⟨q,o,rfl⟩:=cH m
 exact ⟨f,o,n⟩
def PF{i:Nat}{j:List bl}(m:il d i=O j):d[i]? =O (O (.a3 j)):=by
 obtain ⟨k,l,f⟩:=xW m
 induction k with
 |a3 _=>obtain rfl:=dg f;exact l
 |_=>exact cG f
def PG{i:Nat}{j:List (Sum Int b4×bl)}(m:ml d i=O j):d[i]? =O (O (.d4 j)):=by
 obtain ⟨k,l,f⟩:=xW m
 induction k with
 |d4 _=>obtain rfl:=dg f;exact l
 |_=>exact cG f
def PJ{j:Nat}{f:Nat×List bZ}(m:wQ d j=O f):d[j]? =O (O (.jW f.1 f.2)):=by
 obtain ⟨k,l,i⟩:=xW m
 induction k with
 |jW _ _=>obtain rfl:=dg i;exact l
 |_=>exact cG i
def ik{i:bZ}{j:bl}(k:i.f?=O j):i=.f j:=by
 induction i with
 |f _=>exact congrArg bZ.f (dg k)
 |_=>exact cG k
def lz{f:bZ}{j:Nat}(i:f.sf=O j):f=.cq j:=by
 induction f with
 |cq _=>exact congrArg bZ.cq (dg i)
 |_=>exact cG i
def PK{f:bZ}{j:Nat}(i:f.Vk=O j):f=.fK j:=by
 induction f with
 |fK _=>exact congrArg bZ.fK (dg i)
 |_=>exact cG i
def SP{f:bl}{j:Int}(i:f.kA=O j):f=.Z j:=by
 cases f<;>first|exact congrArg _ (dg i)|exact cG i
def wF{f:bl}{j:b4}(i:f.tv=O j):f=.ad j:=by
 cases f<;>first|exact congrArg _ (dg i)|exact cG i
def KO{f:bl}{j:List bl}(i:f.uc=O j):f=.a3 j:=by
 cases f<;>first|exact congrArg _ (dg i)|exact cG i
def xX{f:bl}{i:Nat×List bl}(j:f.QO=O i):f=.gJ i.1 i.2:=by
 cases f<;>first|exact dg j▸rfl|exact cG j
def rG{f:bl}{j:Nat}(i:f.wR=O j):f=.ob j:=by
 cases f<;>first|exact congrArg _ (dg i)|exact cG i
def xY{f:bZ}(k:f.gv=ar):f=.f .bX:=by
 obtain ⟨l,i,j⟩:=jC k
 obtain rfl:=ik i
 cases l<;>first|rfl|exact dy j
def jD{i:bZ}{f:Int}(l:i.kA=O f):i=.f (.Z f):=by
 obtain ⟨m,j,k⟩:=cH l
 (refine bT (ik j) ?_;refine bT (SP k) ?_;rfl)
def xZ{i:bZ}{f:b4}(l:i.tv=O f):i=.f (.ad f):=by
 obtain ⟨m,j,k⟩:=cH l
 (refine bT (ik j) ?_;refine bT (wF k) ?_;rfl)
noncomputable def Du(f:Bool×List bl):bl:=cond f.1 (.cQ f.2) (.a3 f.2)
def te{f:bl}{j:Bool×List bl}(i:si f=O j):f=Du j:=by
 cases f<;>first|exact dg i▸rfl|exact cG i
def ga{l j:Type}{f:Option l}{o:Option j}{m:l→Option j}{k:j}(n:f.elim o m=O k):(f=b1∧o=O k)∨∃i,f=O i∧m i=O k:=by
 induction f with
 |none=>exact .inl ⟨rfl,n⟩
 |some i=>exact .inr ⟨i,rfl,n⟩
def c7.rZ(n:c7 a b d c){i:Nat}{f:cz}{k:List bl}(o:b.α[i]? =O f)(l:il d i=O k):b.F f=b1∧∃j m,c.heap.get? f=O (dl "list" j m)∧dB a b.F k j:=n.nB i f _ o (PF l)
def c7.A2(n:c7 a b d c){i:Nat}{f:cz}{k:List (Sum Int b4×bl)}(o:b.α[i]? =O f)(m:ml d i=O k):b.F f=b1∧(f==qG)=b2∧∃j l,c.heap.get? f=O j∧j.IsDictOf (i8 a.dP a.w) l∧ij a b.F k l:=n.nB i f _ o (PG m)
def mf{s:cj}{t:bZ}{r:bl}{n:Bool×List bl}(o:c7 a b d c)(q:dU a b t s)(i:ud d t=O r)(y:si r=O n):∃k j l,s=.ref k∧c.heap.get? k=O (dl (cond n.1 "tuple" "list") j l)∧dB a b.F n.2 j:=by
 refine bU fun f=>?_
 obtain rfl:=te y
 obtain ⟨e,A⟩:=n
 refine f ?_;try clear f
 rcases ga i with ⟨_,i⟩|⟨z,w,i⟩
 ·obtain rfl:=ik i
  induction e
  ·refine bU fun f=>?_
   obtain ⟨k,j,l,rfl,p,m⟩:=q
   refine f ?_;try clear f
   exact ⟨k,j,l,rfl,o.ey _ _ p,m⟩
  ·refine bU fun f=>?_
   obtain ⟨k,j,l,rfl,p,m⟩:=q
   refine f ?_;try clear f
   exact ⟨k,j,l,rfl,o.ey _ _ p,m⟩
 ·refine bU fun f=>?_
  obtain rfl:=lz w
  obtain ⟨C,u,i⟩:=dC i
  refine f ?_;try clear f
  induction e
  ·cases i
   refine bU fun f=>?_
   obtain ⟨k,rfl,x⟩:=q
   obtain ⟨_,j,l,v,m⟩:=o.rZ x u
   refine f ?_;try clear f
   exact ⟨k,j,l,rfl,v,m⟩
  ·cases i
def tf{j:cj}{l:bZ}{i:bl}(n:dU a b l j)(f:ud d l=O i)(m:i.uc=b1):g5 a b.F i j:=by
 rcases ga f with ⟨_,f⟩|⟨p,q,f⟩
 ·obtain rfl:=ik f
  exact n
 ·refine bU fun k=>?_
  obtain ⟨o,_,rfl⟩:=dC f
  refine k ?_;try clear k
  exact cG m.symm
def m5{p:cj}{q:bZ}{n:List bl}(o:c7 a b d c)(r:dU a b q p)(j:kI d q=O n):∃i f l,p=.ref i∧c.heap.get? i=O (dl "list" f l)∧dB a b.F n f:=by
 rcases ga j with ⟨_,j⟩|⟨y,u,j⟩
 ·refine bU fun k=>?_
  obtain ⟨z,t,v⟩:=cH j
  obtain rfl:=ik t
  obtain rfl:=KO v
  obtain ⟨i,f,l,rfl,w,m⟩:=r
  refine k ?_;try clear k
  exact ⟨i,f,l,rfl,o.ey _ _ w,m⟩
 ·refine bU fun k=>?_
  obtain rfl:=lz u
  obtain ⟨i,rfl,x⟩:=r
  obtain ⟨_,f,l,s,m⟩:=o.rZ x j
  refine k ?_;try clear k
  exact ⟨i,f,l,rfl,s,m⟩
end
noncomputable def I4.v:I4→kD→cj
 |.bX,_=>.none
 |.b3 b,_=>.bool b
 |.Z c,a=>.int c a
 |.ad d,a=>.str d a
def Zi{f:d9}{d:cM}{e c:kD}:∀b a:I4,EqAt f d (b.v e) (a.v c) (Q6 b a)∧RcAt f d (b.v e) (a.v c) (Q6 b a)∧RcNeAt f d (b.v e) (a.v c) (!Q6 b a)
 |.bX,.bX=>⟨.same _,.none_none,.none_none⟩
 |.bX,.b3 _=>⟨.none_bool _,.none_bool _,.none_bool _⟩
 |.bX,.Z _=>⟨.none_int _ _,.none_int _ _,.none_int _ _⟩
 |.bX,.ad _=>⟨.none_str _ _,.none_str _ _,.none_str _ _⟩
 |.b3 _,.bX=>⟨.bool_none _,.bool_none _,.bool_none _⟩
 |.b3 _,.b3 _=>⟨.bool_bool _ _,.bool_bool _ _,.bool_bool _ _⟩
 |.b3 _,.Z _=>⟨.bool_int _ _ _,.bool_int _ _ _,.bool_int _ _ _⟩
 |.b3 _,.ad _=>⟨.bool_str _ _ _,.bool_str _ _ _,.bool_str _ _ _⟩
 |.Z _,.bX=>⟨.int_none _ _,.int_none _ _,.int_none _ _⟩
 |.Z _,.b3 _=>⟨.int_bool _ _ _,.int_bool _ _ _,.int_bool _ _ _⟩
 |.Z _,.Z _=>⟨.int_int _ _ _ _,.int_int _ _ _ _,.int_int _ _ _ _⟩
 |.Z _,.ad _=>⟨.int_str _ _ _ _,.int_str _ _ _ _,.int_str _ _ _ _⟩
 |.ad _,.bX=>⟨.str_none _ _,.str_none _ _,.str_none _ _⟩
 |.ad _,.b3 _=>⟨.str_bool _ _ _,.str_bool _ _ _,.str_bool _ _ _⟩
 |.ad _,.Z _=>⟨.str_int _ _ _ _,.str_int _ _ _ _,.str_int _ _ _ _⟩
 |.ad _,.ad _=>⟨.str_str _ _ _ _,.str_str _ _ _ _,.str_str _ _ _ _⟩
def PL{e d:kD}{b a:I4}(c:b.v e=a.v d):Q6 b a=ar:=by
 induction b<;>induction a<;>first|rfl|(cases c;exact beq_self_eq_true _)|cases c
section
variable{e:Wd}{c:di}{a:d9}{d:cM}
noncomputable def I4.x:I4→bl
 |.bX=>.bX
 |.b3 b=>.b3 b
 |.Z g=>.Z g
 |.ad f=>.ad f
def Jh{b:bl}{g:I4}(f:wc b=O g):b=g.x:=by
 cases b<;>first|exact cG f|(obtain rfl:=dg f;rfl)
def acr{f:cj}:∀{g:I4},g5 e c g.x f→∃h,f=g.v h
 |.bX,b=>⟨0,b⟩
 |.b3 _,b=>⟨0,b⟩
 |.Z _,b=>b
 |.ad _,b=>b
def nC{g:bl}{f:I4}{b:cj}(h:wc g=O f)(j:g5 e c g b):∃i,b=f.v i:=acr (Jh h▸j)
def Er{r:bl→bl→Option Bool}:∀{j i:List bl}{m:Bool},j.length=i.length→sg r j i=O m→∃l:Nat→Bool,(∀(h:Nat)(n p:bl),j[h]? =O n→i[h]? =O p→r n p=O (l h))∧m=(f5 j.length).all l:=by
 intro j
 induction j with
 |nil=>
  intro i
  rcases i with _|⟨_,_⟩
  ·intro m _ k
   exact ⟨fun o=>ar,(fun o o o C=>cG C),(dg k).symm⟩
  ·intro b g f
   first|exact cG f|exact dy f|exact oa f|exact pG f|(cases f;done)|exact cG g|exact dy g|exact oa g|exact pG g|(cases g;done)|exact cG b|exact Bool.noConfusion b|exact False.elim b|exact Nat.noConfusion b|(cases b;done)
 |cons n j u=>
  intro i
  rcases i with _|⟨p,i⟩
  ·intro b g f
   first|exact cG f|exact dy f|exact oa f|exact pG f|(cases f;done)|exact cG g|exact dy g|exact oa g|exact pG g|(cases g;done)|exact cG b|exact Bool.noConfusion b|exact False.elim b|exact Nat.noConfusion b|(cases b;done)
  ·intro m A k
   refine bU fun s=>?_
   obtain ⟨z,y,k⟩:=cH k
   obtain ⟨G,v,rfl⟩:=dC k
   obtain ⟨l,x,rfl⟩:=u (mB A) v
   refine s ?_;try clear s
   refine ⟨fun h=>Nat.casesOn h z l,fun h F w q t=>?_,?_⟩
   ·induction h with
    |zero=>obtain rfl:=dg q;obtain rfl:=dg t;exact y
    |succ h=>exact x h F w q t
   ·(refine bT lZ ?_;refine bT List.range_succ_eq_map ?_;refine bT List.all_cons ?_;refine bT List.all_map ?_);rfl
structure Zj(a:d9)(d:cM)(v u:cj)(b:Bool):Prop where
 rc:RcAt a d v u b
 ne:RcNeAt a d v u (!b)
def eN{f:eu}{h:cz}{b:List cj}{g:Nat}(i:f.get? h=O (dl "list" b g)):f.IsList h b.toArray:=⟨_,i,rfl,g,rfl⟩
def kb{f:eu}{h:cz}{b:List cj}{g:Nat}(i:f.get? h=O (dl "tuple" b g)):f.IsTuple h b.toArray:=⟨_,i,rfl,g,rfl⟩
def Zk{K:bl→bl→Option Bool}{F L:cz}{n:Bool}{h p:List bl}{b g:List cj}{ae aa:Nat}{G:Bool}(X:∀(z R:bl)(C T:cj)(Q:Bool),g5 e c z C→g5 e c R T→K z R=O Q→EqAt a.in1 d C T Q)(i:a.units<t4)
  (l:d.heap.get? F=O (dl (cond n "tuple" "list") b ae)) (j:d.heap.get? L=O (dl (cond n "tuple" "list") g aa)) (r:dB e c h b) (u:dB e c p g)
  (t:(if h.length=p.length then sg K h p else cond n b1 (O b2))=O G):Zj a d (.ref F) (.ref L) G:=by
 by_cases s:h.length=p.length
 ·rw [if_pos s] at t
  refine bU fun P=>?_
  obtain ⟨m,Y,rfl⟩:=Er s t
  refine P ?_;try clear P
  have v:∀f(w:f<b.toArray.size)(x:f<g.toArray.size),EqAt a.in1 d b.toArray[f] g.toArray[f] (m f):=fun f w x=>by
   have ab:f<h.length:=r.cC▸w
   have ac:f<p.length:=u.cC▸x
   have I:=gS ab
   have A:=gS ac
   exact X _ _ _ _ _ (r.mK I (gS w)) (u.mK A (gS x)) (Y f _ _ I A)
  have k:b.toArray.size=g.toArray.size:=by (refine bT iy ?_;refine bT iy ?_;refine bT r.cC ?_;refine bT u.cC ?_;refine bT s ?_;rfl)
  have y:(f5 b.toArray.size).all m=(f5 h.length).all m:=by (refine bT iy ?_;refine bT r.cC ?_;rfl)
  induction n
  ·have q:=RcAt.lists (eN l) (eN j) k i v
   have o:=RcNeAt.lists (eN l) (eN j) k i v
   rw [y] at q o
   exact ⟨q,o⟩
  ·have q:=RcAt.tuples (kb l) (kb j) i v
   have o:=RcNeAt.tuples (kb l) (kb j) i v
   have W:((f5 (min b.toArray.size g.toArray.size)).all m&&b.toArray.size==g.toArray.size)=(f5 h.length).all m:=by (refine gT k ?_;rewrite [TN,beq_self_eq_true,LN];refine bT y ?_;rfl)
   rw [W] at q o
   exact ⟨q,o⟩
 ·rw [if_neg s] at t
  induction n
  ·obtain rfl:=dg t
   have k:(b.toArray.size !=g.toArray.size)=ar:=by
    (refine bT iy ?_;refine bT iy ?_;refine bT r.cC ?_;refine bT u.cC ?_)
    exact bne_iff_ne.mpr s
   exact ⟨RcAt.lists_lengths (eN l) (eN j) k i,RcNeAt.lists_lengths (eN l) (eN j) k i⟩
  ·exact cG t
def BU{l:Nat}{i m:bl}{k:Bool}(s:wc i=b1)(b:nt (l+1) i m=O k):∃h g f,i=Du (h,g)∧m=Du (h,f)∧(if g.length=f.length then sg (nt l) g f else cond h b1 (O b2))=O k:=by
 unfold nt at b
 rw [s] at b
 refine bU fun n=>?_
 obtain ⟨j,o,b⟩:=cH b
 obtain ⟨r,p,b⟩:=cH b
 obtain ⟨q,b⟩:=eB b
 refine n ?_;try clear n
 refine ⟨j.1,j.2,r.2,te o,?_,b⟩
 refine bT q ?_;exact te p
def wG{b:Bool}{h:List bl}{f:cj}(j:g5 e c (Du (b,h)) f):∃i g k,f=.ref i∧c i=O (dl (cond b "tuple" "list") g k)∧dB e c h g:=by
 induction b<;>exact j
def PM:∀(j:Nat){k:cj}{i q:bl}{m:Bool},g5 e c i k→g5 e c q k→nt j i q=O m→m=ar:=by
 intro j
 induction j with
 |zero=>
  intro _ _ _ _ _ _ g
  exact cG g
 |succ j z=>
  intro k i q m v s g
  cases h:wc i with
  |some aa=>
   unfold nt at g
   rw [h] at g
   refine bU fun b=>?_
   obtain ⟨R,A,rfl⟩:=dC g
   obtain ⟨G,rfl⟩:=nC h v
   obtain ⟨X,f⟩:=nC A s
   refine b ?_;try clear b
   exact PL f
  |none=>
   refine bU fun b=>?_
   obtain ⟨G,Q,I,rfl,rfl,r⟩:=BU h g
   obtain ⟨Y,t,W,rfl,C,o⟩:=wG v
   obtain ⟨ab,L,T,f,w,u⟩:=wG s
   refine b ?_;try clear b
   cases f
   rw [C] at w
   refine bU fun b=>?_
   obtain rfl:t=L:=by
    have:=congrArg Obj.data (dg w)
    injection this with this _
    exact congrArg MI this
   have p:=o.cC.symm.trans u.cC
   rw [if_pos p] at r
   obtain ⟨h,F,rfl⟩:=Er p r
   refine b ?_;try clear b
   refine lD.mpr fun l P=>?_
   have n:=nf.mp P
   have K:l<I.length:=p▸n
   have y:l<t.length:=o.cC.symm▸n
   have x:=gS n
   have f:=gS K
   exact z (o.mK x (gS y)) (u.mK f (gS y)) (F l _ _ x f)
def X8:∀(f:Nat){a:d9}{h k:cj}{g l:bl}{i:Bool},k4 c d.heap.get?→a.units+f<t4→g5 e c g h→g5 e c l k→nt f g l=O i→EqAt a d h k i∧Zj a d h k i:=by
 intro f
 induction f with
 |zero=>
  intro _ _ _ _ _ _ _ _ _ _ b
  exact cG b
 |succ f w=>
  intro a h k g l i m Y p o b
  cases n:wc g with
  |some u=>
   unfold nt at b
   rw [n] at b
   refine bU fun j=>?_
   obtain ⟨A,z,rfl⟩:=dC b
   obtain ⟨r,rfl⟩:=nC n p
   obtain ⟨P,rfl⟩:=nC z o
   obtain ⟨Q,x,C⟩:=Zi (f:=a) (d:=d) (e:=r) (c:=P) u A
   refine j ?_;try clear j
   exact ⟨Q,x,C⟩
  |none=>
   refine bU fun j=>?_
   obtain ⟨r,W,ac,rfl,rfl,y⟩:=BU n b
   obtain ⟨t,X,ab,rfl,F,R⟩:=wG p
   obtain ⟨v,ae,aa,rfl,K,I⟩:=wG o
   refine j ?_;try clear j
   have s:Zj a d (.ref t) (.ref v) i:=Zk (fun g l h k u G L T=>(w m (by show a.units+1+f<t4;lia) G L T).1) (by lia) (m _ _ F) (m _ _ K) R I y
   refine ⟨?_,s⟩
   by_cases q:t=v
   ·subst q
    refine bT (PM (f+1) p o b) ?_
    exact .same _
   ·exact .of_refs q s.rc
end
def kn(a:Wd)(b:Nat)(c:lb):Prop:=(jj a.K (.ref (a.eS b)) "__getattribute__"=O (O (.builtin "object.__getattribute__")))∧(jj a.K (.ref (a.eS b)) "__getattr__"=O b1)∧(GV a.K (a.eS b)=ar)∧(∀e∈c.dj,jj a.K (.ref (a.eS b)) e=O b1)∧(jj a.K (.ref (a.eS b)) "__setattr__"=O (O (.builtin "object.__setattr__")))∧(GW a.K (a.eS b)=ar)∧(makesIn a.K (a.eS b)=ar)∧(jj a.K (.ref (a.eS b)) "__init__"=O (O (.ref (a.jT c.gx))))∧(zp a.K (.ref (a.jT c.gx))=O (.type "function"))∧(∀d∈c.kH,jj a.K (.ref (a.eS b)) d.1=O (O (.ref (a.jT d.2)))∧d.1∉c.dj∧zp a.K (.ref (a.jT d.2))=O (.type "function"))∧(∀d∈c.kH,d.2<1000)∧(lR a.K (.ref (a.eS b))=ar)∧(c.dj.Nodup)
section
variable{a:Wd}{c:Nat}{d:lb}(b:kn a c d)
include b
def kn.uy:jj a.K (.ref (a.eS c)) "__getattribute__"=O (O (.builtin "object.__getattribute__")):=b.1
def kn.SQ:jj a.K (.ref (a.eS c)) "__getattr__"=O b1:=b.2.1
def kn.A3:GV a.K (a.eS c)=ar:=b.2.2.1
def kn.dj:∀e∈d.dj,jj a.K (.ref (a.eS c)) e=O b1:=b.2.2.2.1
def kn.SR:jj a.K (.ref (a.eS c)) "__setattr__"=O (O (.builtin "object.__setattr__")):=b.2.2.2.2.1
def kn.cE:GW a.K (a.eS c)=ar:=b.2.2.2.2.2.1
def kn.aa0:makesIn a.K (a.eS c)=ar:=b.2.2.2.2.2.2.1
def kn.gx:jj a.K (.ref (a.eS c)) "__init__"=O (O (.ref (a.jT d.gx))):=b.2.2.2.2.2.2.2.1
def kn.X9:zp a.K (.ref (a.jT d.gx))=O (.type "function"):=b.2.2.2.2.2.2.2.2.1
def kn.kH:∀e∈d.kH,jj a.K (.ref (a.eS c)) e.1=O (O (.ref (a.jT e.2)))∧e.1∉d.dj∧zp a.K (.ref (a.jT e.2))=O (.type "function"):=b.2.2.2.2.2.2.2.2.2.1
def kn.PN:∀e∈d.kH,e.2<1000:=b.2.2.2.2.2.2.2.2.2.2.1
def kn.iO:lR a.K (.ref (a.eS c))=ar:=b.2.2.2.2.2.2.2.2.2.2.2.1
def kn.pZ:d.dj.Nodup:=b.2.2.2.2.2.2.2.2.2.2.2.2
end
def NZ(f:Wd)(g:di)(d:List (b4×bl))(b:b4→Option cj):Prop:=∀a,(d.lookup a=b1→b a=b1)∧∀e,d.lookup a=O e→∃c,b a=O c∧g5 f g e c
def kc(a:Wd):Prop:=(a.K.In a.eG)∧(∃l m,a.eG.get? l=O m∧qG<l)∧(∀d,a.yo d≠ .none)∧(∀(n:Nat)(b:b4)(h:bl),a.T.pS[n]? =O (b,h)→∃c g,a.eG.Ns pJ c∧g5 a a.eG.get? h g∧(c b=O g∨(c b=b1∧∃e,a.eG.Ns qH e∧e b=O g)))∧(∀b:String,b∈(["range","enumerate","zip"] :List String)→∃c e,a.eG.Ns pJ c∧c (oA b)=b1∧a.eG.Ns qH e∧e (oA b)=O (.type b))∧(∀d,Cs (a.yo d)=ar)∧(∀(i:Nat)(d:lb),a.T.e7[i]? =O d→kn a i d)∧(∀(f:Nat)(k:List (b4×bl)),a.T.ll[f]? =O k→∃j:b4→Option cj,a.eG.MapOf (strKind a.dP a.w) (a.kP f) j∧(a.kP f==qG)=b2∧NZ a a.eG.get? k j)
section
variable{a:Wd}(b:kc a)
include b
def kc.F0:a.K.In a.eG:=b.1
def kc.Ya:∃c d,a.eG.get? c=O d∧qG<c:=b.2.1
def kc.Yb:∀c,a.yo c≠ .none:=b.2.2.1
def kc.pS:∀(h:Nat)(c:b4)(f:bl),a.T.pS[h]? =O (c,f)→∃d e,a.eG.Ns pJ d∧g5 a a.eG.get? f e∧(d c=O e∨(d c=b1∧∃g,a.eG.Ns qH g∧g c=O e)):=b.2.2.2.1
def kc.aa1:∀c:String,c∈(["range","enumerate","zip"] :List String)→∃e d,a.eG.Ns pJ e∧e (oA c)=b1∧a.eG.Ns qH d∧d (oA c)=O (.type c):=b.2.2.2.2.1
def kc.Yc:∀c,Cs (a.yo c)=ar:=b.2.2.2.2.2.1
def kc.e7:∀(d:Nat)(c:lb),a.T.e7[d]? =O c→kn a d c:=b.2.2.2.2.2.2.1
def kc.ll:∀(c:Nat)(e:List (b4×bl)),a.T.ll[c]? =O e→∃d:b4→Option cj,a.eG.MapOf (strKind a.dP a.w) (a.kP c) d∧(a.kP c==qG)=b2∧NZ a a.eG.get? e d:=b.2.2.2.2.2.2.2
end
def nZ{j:r9}{i:t3}{K:Type}[DecidableEq K]{g:KeyKind j i K}{e b:eu}{f:cz}{c:K→Option cj}(o:e.MapOf g f c)(k:∀d a,e.get? d=O a→b.get? d=O a):b.MapOf g f c:=by obtain ⟨a,l,m,h,n⟩:=o;exact ⟨a,l,m,k _ _ h,n⟩
noncomputable def Dv:Fo→jK
 |.cZ=>.Eq|.ne=>.NotEq|.jL=>.Lt|.gm=>.LtE|.tq=>.Gt|.mC=>.GtE|.ft=>.In|.fY=>.NotIn|.wb=>.Is|.oc _=>.IsNot
noncomputable def v4:cj→Option I4
 |.none=>O .bX
 |.bool a=>O (.b3 a)
 |.int c _=>O (.Z c)
 |.str b _=>O (.ad b)
 |_=>b1
def Da(c b:cj):Bool:=((v4 c).bind fun a=>(v4 b).map (Q6 a)).getD b2
def Zl{b:kD}:∀a:I4,v4 (a.v b)=O a
 |.bX=>rfl
 |.b3 _=>rfl
 |.Z _=>rfl
 |.ad _=>rfl
section
variable{a:Wd}{b:dQ}{e:bS}{c:cM}{d:d9}{g:Nat}
def Yd{n o:Bool}{m:cj}{q:cz}{j:List cj}{s:Nat}{p:cj→cM→Prop}(h:cj→Bool)(l:c.heap.get? q=O (dl (cond o "tuple" "list") j s))(i:∀f,f∈j→EqAt d.in1 c f m (h f))(k:p (.bool (cond n (!j.any h) (j.any h))) c):Wp a d (zi (cond n .NotIn .In) m (.ref q)) p c:=by
 have i:∀f,f∈j.toArray→EqAt d.in1 c f m (h f):=fun f r=>i f (List.mem_toArray.mp r)
 rw [← List.any_toArray] at k
 induction n<;>induction o
 ·exact in_listAt h (eN l) i k
 ·exact in_tupleAt h (kb l) i k
 ·exact notIn_listAt h (eN l) i k
 ·exact notIn_tupleAt h (kb l) i k
def SS{v:di}{x:bl}{k:cj}(G:g5 a v x k):∀{i:List bl}{o:List cj}{l:Bool},dB a v i o→zu x i=O l→(∀j,j∈o→EqAt d c j k (Da j k))∧o.any (Da · k)=l:=by
 intro i
 induction i with
 |nil=>
  intro _ l r h
  subst r
  exact ⟨(fun T m=>absurd m gD),dg h⟩
 |cons X i y=>
  intro _ l r h
  refine bU fun f=>?_
  obtain ⟨W,Y,rfl,R,F⟩:=r
  obtain ⟨Q,h⟩:=eB h
  obtain ⟨A,C⟩:=gu Q
  obtain ⟨aa,q,h⟩:=cH h
  obtain ⟨ac,z,rfl⟩:=dC h
  obtain ⟨p,u⟩:=F7.mp A
  obtain ⟨s,t⟩:=F7.mp C
  refine f ?_;try clear f
  unfold nt at q
  rw [u] at q
  refine bU fun f=>?_
  obtain ⟨ab,w,rfl⟩:=dC q
  refine f ?_;try clear f
  rw [t] at w
  obtain rfl:=dg w
  refine bU fun f=>?_
  obtain ⟨I,rfl⟩:=nC u R
  obtain ⟨L,rfl⟩:=nC t G
  obtain ⟨K,P⟩:=y F z
  refine f ?_;try clear f
  have m:Da (p.v I) (s.v L)=Q6 p s:=by unfold Da;rw [Zl,Zl];rfl
  refine ⟨fun j n=>?_,by (refine bT Gv ?_;refine bT m ?_;refine bT P ?_;rfl)⟩
  rcases eP.mp n with rfl|n
  ·refine bT m ?_;exact (Zi p s).1
  ·exact K j n
def A4(W:kc a)(w:Bool)(j:c7 a b e c){l v:cj}{C q:bZ}{r:Bool}(x:dU a b C l)(z:dU a b q v)(t:Wi a.T e C q=O r):Wp a d (zi (cond w .NotIn .In) l v) (fun ac I=>ac=.bool (cond w (!r) r)∧c7 a b e I) c:=by
 refine bU fun f=>?_
 obtain ⟨af,P,t⟩:=cH t
 obtain rfl:=ik P
 refine f ?_;try clear f
 rcases ga t with ⟨_,n⟩|⟨g,s,n⟩
 ·refine bU fun f=>?_
  obtain ⟨ai,Q,k⟩:=cH n
  obtain ⟨u,o,R⟩:=cH Q
  obtain ⟨ae,ag,ak,rfl,X,T⟩:=mf j z o R
  refine f ?_;try clear f
  unfold ic at k
  obtain ⟨Y,aa⟩:=SS (d:=d.in1) (c:=c) x T k
  exact Yd (Da · l) X Y ⟨by (refine bT aa ?_;rfl),j⟩
 ·refine bU fun f=>?_
  obtain ⟨u,o,s⟩:=cH s
  obtain rfl:=ik o
  obtain rfl:=rG s
  obtain ⟨p,L,k⟩:=cH n
  obtain ⟨h,ab,rfl⟩:=dC k
  obtain rfl:=wF ab
  obtain ⟨y,rfl⟩:=x
  obtain rfl:v=.ref (a.kP g):=z
  obtain ⟨K,m,A,G⟩:=W.ll g p L
  refine f ?_;try clear f
  have m:=nZ m fun q ah i=>j.kR i
  have i:(K h).isSome=(p.lookup h).isSome:=by
   cases F:p.lookup h with
   |none=>refine bT ((G h).1 F) ?_;rfl
   |some u=>obtain ⟨l,i,_⟩:=(G h).2 u F;refine bT i ?_;rfl
  induction w
  ·exact wpAny_in_of (GI a.dP a.w h y) A m ⟨by refine bT i ?_;rfl,j.qh _⟩
  ·exact wpAny_notIn_of (GI a.dP a.w h y) A m ⟨by refine bT i ?_;rfl,j.qh _⟩
def Es(m:c7 a b e c)(P:d.units+k5<t4){n q:cj}{A x:bZ}{j p:bl}{C:Bool}(w:dU a b A n)(z:dU a b x q)(y:ud e A=O j)(u:ud e x=O p)(f:WW j p=O C):Zj d c n q C:=by
 rw [WX] at f
 cases l:wc j with
 |some h=>
  have f:=f
  unfold nt k5 at f
  dsimp only at f
  rw [l] at f
  refine bU fun i=>?_
  obtain ⟨t,s,rfl⟩:=dC f
  have v:∀{o:bl}{h:I4},wc o=O h→o.uc=b1:=fun {o h} I=>by refine bT (Jh I) ?_;induction h<;>rfl
  obtain ⟨k,rfl⟩:=nC l (tf w y (v l))
  obtain ⟨ag,rfl⟩:=nC s (tf z u (v s))
  refine i ?_;try clear i
  exact ⟨(Zi h t).2.1,(Zi h t).2.2⟩
 |none=>
  refine bU fun i=>?_
  obtain ⟨k,K,W,rfl,rfl,G⟩:=BU l f
  have F:∀r,si (Du (k,r))=O (k,r):=fun r=>by induction k<;>rfl
  obtain ⟨ab,ac,ai,rfl,R,aa⟩:=mf m w y (F K)
  obtain ⟨af,ah,ae,rfl,Q,L⟩:=mf m z u (F W)
  refine i ?_;try clear i
  exact Zk (fun j p n q h X Y T=>(X8 11 m.ey (by show d.units+1+11<t4;unfold k5 at P;lia) X Y T).1) (by lia) R Q aa L G
def KP{r:di}{k:cj}:∀{m:bl},g5 a r m k→(∃h,k=.ref h∧m.gv=b2)∨(∃p j,m=I4.x p∧k=p.v j)∨∃l,m=.bi l∧k=a.yo l
 |.bX,f=>.inr (.inl ⟨.bX,0,rfl,f⟩)
 |.b3 q,f=>.inr (.inl ⟨.b3 q,0,rfl,f⟩)
 |.Z o,f=>f.elim fun j n=>.inr (.inl ⟨.Z o,j,rfl,n⟩)
 |.ad o,f=>f.elim fun j n=>.inr (.inl ⟨.ad o,j,rfl,n⟩)
 |.cQ _,f=>f.elim fun h f=>f.elim fun i f=>f.elim fun i f=>.inl ⟨h,f.1,rfl⟩
 |.a3 _,f=>f.elim fun h f=>f.elim fun i f=>f.elim fun i f=>.inl ⟨h,f.1,rfl⟩
 |.gJ _ _,f=>f.elim fun h f=>f.elim fun i f=>f.elim fun i f=>.inl ⟨h,f.1,rfl⟩
 |.fn _,f=>.inl ⟨_,f,rfl⟩
 |.kE _,f=>.inl ⟨_,f,rfl⟩
 |.bi l,f=>.inr (.inr ⟨l,rfl,f⟩)
 |.ob _,f=>.inl ⟨_,f,rfl⟩
def yp{j:bZ}{k:cj}(h:dU a b j k):(∃i,k=.ref i∧j.gv=b2)∨(∃l q,j=.f (I4.x l)∧k=l.v q)∨∃m,j=.f (.bi m)∧k=a.yo m:=by
 induction j with
 |f _=>exact (KP h).imp id fun r=>r.imp (fun n=>by obtain ⟨l,q,o,p⟩:=n;exact ⟨l,q,congrArg bZ.f o,p⟩) fun n=>by obtain ⟨m,o,p⟩:=n;exact ⟨m,congrArg bZ.f o,p⟩
 |cq _=>exact h.elim fun i h=>.inl ⟨i,h.1,rfl⟩
 |fK _=>exact h.elim fun i h=>.inl ⟨i,h.1,rfl⟩
def Et(j:kc a){h:bZ}{f:cj}(m:dU a b h f):(f== .none)=h.gv:=by
 rcases yp m with ⟨o,rfl,k⟩|⟨i,n,rfl,rfl⟩|⟨l,rfl,rfl⟩
 ·refine bT k ?_;rfl
 ·induction i<;>rfl
 ·exact beq_eq_false_iff_ne.mpr (j.Yb l)
def dU.Ye(i:kc a){l:bZ}{f:cj}(k:dU a b l f):Cs f=ar:=by
 rcases yp k with ⟨o,rfl,m⟩|⟨h,n,rfl,rfl⟩|⟨j,rfl,rfl⟩
 ·rfl
 ·induction h<;>rfl
 ·exact i.Yc j
def QX{p n:bZ}{l q:cj}{m:Int→Int→Bool}{r:Bool}(s:dU a b p l)(t:dU a b n q)(i:(p.kA.bind fun h=>n.kA.bind fun f=>O (m h f))=O r):∃h f k j,l=.int h k∧q=.int f j∧r=m h f:=by
 refine bU fun o=>?_
 obtain ⟨h,v,i⟩:=cH i
 obtain ⟨f,u,i⟩:=cH i
 obtain rfl:=jD v
 obtain rfl:=jD u
 obtain ⟨k,rfl⟩:=s
 obtain ⟨j,rfl⟩:=t
 refine o ?_;try clear o
 exact ⟨h,f,k,j,rfl,rfl,(dg i).symm⟩
def KQ(q:kc a)(i:c7 a b e c)(C:d.units+k5<t4):∀{p:Fo}{t A:cj}{x m:bZ}{y:Bool},dU a b x t→dU a b m A→fh a.T e p x m=O y→Wp a d (zi (Dv p) t A) (fun z F=>z=.bool y∧c7 a b e F) c:=by
 intro p t A x m y j k f
 induction p with
 |cZ=>
  refine bU fun h=>?_
  obtain ⟨l,v,f⟩:=cH f
  obtain ⟨o,s,f⟩:=cH f
  refine h ?_;try clear h
  exact (Es i C j k v s f).rc a.dP a.w _ _ ⟨rfl,i⟩
 |ne=>
  refine bU fun h=>?_
  obtain ⟨l,v,f⟩:=cH f
  obtain ⟨o,s,f⟩:=cH f
  obtain ⟨z,r,rfl⟩:=dC f
  refine h ?_;try clear h
  exact (Es i C j k v s r).ne a.dP a.w _ _ ⟨rfl,i⟩
 |jL=>
  refine bU fun h=>?_
  obtain ⟨l,o,u,w,rfl,rfl,rfl⟩:=QX j k f
  refine h ?_;try clear h
  exact PySem.P.lt_int ⟨rfl,i⟩
 |gm=>
  refine bU fun h=>?_
  obtain ⟨l,o,u,w,rfl,rfl,rfl⟩:=QX j k f
  refine h ?_;try clear h
  exact PySem.P.le_int ⟨rfl,i⟩
 |tq=>
  refine bU fun h=>?_
  obtain ⟨l,o,u,w,rfl,rfl,rfl⟩:=QX j k f
  refine h ?_;try clear h
  exact PySem.P.gt_int ⟨rfl,i⟩
 |mC=>
  refine bU fun h=>?_
  obtain ⟨l,o,u,w,rfl,rfl,rfl⟩:=QX j k f
  refine h ?_;try clear h
  exact PySem.P.ge_int ⟨rfl,i⟩
 |ft=>exact A4 q b2 i j k f
 |fY=>
  refine bU fun h=>?_
  obtain ⟨z,r,rfl⟩:=dC f
  refine h ?_;try clear h
  exact A4 q ar i j k r
 |wb=>
  cases n:m.gv
  ·unfold fh at f;rw [n] at f;exact cG f
  ·obtain rfl:=xY n
   cases k
   exact is_none_gen ⟨by (refine bT (Et q j) ?_;refine gT (dg f) ?_;rfl),i⟩
 |oc _=>
  cases n:m.gv
  ·unfold fh at f;rw [n] at f;exact cG f
  ·obtain rfl:=xY n
   cases k
   exact isnot_none_gen ⟨by (refine bT (Et q j) ?_;refine gT (dg f) ?_;rfl),i⟩
end
noncomputable def WG:z8→GL
 |.dc=>.Add|.fw=>.Sub|.kF=>.Mult|.ua=>.FloorDiv|.qK=>.Mod|.sd _=>.Pow
def PO{d:Type}(b:List d)(a:Nat):Gx (fun f e=>f++e) (#[] :Array d) (ky a b.toArray)=(ky a b).flatten.toArray:=by
 have h:∀(a:Nat)(c:List d),Gx (fun f e=>f++e) (c.toArray:Array d) (ky a b.toArray)=(c++(ky a b).flatten).toArray:=by
  intro a
  induction a with
  |zero=>intro c;(refine bT L8 ?_;refine bT L8 ?_;refine bT List.flatten_nil ?_;rw [kX]);rfl
  |succ a g=>
   intro c
   (refine bT Gm ?_;refine bT Gr ?_;refine bT Gm ?_;refine bT Md ?_;rw [← m8,T8])
   exact g (c++b)
 exact h a []
def H2{a:bl}{b:Bool}(c:Nm a=O b):(a=.bX∧b=b2)∨a=.b3 b∨∃d,a=.Z d∧b=(d !=0):=by
 cases a<;>first|exact cG c|(obtain rfl:=dg c;first|exact .inl ⟨rfl,rfl⟩|exact .inr (.inl rfl)|exact .inr (.inr ⟨_,rfl,rfl⟩))
section
variable{a:Wd}{b:dQ}{d:bS}{c:cM}{e:d9}{f:Nat}
def n0(p:c7 a b d c){l:cj}{m:bZ}{s:Type}{K:Bool→bS→Prop}(j:dU a b m l)(g:lu (qa d m) fun i=>K i d):Wp a e (tY l) (TP a b K) c:=by
 refine bU fun h=>?_
 obtain ⟨i,g,o⟩:=fj g
 obtain ⟨t,n,g⟩:=cH g
 obtain rfl:=ik n
 refine h ?_;try clear h
 have k:TP a b K i c:=⟨d,b,.cy _,p,o⟩
 rcases H2 g with ⟨rfl,rfl⟩|rfl|⟨q,rfl,rfl⟩
 ·cases j;exact truthy_none k
 ·cases j;exact GA k
 ·refine bU fun h=>?_
  obtain ⟨r,rfl⟩:=j
  refine h ?_;try clear h
  exact PySem.P.truthy_int k
def tg{g:cz}{o:Nat}{j:List cj}{m:List bl}{fz:Bool}{K:KE}{n:eu}(r:c7 a b d c)(z:Nat)(A:∀t u,c.heap.get? t=O u→n.get? t=O u)(p:b.F g=b1)(s:b.T g=b1)(v:g∉b.α)(l:n.get? g=O (dl "list" j o))(y:dB a b.F m j)(h:gy (iI d fz m) K):VP a b K (.ref g) {c with heap:=n,toks:=z}:=by
 have w:=r.iO z A
 refine bU fun x=>?_
 obtain ⟨G,I,h,q⟩:=iE h
 refine x ?_;try clear x
 induction fz
 ·unfold iI QP at h
  cases (eB h).2
  obtain ⟨k,i⟩:=w.FZ (p:=.a3 m) v s ⟨_,l⟩ ⟨p,j,o,l,y⟩
  refine ⟨_,_,_,i,?_,k,q⟩
  refine ⟨g,rfl,?_⟩
  show (b.α++[g])[d.length]? =_
  (refine gT r.cC ?_;rw [la (dX _),pg]);rfl
 ·cases (eB h).2
  obtain ⟨k,i⟩:=w.uw l p s fun F C=>absurd (gj C) v
  refine ⟨_,_,_,i,?_,k,q⟩
  exact ⟨g,j,o,rfl,di.eF _ _ _,y.cO i.F⟩
def pD{fz:Bool}{h:List bl}{K:KE}(g:gy (iI d fz h) K):h.length≤100000:=by
 refine bU fun i=>?_
 obtain ⟨k,j,g,_⟩:=iE g
 refine i ?_;try clear i
 induction fz
 ·unfold iI QP at g;exact (eB g).1
 ·exact (eB g).1
def oR{h:List cj}{i:List bl}{fz:Bool}{K:KE}(g:c7 a b d c)(m:dB a b.F i h)(l:gy (iI d fz i) K):VP a b K (.ref c.heap.objs.size) {c with heap:=c.heap.push {cls:=.type "list",data:=.seq h.toArray}}:=
 tg (o:=0) g c.toks (fun j j k=>ng _ k) (g.yY (dX _)) (g.pC (dX _)) (g.fY (dX _)) (oz _ rfl) m l
theorem dB.Zm{k:di}{h:List cj}{i:List bl}(j:dB a k i h):∀g:Nat,dB a k (ky g i).flatten (ky g h).flatten
 | 0=>rfl
 |g+1=>by (refine bT Gm ?_;refine bT Gm ?_;refine bT Md ?_;refine bT Md ?_);exact j.NY (j.Zm g)
def c9{i:Type}{h:Option i}{j:i→Option (bZ×bS)}{K:KE}(k:gy (h.bind j) K):∃g,h=O g∧gy (j g) K:=by
 induction h with
 |none=>exact k.elim
 |some g=>exact ⟨g,rfl,k⟩
def jE{g:Prop}[Decidable g]{j:Option (bZ×bS)}{K:KE}(h:gy (if g then j else b1) K):g∧gy j K:=by
 by_cases i:g
 ·rw [if_pos i] at h;exact ⟨i,h⟩
 ·rw [if_neg i] at h;induction h
def oS{i:Type}{g:Option i}{l:Option (bZ×bS)}{j:i→Option (bZ×bS)}{K:KE}(k:gy (g.elim l j) K):(g=b1∧gy l K)∨∃h,g=O h∧gy (j h) K:=by
 induction g with
 |none=>exact .inl ⟨rfl,k⟩
 |some h=>exact .inr ⟨h,rfl,k⟩
def vf{g:Bool}{h:Option (bZ×bS)}{K:KE}(i:gy (cond g h b1) K):g=ar∧gy h K:=by
 induction g with
 |true=>exact ⟨rfl,i⟩
 |false=>exact i.elim
def H3(i:c7 a b d c){l j:Int}{n m:kD}{K:KE}:∀{k:z8},gy (G4 d k l j) K→Wp a e (binaryOp (WG k) (.int l n) (.int j m)) (VP a b K) c
 |.dc,g=>PySem.P.add_int (VP.Z (i.qh _) g)
 |.fw,g=>PySem.P.sub_int (VP.Z (i.qh _) g)
 |.kF,g=>by
  obtain ⟨h,g⟩:=jE g
  exact PySem.P.mul_int (VP.Z (i.qh _) g) (IntMulOk.of_left (intBits_le h.1))
 |.ua,g=>by
  by_cases h:j=0∨¬j.natAbs<1073741824
  ·unfold G4 at g;dsimp only at g;rw [if_pos h] at g;induction g
  ·unfold G4 at g;dsimp only at g;rw [if_neg h] at g
   rw [not_or,Classical.not_not] at h
   exact floordiv_int h.1 (VP.Z (i.qh _) g) (.inl (PyProof.noPylong_small h.2))
 |.qK,g=>by
  by_cases h:j=0
  ·unfold G4 at g;dsimp only at g;rw [if_pos h] at g;induction g
  ·unfold G4 at g;dsimp only at g;rw [if_neg h] at g
   exact mod_int' h (VP.Z (i.qh _) g)
 |.sd _,g=>by
  obtain ⟨h,g⟩:=jE g
  exact pow_int_small h.2.1 (t6 h.2.2 (by decide)) h.1 (VP.Z (i.qh _) g)
def KR(j:c7 a b d c){fz:Bool}{k:z8}{u G:cj}{z w:bZ}{K:KE}(q:dU a b z u)(y:dU a b w G)(af:gy (pn d fz k z w) K):Wp a e (binaryOp (WG k) u G) (VP a b K) c:=by
 rcases oS af with ⟨_,g⟩|⟨i,ae,g⟩
 ·obtain ⟨s,r⟩:=vf g
  obtain rfl:k=.dc:=by induction k<;>first|rfl|exact dy s
  obtain ⟨Q,l,g⟩:=c9 r
  obtain ⟨al,L,g⟩:=c9 g
  obtain ⟨n,h,i,rfl,t,F⟩:=m5 j q l
  obtain ⟨X,ab,o,rfl,x,v⟩:=m5 j y L
  have aa:=pD g
  refine concat_meets ⟨_,t,rfl⟩ ⟨_,x,rfl⟩ noFill_list_add seq_list_add PySem.F.slot_list_add PySem.F.entry_list_add (PySem.F.args_list_add_2 _ _) (list_addW n X h.toArray ab.toArray i o b1 b1 #[] #[] (by
   rw [dZ] at aa
   (refine bT iy ?_;refine bT iy ?_;refine bT F.cC ?_;refine bT v.cC ?_)
   unfold lP;lia)) ⟨t,x,?_⟩
  rw [T8]
  exact oR j (F.NY v) g
 ·obtain rfl:=jD ae
  obtain ⟨p,rfl⟩:=y
  rcases oS g with ⟨_,g⟩|⟨ai,l,g⟩
  ·obtain ⟨s,r⟩:=vf g
   obtain rfl:k=.kF:=by induction k<;>first|rfl|exact dy s
   obtain ⟨Q,l,g⟩:=c9 r
   obtain ⟨⟨ah,Y⟩,g⟩:=jE g
   obtain ⟨n,h,o,rfl,m,A⟩:=m5 j q l
   have I:Gx (fun R T=>R++T) (#[] :Array cj) (ky (if h.toArray.isEmpty=ar then 0 else i.toNat) h.toArray)=(ky i.toNat h).flatten.toArray:=by
    by_cases C:h=[]
    ·(refine bT C ?_;refine bT List.flatten_replicate_nil ?_)
     show Gx _ _ (ky 0 _)=_
     refine bT L8 ?_;rfl
    ·rw [if_neg (by rw [List.isEmpty_toArray];exact fun ag=>C (l0.mp ag)),PO]
   have W:h.length≤1000:=by refine bT A.cC ?_;exact Y
   have ac:i.toNat≤1000:=ID ah
   have am:h.toArray.size*i.toNat≤1000*1000:=by refine bT iy ?_;exact Gf W ac
   refine wpAny_binaryOp_repeat_ref (T:="list") (U:="int") (by decide) ⟨_,m,rfl⟩ (fun P=>typeIs_int P i p) noFill_list_mul PySem.F.fills_int_mul UV repeat_list PySem.F.slot_int_index.lookup
    (zh UV (typeIs_int c i p) PySem.F.entry_int_rmul (PySem.F.args_int_rmul_2 _ _) (int___rmul___int_list i p n h.toArray o)
     ⟨m,rfl,⟨_,m,rfl⟩,zh PySem.F.slot_list_mul ⟨_,m,rfl⟩ PySem.F.entry_list_mul (PySem.F.args_list_mul_2 _ _)
      (AutoListH.list___mul___list_int_3 n h.toArray o i p (by unfold U2;(refine bT (decide_eq_true (by lia)) ?_;refine bT (decide_eq_true (by lia)) ?_);exact kx) (by lia) (by unfold Builtin.List.listTooLong lP;rw [decide_eq_true_iff];lia))
      ⟨m,?_⟩⟩)
   refine bT I ?_
   exact oR j (A.Zm _) g
  ·obtain rfl:=jD l
   obtain ⟨ak,rfl⟩:=q
   exact H3 j g
def KT(o:c7 a b d c){h:cj}{j:bZ}{K:KE}(l:dU a b j h)(g:lu (Y2 j) fun k=>K k d):Wp a e (unaryOp .USub h) (VP a b K) c:=by
 refine bU fun i=>?_
 obtain ⟨k,g,m⟩:=fj g
 obtain ⟨q,n,rfl⟩:=dC g
 obtain rfl:=jD n
 obtain ⟨p,rfl⟩:=l
 refine i ?_;try clear i
 exact PySem.P.neg_int (VP.Z (o.qh _) m)
end
def A5{f:eb}{h:b4→Option cj}(l:jp f h)(b:b4):lookIn b f=O (h b):=by
 refine bU fun a=>?_
 obtain ⟨n,m,i,j,c⟩:=l
 refine a ?_;try clear a
 unfold lookIn
 refine bT i ?_
 dsimp only
 have:=c b
 unfold tX findBy at this
 rw [← U0] at this
 split
 ·rename_i g e
  rw [e] at this;exact congrArg O this
 ·rename_i e
  rw [e] at this
  rw [if_neg]
  ·exact congrArg O this
  ·rw [tS]
   rintro ⟨g,c,d⟩
   refine bU fun a=>?_
   obtain ⟨o,p,k⟩:=j g (UZ.mp c)
   refine a ?_;try clear a
   unfold DictEntry.refKey at d
   rw [k] at d
   exact dy d
def KU{c:List b4}{d:b4}{a:Nat}(b:c.idxOf? d=O a):c[a]? =O d:=by
 rw [List.idxOf?,List.findIdx?_eq_some_iff_getElem] at b
 obtain ⟨e,f,_⟩:=b
 (rewrite [gS e];refine bT (dr f) ?_;rfl)
section
variable{b:Wd}{d:dQ}{g:bS}{e:cM}{i:d9}{h:Nat}
def c7.F0(a:kc b)(f:c7 b d g e):b.K.In e.heap:=a.F0.keeps fun k j c=>f.kR c
structure Hw(b:Wd)(d:dQ)(e:cM)(v:cj)(c:Nat)(fs:List bZ):Prop where
 ex:∃a k vs h od m,v=.ref a∧b.T.e7[c]? =O k∧qy k m vs∧fs.length=k.dj.length∧ef b d fs vs∧InstAt e.heap a (ki (b.eS c) h) (b.eS c) (O od)∧jp od m
def Hw.eI(l:c7 b d g e){j:cz}{k:Nat}{f:lb}{a:List cj}{c:List bZ}(q:v6 b d.F j k f a)(t:c.length=f.dj.length)(u:ef b d c a):Hw b d e (.ref j) k c:=
by
 obtain ⟨n,h,s,v,o,p,r,m⟩:=q
 exact ⟨j,f,a,h,s,v,rfl,n,m,t,u,⟨l.ey _ _ o,rfl,rfl,l.ey _ _ p⟩,r⟩
def F1(m:c7 b d g e){a:cj}{c:Nat}{f:List bl}(k:dU b d (.f (.gJ c f)) a):Hw b d e a c (f.map .f):=by
 obtain ⟨q,p,o,rfl,j,l,n⟩:=k
 exact .eI m j (by rw [et];exact l) n.Zg
def N0(j:c7 b d g e){f:cj}{a:Nat}{c:Nat×List bZ}(n:dU b d (.fK a) f)(l:wQ g a=O c):Hw b d e f c.1 c.2:=by
 obtain ⟨q,rfl,s⟩:=n
 obtain ⟨u,t,m,o,p⟩:=j.nB a q _ s (PJ l)
 exact .eI j m o (ef.cO (b:=⟨d.F,d.F,d.α.take a⟩) (e:=d) (j:=fun k=>True) ⟨k4.cy _,List.take_prefix _ _,fun k r=>(r trivial).elim⟩ p)
def ef.iU:∀{j:List bZ}{a:Nat}{m:List cj}{n:bZ},ef b d j m→j[a]? =O n→∃f,m[a]? =O f∧dU b d n f:=by
 intro j
 induction j with
 |nil=>
  intro a
  rcases a with _|_
  ·intro _ _ _ c
   exact cG c
  ·intro _ _ _ c
   exact cG c
 |cons _ _ o=>
  intro a
  rcases a with _|a
  ·intro _ _ l c
   obtain ⟨f,_,k,q,_⟩:=l;exact ⟨f,k▸rfl,dg c▸q⟩
  ·intro _ _ l c
   obtain ⟨_,_,k,_,p⟩:=l;exact k▸o (a:=a) p c
def vF(f:kc b)(n:c7 b d g e){p:cj}{k:Nat}{q:List bZ}{c:b4}{r:bZ}{K:KE}(G:Hw b d e p k q)(l:we b.T k q c=O r)(v:K r g):Wp b i (getAttr p c ar) (VP b d K) e:=by
 refine bU fun a=>?_
 obtain ⟨T,y,Q,h,R,W,rfl,m,z,P,F,u,C⟩:=G.ex
 obtain ⟨X,t,l⟩:=cH l
 refine a ?_;try clear a
 rw [m] at t
 obtain rfl:=dg t
 refine bU fun a=>?_
 obtain ⟨x,I,A⟩:=cH l
 obtain ⟨L,w,s⟩:=F.iU A
 refine a ?_;try clear a
 have j:=f.e7 k y m
 have o:=KU I
 exact get_value (n.F0 f) u j.uy (findObj_own j.A3 (j.dj c (gj o)) rfl (by (rewrite [A5 C];refine bT (z.eH x c L o w) ?_;rfl))) (s.Ye f) (VP.m (n.qh _) s v)
def H4(s:kc b)(j:c7 b d g e){o:cj}{r:bZ}{t:b4}{K:KE}(p:dU b d r o)(m:lu (zv b.T g r t) fun q=>K q g):Wp b i (getAttr o t ar) (VP b d K) e:=by
 refine bU fun a=>?_
 obtain ⟨q,m,n⟩:=fj m
 refine a ?_;try clear a
 rcases ga m with ⟨_,k⟩|⟨z,y,k⟩
 ·refine bU fun a=>?_
  obtain ⟨x,f,l⟩:=cH k
  obtain ⟨A,v,f⟩:=cH f
  obtain rfl:=ik v
  obtain rfl:=xX f
  obtain ⟨G,c,rfl⟩:=dC l
  refine a ?_;try clear a
  refine vF s j (F1 j p) ?_ n
  refine bU fun a=>?_
  obtain ⟨F,w,c⟩:=cH c
  obtain ⟨C,u,c⟩:=cH c
  refine a ?_;try clear a
  unfold we
  (refine bT w ?_;rewrite [tn];refine bT u ?_;rewrite [tn,i4];refine bT c ?_);rfl
 ·refine bU fun a=>?_
  obtain rfl:=PK y
  obtain ⟨x,f,l⟩:=cH k
  refine a ?_;try clear a
  exact vF s j (N0 j p f) l n
def q5{a:Int}{j m:Nat}(f:g8 a j=O m):m<j∧-(2 ^ 62)<a∧a<2 ^ 62+j∧seqIndex? a j=O m∧((0≤a∧a<2 ^ 62∧a.toNat=m)∨(a<0∧-(j:Int)≤a∧(a+j).toNat=m)):=by
 unfold g8 at f
 have n:∀{l:Int},0≤l→l<j→(if (dY (0≤l)&&dY (l<j))=ar then O l.toNat else b1)=O l.toNat:=fun o p=>if_pos (by (refine bT (decide_eq_true o) ?_;refine bT (decide_eq_true p) ?_);rfl)
 unfold seqIndex?
 by_cases c:0≤a
 ·rw [if_pos c] at f
  obtain ⟨k,f⟩:=eB f
  obtain rfl:=dg f
  refine bT (if_neg (zn.mpr c)) ?_
  exact ⟨Oh c k.1,GS (by decide) c,GS k.2 (Int.le_add_of_nonneg_right (sb j)),n c k.1,.inl ⟨c,k.2,rfl⟩⟩
 ·rw [if_neg c] at f
  obtain ⟨k,f⟩:=eB f
  obtain rfl:=dg f
  refine bT (if_pos (GU.mp c)) ?_
  exact ⟨by lia,k.2,by lia,n k.1 (by lia),.inr ⟨GU.mp c,by lia,rfl⟩⟩
def Eu{r:di}(c:g6):∀{a:List (g6×bl)}{f:List (g6×cj)},ij b r a f→(∀n,fA c a=O n→∃o,valueAt f c=O o∧g5 b r n o)∧(fA c a=b1→valueAt f c=b1):=by
 intro a
 induction a with
 |nil=>
  intro f l
  exact ⟨(fun s m=>cG m),fun s=>l▸rfl⟩
 |cons k a j=>
  intro f l
  refine bU fun q=>?_
  obtain ⟨t,w,rfl,v,u⟩:=l
  refine q ?_;try clear q
  have j:=j u
  unfold fA valueAt at j⊢
  rw [tT,tT]
  by_cases p:k.1=c
  ·refine bT (decide_eq_true p) ?_
   exact ⟨fun n k=>⟨t,rfl,dg k▸v⟩,fun m=>cG (Eq.symm m)⟩
  ·refine bT (decide_eq_false p) ?_
   exact j
def vG(l:c7 b d g e){a:Sum Int b4}{c:bZ}{j:bl}{n X:cj}{o:kD}{t m:ce}{K:KE}(v:dU b d c n)(I:uO g c a=O j)(F:∀c f,GG m b2 c f=operate [c,f] (tW c f))(C:K (.f j) g):Wp b i (subscriptTail t m n (KM a o)) (VP b d K) e:=by
 refine bU fun q=>?_
 obtain ⟨R,k,G⟩:=cH I
 obtain ⟨T,P,k⟩:=cH k
 obtain rfl:=lz P
 obtain ⟨x,rfl,z⟩:=v
 obtain ⟨_,_,u,L,w,A,Q⟩:=l.A2 z k
 have p:e.heap.DictOf (i8 b.dP b.w) x L:=zl.mpr ⟨u,w,A⟩
 obtain ⟨W,r,y⟩:=(Eu a Q).1 j G
 refine q ?_;try clear q
 have s:Hv a (KM a o)=ar:=by
  induction a<;>exact beq_self_eq_true _
 exact Cu p.typeIs Uz.lookup (UD (knd:=i8 b.dP b.w) (k:=a) s p.mapOf r (VP.f (l.qh _) y C)) (F _ _)
def KV(an:kc b)(c:c7 b d g e){ac P:ce}{x Y:cj}{f k:bZ}{K:KE}(q:dU b d f x)(T:dU b d k Y)(I:lu (jX b.T g f k) fun v=>K (.f v) g)(l:∀f k,GG P b2 f k=operate [f,k] (tW f k)):Wp b i (subscriptTail ac P x Y) (VP b d K) e:=by
 refine bU fun a=>?_
 obtain ⟨v,I,r⟩:=fj I
 refine a ?_;try clear a
 rcases ga I with ⟨_,G⟩|⟨o,s,G⟩
 ·refine bU fun a=>?_
  obtain ⟨o,s,aa⟩:=cH G
  obtain rfl:=xZ s
  obtain ⟨R,rfl⟩:=T
  refine a ?_;try clear a
  rcases ga aa with ⟨_,j⟩|⟨h,F,j⟩
  ·exact vG (X:=.none) (a:=.inr o) c q j l r
  ·refine bU fun a=>?_
   obtain ⟨au,t,F⟩:=cH F
   obtain rfl:=ik t
   obtain rfl:=rG F
   obtain rfl:x=.ref (b.kP h):=q
   obtain ⟨ae,ah,z⟩:=cH j
   obtain ⟨ay,al,aC,m⟩:=an.ll h ae ah
   have L:=nZ al (b:=e.heap) fun aB f p=>c.kR p
   obtain ⟨Q,n,A⟩:=(m o).2 v z
   refine a ?_;try clear a
   exact Cu L.typeIs Uz.lookup (UD (GI b.dP b.w o R) L n (VP.f (c.qh _) (g5.cO c.kQ A) r)) (l _ _)
 ·refine bU fun a=>?_
  obtain rfl:=jD s
  obtain ⟨R,rfl⟩:=T
  refine a ?_;try clear a
  rcases ga G with ⟨_,j⟩|⟨au,t,j⟩
  ·exact vG (X:=.none) (a:=.inl o) c q j l r
  ·refine bU fun a=>?_
   obtain ⟨am,ak,ag⟩:=cH j
   obtain ⟨aA,av,z⟩:=cH ag
   obtain ⟨aw,af,aF,rfl,W,C⟩:=mf c q t ak
   obtain ⟨Q,n,A⟩:=C.iU z
   obtain ⟨aE,aD,az,aq,ao⟩:=q5 av
   have w:VP b d K Q e:=VP.f c A r
   obtain ⟨ai,ab⟩:=am
   refine a ?_;try clear a
   induction ai
   ·have m:=eN W
    rcases ao with ⟨y,X,u⟩|⟨y,X,u⟩
    ·exact Cu m.typeIs UA.lookup (wpAny_getItem_list m y (by lia) (by (refine bT u ?_;rw [tQ]);exact n) w) (l _ _)
    ·have p:af.toArray.size=ab.length:=by refine bT iy ?_;exact C.cC
     exact Cu m.typeIs UA.lookup (wpAny_getItem_list_neg m y (by refine bT p ?_;exact X) (by lia) (by (refine bT p ?_;refine bT u ?_;rw [tQ]);exact n) w) (l _ _)
   ·exact item_tupleT (kb W) (by lia) (by lia) (by refine bT C.cC ?_;exact aq) n w (l _ _)
end
section
variable{a:Wd}{c:dQ}{e:bS}{b:cM}{g:d9}{h:Nat}{d:di}
def dB.A6:∀(j:Nat){i:List bl}{k:List cj},dB a d i k→dB a d (i.drop j) (k.drop j):=by
 intro j
 induction j with
 |zero=>
  intro i
  rcases i with _|⟨_,_⟩
  ·intro _ f
   exact f
  ·intro _ f
   exact f
 |succ j l=>
  intro i
  rcases i with _|⟨_,_⟩
  ·intro _ f
   exact f▸rfl
  ·intro _ f
   obtain ⟨_,_,m,_,n⟩:=f;exact m▸l n
def dB.ju:∀(i:Nat){f:List bl}{k:List cj},dB a d f k→dB a d (f.take i) (k.take i):=by
 intro i
 induction i with
 |zero=>
  intro f
  rcases f with _|⟨_,_⟩
  ·intro _ j
   exact rfl
  ·intro _ j
   exact rfl
 |succ i m=>
  intro f
  rcases f with _|⟨_,_⟩
  ·intro _ j
   exact j▸rfl
  ·intro _ j
   obtain ⟨l,_,n,p,o⟩:=j;exact n▸⟨l,_,rfl,p,m o⟩
def dB.ST:∀(j:Nat){i:List bl}{m:List cj},dB a d i m→dB a d (i.eraseIdx j) (m.eraseIdx j):=by
 intro j
 induction j with
 |zero=>
  intro i
  rcases i with _|⟨_,_⟩
  ·intro _ f
   cases f;exact rfl
  ·intro _ f
   obtain ⟨_,_,k,_,l⟩:=f;exact k▸l
 |succ j o=>
  intro i
  rcases i with _|⟨_,_⟩
  ·intro _ f
   cases f;exact rfl
  ·intro _ f
   obtain ⟨n,_,k,p,l⟩:=f;exact k▸⟨n,_,rfl,p,o l⟩
def dB.zE{k:cj}{o:bl}(q:g5 a d o k):∀(j:Nat){i:List bl}{n:List cj},dB a d i n→dB a d (i.set j o) (n.set j k):=by
 intro j
 induction j with
 |zero=>
  intro i
  rcases i with _|⟨_,_⟩
  ·intro _ f
   cases f;exact rfl
  ·intro _ f
   obtain ⟨_,_,l,_,m⟩:=f;exact l▸⟨k,_,rfl,q,m⟩
 |succ j p=>
  intro i
  rcases i with _|⟨_,_⟩
  ·intro _ f
   cases f;exact rfl
  ·intro _ f
   obtain ⟨s,_,l,r,m⟩:=f;exact l▸⟨s,_,rfl,r,p m⟩
def dB.x6{f:List cj}{i:List bl}(k:dB a d i f)(j l:Option Nat):dB a d (Mine.x6 i j l) (Mine.x6 f j l):=by
 unfold Mine.x6;refine bT k.cC ?_;exact (k.ju _).A6 _
def yq{o:cj}{k:bZ}{n:Option Nat}(m:dU a c k o)(f:rO k=O n):Cp o (n.map fun q=>(q:Int)):=by
 rcases ga f with ⟨_,f⟩|⟨l,r,f⟩
 ·cases j:k.gv
  ·rw [j] at f;exact cG f
  ·rw [j] at f
   obtain rfl:=xY j
   obtain rfl:=dg f
   cases m
   exact .none
 ·refine bU fun i=>?_
  obtain rfl:=jD r
  obtain ⟨p,f⟩:=eB f
  refine i ?_;try clear i
  obtain rfl:=dg f
  refine bU fun i=>?_
  obtain ⟨s,rfl⟩:=m
  refine i ?_;try clear i
  have:((l.toNat:Nat):Int)=l:=UG p.1
  show Cp _ (O _)
  refine bT this ?_;exact .int _ _
def Ev{j:cj}{i:Nat}(k:Cp j ((O i).map fun l=>(l:Int))):∃f,j=.int i f:=by
 cases k with
 |int m f=>exact ⟨f,rfl⟩
def PP(f:List cj)(j k:Option Nat):slicePick f.toArray (j.map fun i=>(i:Int)) (k.map fun i=>(i:Int)) b1=(Mine.x6 f j k).toArray:=by
 rw [slicePick_plain]
 congr 1
 unfold Mine.x6
 have q:(j.map fun i=>(i:Int)).elim 0 (clipAt f.toArray.size)=min (j.getD 0) f.length:=by
  induction j
  ·exact (Nat.zero_min _).symm
  ·exact clipAt_nat ..
 have r:(k.map fun i=>(i:Int)).elim f.toArray.size (clipAt f.toArray.size)=min (k.getD f.length) f.length:=by
  induction k
  ·exact (TN _).symm
  ·exact clipAt_nat ..
 (refine bT q ?_;refine bT r ?_;refine bT List.drop_take ?_)
 have o:∀(i:Nat)(n:List cj),n.length≤i→n.take i=n:=fun i n p=>Cb p
 by_cases l:j.getD 0≤f.length
 ·refine bT (y6 l) ?_
  by_cases m:k.getD f.length≤f.length
  ·(refine bT (y6 m) ?_;rfl)
  ·have m:=TH m
   rw [TJ m,o _ _ (by refine bT zc ?_;exact dX _),o _ _ (by refine bT zc ?_;exact Nat.sub_le_sub_right m _)]
 ·have l:=TH l
  (refine bT (TJ l) ?_;refine bT (T0 (dX _)) ?_;refine bT (T0 l) ?_;refine bT Uo ?_;refine bT Uo ?_;rfl)
def H5{k m:cz}{f:List cj}{i:Nat}{v:kD}{n:cj→cM→Prop}(j:IsTup b.heap k f.toArray)(l:b.heap.IsSliceOf m (.int i v) .none .none)(p:i≤f.length)(x:f.length≤100000)
  (s:i=0→n (.ref k) b) (t:n (.ref b.heap.objs.size) {b with heap:=b.heap.push {cls:=.type "tuple",data:=.seq (f.drop i).toArray}}):Wp a g (tW (.ref k) (.ref m)) n b:=by
 by_cases o:1≤i
 ·exact getItem_tuple_from j l o (by refine bT iy ?_;exact p) t (by refine bT iy ?_;unfold lP;lia)
 ·obtain rfl:i=0:=LW.mp (LU o)
  obtain ⟨w,q,u,y⟩:=id l
  have r:b.TypeIs (.ref m) "slice":=⟨w,q,u⟩
  unfold Wp tW
  try with_reducible refine iH ?_
  first|refine c5 (fR ?_)|skip
  refine c5 (wpAny_sequenceKey j.typeIs (by decide) ?_)
  refine c5 (wpAny_callSpecial?_slot (name:=oA "__getitem__") j.typeIs MJ (wpAny_call_entry MJ j.typeIs entry_tuple_getitem ?_ (args_tuple_getitem _ _)))
  refine c5 (m:=Zz (.ref k)) (tupleItemsOf_ j ?_)
  refine c5 (wpAny_typeOf r ?_)
  refine bT (if_pos (by decide)) ?_
  refine c5 (sliceApplied_from l (fy _) ?_)
  show n9 _ _ (if (((0:Nat):Int)==0&&(1:Int)==1&&(f.toArray.size-0)==f.toArray.size)=ar then _ else _) _ _ b
  rw [if_pos (by (rewrite [Nat.sub_zero];refine bT (beq_self_eq_true (f.toArray.size)) ?_;rw [LN]);rfl)]
  refine c5 (m:=U1 (.ref k)) ?_
  unfold U1
  refine c5 (wpAny_typeOf j.typeIs (fR ?_))
  refine bT (if_pos (by decide)) ?_
  exact c5 (Mw (fR ⟨_,rfl,fR (s rfl)⟩))
def H6{p m:cz}{k:List cj}{f:Nat}{i:List bl}{n o:cj}{j l:Option Nat}{fz:Bool}{K:KE}(t:c7 a c e b)(w:b.heap.get? p=O (dl "list" k f))(r:dB a c.F i k)(x:b.heap.IsSliceOf m n o .none)(u:Cp n (j.map fun f=>(f:Int)))(v:Cp o (l.map fun f=>(f:Int)))(q:i.length≤100000)(s:gy (iI e fz (x6 i j l)) K):Wp a g (tW (.ref p) (.ref m)) (VP a c K) b:=by
 have q:k.length≤100000:=by refine bT r.cC ?_;exact q
 refine wpAny_getItem_list_slice (eN w) x u v .none (fun y=>cG y) ?_ (by refine bT iy ?_;unfold lP;lia)
 rw [PP]
 exact oR t (r.x6 j l) s
def KW{l n:cz}{k:List cj}{x j:Nat}{f:List bl}{y:kD}{K:KE}(i:c7 a c e b)(u:b.heap.get? l=O (dl "tuple" k x))(m:dB a c.F f k)(t:g5 a c.F (.cQ f) (.ref l))(w:b.heap.IsSliceOf n (.int j y) .none .none)(q:j≤f.length∧f.length≤100000)(o:K (.f (.cQ (f.drop j))) e):Wp a g (tW (.ref l) (.ref n)) (VP a c K) b:=by
 refine H5 (kb u) w (by refine bT m.cC ?_;exact q.1) (by refine bT m.cC ?_;exact q.2) (fun s=>?_) ?_
 ·subst s
  exact VP.f i t o
 ·obtain ⟨r,p⟩:=(i.d0 {cls:=.type "tuple",data:=.seq (k.drop j).toArray}).uw (oz _ rfl) (i.yY (dX _)) (i.pC (dX _)) fun z v=>absurd (gj v) (i.fY (dX _))
  refine ⟨_,_,_,p,?_,r,o⟩
  exact ⟨_,_,_,rfl,di.eF _ _ _,(m.A6 j).cO p.F⟩
def Fe(L:c7 a c e b){w p r:cj}{o Q R:bZ}{fz:Bool}{K:KE}(A:dU a c o w)(ai:dU a c Q p)(au:dU a c R r)(av:gy (jY e fz o Q R) K):
  ∃n F,typeLookup (.type n) "__getitem__"=ej (O (.builtin F))∧({b with heap:=b.heap.push {cls:=.type "slice",data:=.fields #[p,r,.none]}}:cM).TypeIs w n∧
   Wp a g (tW w (.ref b.heap.objs.size)) (VP a c K) {b with heap:=b.heap.push {cls:=.type "slice",data:=.fields #[p,r,.none]}}:=by
 refine aco fun aG u=>?_
 refine bU fun f=>?_
 obtain ⟨ab,aq,ak⟩:=c9 av
 obtain ⟨ao,ah,al⟩:=c9 ak
 obtain ⟨aC,G,ag⟩:=c9 al
 refine f ?_;try clear f
 have x:=L.d0 {cls:=.type "slice",data:=.fields #[p,r,.none]}
 have C:=yq ai aq
 have I:=yq au ah
 rcases oS ag with ⟨_,l⟩|⟨k,P,l⟩
 ·refine bU fun f=>?_
  obtain ⟨aw,am,i⟩:=c9 l
  obtain rfl:=wF am
  refine f ?_;try clear f
  induction ab with
  |some _=>induction i
  |none=>
  refine bU fun f=>?_
  obtain ⟨j,Y,y⟩:=c9 i
  obtain ⟨s,af⟩:=jE y
  refine f ?_;try clear f
  cases Y
  cases C
  refine bU fun f=>?_
  obtain ⟨ae,rfl⟩:=tf A G rfl
  obtain ⟨W,rfl⟩:=Ev I
  have az:KeptH fun m=>(∀j v,b.heap.get? j=O v→m.get? j=O v)∧b.heap.objs.size≤m.objs.size:=fun m v k=>⟨fun j o t=>ng _ (k.1 j o t),by rw [GR];lia⟩
  obtain ⟨n,F,ac,an,aa⟩:=SBH.sliceItem_ns (prog:=a.dP) (w:=a.w) (A:=g) (E:=fun z z=>False) (x:=aw) (t:=ae) (j:=j) (uj:=W) (s:=b) (Q:=VP a c K) az ⟨fun z z t=>t,dX _⟩ (fun m aE aH k=>VP.ad (L.iO _ k.1) af) (by unfold lP;lia)
  refine f ?_;try clear f
  exact u ⟨n,F,ac,an,aa⟩
 ·refine bU fun f=>?_
  obtain ⟨aF,aD,aI,rfl,q,T⟩:=mf x A G P
  obtain ⟨ay,aA⟩:=k
  refine f ?_;try clear f
  induction ay
  ·obtain ⟨s,i⟩:=jE l
   exact u ⟨"list",_,list_getitem_lookup,(eN q).typeIs,H6 x q T (U5 ..) C I s i⟩
  ·induction ao with
   |some _=>induction l
   |none=>
   refine bU fun f=>?_
   obtain ⟨aB,X,i⟩:=c9 l
   obtain ⟨s,y⟩:=jE i
   refine f ?_;try clear f
   cases X
   cases I
   refine bU fun f=>?_
   obtain ⟨W,rfl⟩:=Ev C
   obtain rfl:=te P
   refine f ?_;try clear f
   exact u ⟨"tuple",_,MJ.lookup,(kb q).typeIs,KW x q T (tf A G rfl) (U5 ..) s y⟩
end
end
section
open PySem PySem.W PySem.Spec PyProof.Rows PySem.Calls SeqAt
noncomputable def th(b:Wd):oC→cj
 |.eJ=>.builtin "list.append" |.gA=>.builtin "list.pop" |.iU=>.builtin "dict.get" |.Dk=>.builtin "dict.get" |.fn a=>.ref (b.jT a)
section
variable{a:Wd}{b:dQ}{e:bS}{c:cM}{h:d9}{g:Nat}{d:di}
def sL(s:c7 a b e c){o:Nat}{f:cz}{l:List cj}{r:Nat}{j:Array cj→Array cj}{i:List cj}{m:List bl}(u:b.α[o]? =O f)(n:b.F f=b1)(q:c.heap.get? f=O (dl "list" l r))(v:j l.toArray=i.toArray)(t:dB a b.F m i)(p:Nat):
  c7 a b (e.set o (O (.a3 m))) {c with heap:=c.heap.update f (Obj.mapSeq j),toks:=p}:=by
 have k:=U7 (h:=c.heap) (l:=f) q j
 rw [v] at k
 exact s.Zh p u n (U6 ..) ⟨n,i,_,k,t⟩ ⟨_,k⟩
theorem ij.N1:∀{j:List (g6×bl)}{l:List (g6×cj)}(f:g6),ij a d j l→l.any (fun i=>i.1=f)=j.any (fun i=>i.1=f)
 |[],_,_,k=>k▸rfl
 |p::j,_,f,k=>by
  refine bU fun m=>?_
  obtain ⟨o,q,rfl,_,n⟩:=k
  refine m ?_;try clear m
  (refine bT Gv ?_;refine bT Gv ?_;refine bT (n.N1 f) ?_;rfl)
def ij.cC:∀{f:List (g6×bl)}{j:List (g6×cj)},ij a d f j→j.length=f.length:=by
 intro f
 induction f with
 |nil=>
  intro _ i
  exact i▸rfl
 |cons n f k=>
  intro _ i
  obtain ⟨m,o,rfl,_,l⟩:=i
  exact congrArg pI (k l)
def ij.NY{k:g6}{i:cj}{m:bl}(o:g5 a d m i):∀{f:List (g6×bl)}{l:List (g6×cj)},ij a d f l→ij a d (f++[(k,m)]) (l++[(k,i)]):=by
 intro f
 induction f with
 |nil=>
  intro _ j
  cases j;exact ⟨i,[],rfl,o,rfl⟩
 |cons t f n=>
  intro _ j
  obtain ⟨s,_,q,r,p⟩:=j;exact q▸⟨s,_,rfl,r,(n p)⟩
def ij.fS{l:g6}{k:cj}{r:bl}(t:g5 a d r k):∀{i:List (g6×bl)}{p:List (g6×cj)},ij a d i p→ij a d (i.map fun f=>if f.1=l then (f.1,r) else f) (p.map fun f=>if f.1=l then (f.1,k) else f):=by
 intro i
 induction i with
 |nil=>
  intro _ m
  exact m▸rfl
 |cons s i n=>
  intro _ m
  refine bU fun q=>?_
  obtain ⟨v,w,rfl,u,o⟩:=m
  refine q ?_;try clear q
  (refine bT Cj ?_;refine bT Cj ?_)
  by_cases j:s.1=l
  ·(refine bT (if_pos j) ?_;refine bT (if_pos j) ?_);exact ⟨k,_,rfl,t,(n o)⟩
  ·(refine bT (if_neg j) ?_;refine bT (if_neg j) ?_);exact ⟨v,_,rfl,u,(n o)⟩
def ij.PQ{j:List (g6×bl)}{n:List (g6×cj)}{f:g6}{l:cj}{o:bl}(k:ij a d j n)(m:g5 a d o l):ij a d (gF j f o) (Ux n f l):=by
 unfold Ux gF
 refine bT (k.N1 f) ?_
 by_cases i:j.any (fun p=>p.1=f)=ar
 ·(refine bT (if_pos i) ?_;refine bT (if_pos i) ?_);exact k.fS m
 ·(refine bT (if_neg i) ?_;refine bT (if_neg i) ?_);exact k.NY m
def Ji{f:bl}{j:g6}{i:cj}(k:jM f=O j)(l:g5 a d f i):Hv j i=ar:=by
 cases f<;>first|exact cG k|(obtain rfl:=dg k;obtain ⟨m,rfl⟩:=l;exact beq_self_eq_true _)
def Db(aE:kc a)(k:c7 a b e c){z s w:bZ}{y v F:cj}{K:bS→Prop}(aa:dU a b z y)(C:dU a b s v)(G:dU a b w F)(i:lu (l4 e z s w) K):Wp a h (setItem y v F) (TP a b fun (_:Unit) A=>K A) c:=by
 refine bU fun f=>?_
 obtain ⟨A,i,u⟩:=fj i
 obtain ⟨aB,av,i⟩:=cH i
 obtain ⟨R,ac,i⟩:=cH i
 obtain rfl:=lz av
 obtain rfl:=ik ac
 obtain ⟨ah,rfl,m⟩:=aa
 refine f ?_;try clear f
 rcases ga i with ⟨_,o⟩|⟨aw,T,o⟩
 ·refine bU fun f=>?_
  obtain ⟨P,ab,r⟩:=cH o
  obtain ⟨an,p⟩:=eB r
  obtain ⟨n,q,rfl⟩:=dC p
  obtain ⟨aK,L,q⟩:=cH q
  obtain rfl:=ik L
  obtain ⟨j,X,W,au,l,am,I⟩:=k.A2 m ab
  refine f ?_;try clear f
  have ag:c.heap.DictOf (i8 a.dP a.w) ah au:=zl.mpr ⟨W,l,am⟩
  refine wpAny_setItem_pairs (hsz:=by refine bT I.cC ?_;unfold lP;lia) (Ji q C) ag fun ay Y aq=>?_
  refine bU fun f=>?_
  obtain ⟨ao,t,ai⟩:=zl.mp Y
  refine f ?_;try clear f
  exact ⟨_,b,.cy _,k.Zh (t:=.d4 (gF P n R)) _ m j aq ⟨j,X,ao,_,t,ai,I.PQ G⟩ ⟨_,t⟩,u⟩
 ·refine bU fun f=>?_
  obtain ⟨aJ,ak,r⟩:=cH o
  obtain rfl:=jD ak
  obtain ⟨an,p⟩:=eB r
  obtain ⟨af,ae,rfl⟩:=dC p
  obtain ⟨aC,rfl⟩:=C
  obtain ⟨j,az,aD,l,n⟩:=k.rZ m T
  obtain ⟨aH,aG,aA,aI,al⟩:=q5 ae
  refine f ?_;try clear f
  rcases al with ⟨x,aF,Q⟩|⟨x,_,_⟩
  ·refine ki_setAt l x (by lia) (by (refine bT iy ?_;refine bT n.cC ?_);lia) ?_
   refine bT Q ?_
   exact ⟨_,b,.cy _,sL k m j l (List.setIfInBounds_toArray ..) (n.zE G af) c.toks,u⟩
  ·lia
def ef.o9{k:List cj}{i:List bZ}{j:bZ}(o:ef a b i k)(l:JG i=O j):∃f,k=[f] ∧dU a b j f:=by
 rcases i with _|⟨j,_|⟨q,n⟩⟩<;>first|exact cG l|skip
 obtain rfl:=dg l
 refine bU fun m=>?_
 obtain ⟨f,p,rfl,n,rfl⟩:=o
 refine m ?_;try clear m
 exact ⟨f,rfl,n⟩
def ef.XG{l:List cj}{k:List bZ}{j:bZ×bZ}(p:ef a b k l)(m:Wj k=O j):∃f i,l=[f,i] ∧dU a b j.1 f∧dU a b j.2 i:=by
 rcases k with _|⟨v,_|⟨u,_|⟨r,o⟩⟩⟩<;>first|exact cG m|skip
 obtain rfl:=dg m
 refine bU fun n=>?_
 obtain ⟨f,t,rfl,o,i,s,rfl,q,rfl⟩:=p
 refine n ?_;try clear n
 exact ⟨f,i,rfl,o,q⟩
def A7(u:c7 a b e c){n i:Nat}{l:cz}{o:List bl}{K:KE}{f:List cj}{C:Nat}(z:b.α[n]? =O l)(r:b.F l=b1)(x:c.heap.get? l=O (dl "list" f C))(m:dB a b.F o f)(j:gy (MQ e n o i) K):f.length≤100000∧∃k,f[i]? =O k∧VP a b K k {c with heap:=c.heap.update l (Obj.mapSeq fun w=>w.eraseIdxIfInBounds i)}:=by
 refine bU fun p=>?_
 obtain ⟨A,j⟩:=jE j
 obtain ⟨G,I,j,t⟩:=iE j
 obtain ⟨F,v,s⟩:=dC j
 obtain ⟨k,q,y⟩:=m.iU v
 refine p ?_;try clear p
 cases s
 exact ⟨by refine bT m.cC ?_;exact A,k,q,VP.f (sL u z r x (i:=f.eraseIdx i) (List.eraseIdxIfInBounds_toArray ..) (m.ST i) c.toks) y t⟩
def pE(aG:kc a)(m:c7 a b e c){T:cj}{ao:List cj}{ag:bZ}{aq:List bZ}{K:KE}:∀{an:oC},dU a b ag T→ef a b aq ao→gy (jk a.T e an ag aq) K→Wp a h (gg (th a an) (T::ao)) (VP a b K) c
 |.eJ,t,q,o=>by
  refine bU fun f=>?_
  obtain ⟨ak,i,w⟩:=c9 o
  obtain ⟨am,I,r⟩:=c9 w
  obtain ⟨aa,y,n⟩:=c9 r
  obtain ⟨Y,C,y⟩:=cH y
  obtain ⟨Q,rfl,v⟩:=q.o9 C
  obtain rfl:=ik y
  obtain rfl:=lz i
  obtain ⟨ai,s⟩:=jE n
  obtain ⟨u,rfl,i⟩:=t
  obtain ⟨A,x,X,j,k⟩:=m.rZ i I
  refine f ?_;try clear f
  exact zh ME ⟨_,j,rfl⟩ UQ (UP _ _) (Up u x.toArray X Q (by (refine bT iy ?_;refine bT k.cC ?_);unfold lP;lia)) ⟨j,VP.f (f:=.bX) (sL m i A j (i:=x++[Q]) (Uc ..) (k.NY (.o9 v)) c.toks) rfl s⟩
 |.gA,t,q,o=>by
  refine bU fun f=>?_
  obtain ⟨ak,i,w⟩:=c9 o
  obtain ⟨am,I,r⟩:=c9 w
  obtain rfl:=lz i
  obtain ⟨u,rfl,i⟩:=t
  obtain ⟨A,x,X,j,k⟩:=m.rZ i I
  refine f ?_;try clear f
  rcases oS r with ⟨_,n⟩|⟨av,ah,n⟩
  ·refine bU fun f=>?_
   obtain ⟨aE,s⟩:=vf n
   obtain rfl:=l0.mp aE
   refine f ?_;try clear f
   cases q
   refine bU fun f=>?_
   obtain ⟨ai,G,z,ab⟩:=A7 m i A j k s
   refine f ?_;try clear f
   have l:x.toArray.size-1=am.length-1:=by (refine bT iy ?_;refine bT k.cC ?_;rfl)
   refine zh MF ⟨_,j,rfl⟩ UT (PySem.F.args_list_pop_1 _) (ZA u x.toArray X G (by (refine bT l ?_;rw [tQ]);exact z) (by refine bT iy ?_;unfold lP;lia)) ⟨j,?_⟩
   refine bT l ?_
   exact ab
  ·refine bU fun f=>?_
   obtain ⟨F,aB,s⟩:=c9 n
   obtain ⟨aw,af,ac⟩:=c9 s
   obtain ⟨Q,rfl,v⟩:=q.o9 ah
   obtain rfl:=jD aB
   obtain ⟨W,rfl⟩:=v
   obtain ⟨ai,G,z,ab⟩:=A7 m i A j k ac
   obtain ⟨aT,aS,aO,aK,aR⟩:=q5 af
   refine f ?_;try clear f
   rw [k.cC] at ai
   exact zh MF ⟨_,j,rfl⟩ UT (PySem.F.args_list_pop_2 _ _) (ZB u x.toArray X F W aw G (by unfold U2;(refine bT (decide_eq_true (by lia)) ?_;refine bT (decide_eq_true (by lia)) ?_);rfl) (by (refine bT iy ?_;refine bT k.cC ?_);exact aK) (by rw [tQ];exact z) (by (refine bT iy ?_;refine bT k.cC ?_);unfold lP;lia)) ⟨j,ab⟩
 |.iU,t,q,o=>by
  refine bU fun f=>?_
  obtain ⟨ak,i,w⟩:=c9 o
  obtain ⟨R,ae,r⟩:=c9 w
  obtain ⟨av,aH,n,F⟩:=iE r
  obtain ⟨p,L,l⟩:=dC n
  obtain ⟨Y,C,L⟩:=cH L
  obtain ⟨Q,rfl,v⟩:=q.o9 C
  obtain rfl:=xZ L
  obtain ⟨W,rfl⟩:=v
  obtain rfl:=lz i
  obtain ⟨u,rfl,i⟩:=t
  refine f ?_;try clear f
  cases l
  refine bU fun f=>?_
  obtain ⟨A,aC,aD,aL,j,P,aN⟩:=m.A2 i ae
  refine f ?_;try clear f
  have ay:c.heap.DictOf (i8 a.dP a.w) u aL:=zl.mpr ⟨aD,j,P⟩
  refine call_meetsIn GX ay.typeIs UU (PySem.F.args_dict_get_2 _ _) (meets_dict_get (i8 a.dP a.w) u (k:=G1 p) (beq_self_eq_true _) aC) ⟨_,ay.mapOf,?_⟩
  refine VP.f (m.qh _) ?_ F
  obtain ⟨aF,aM⟩:=Eu (.inr p) aN
  cases y:fA (.inr p) R with
  |none=>refine bT (aM y) ?_;exact rfl
  |some aa=>obtain ⟨G,z,aJ⟩:=aF aa y;refine bT z ?_;exact aJ
 |.Dk,t,q,o=>by
  refine bU fun f=>?_
  obtain ⟨g,P,w⟩:=c9 o
  obtain ⟨Y,C,P⟩:=cH P
  obtain ⟨aw,af,r⟩:=c9 w
  obtain ⟨p,L,n⟩:=c9 r
  obtain ⟨aa,I,s⟩:=c9 n
  obtain ⟨av,aH,ac,F⟩:=iE s
  obtain ⟨R,ae,l⟩:=dC ac
  obtain ⟨Q,G,rfl,az,au⟩:=q.XG af
  rw [xZ L] at az
  rw [ik I] at au
  obtain ⟨W,rfl⟩:=az
  obtain rfl:=ik C
  obtain rfl:=rG P
  obtain rfl:T=.ref (a.kP g):=t
  refine f ?_;try clear f
  cases l
  refine bU fun f=>?_
  obtain ⟨aP,ah,aI,aA⟩:=aG.ll _ R ae
  refine f ?_;try clear f
  have al:=nZ ah (b:=c.heap) fun aQ ag l=>m.kR l
  refine call_meetsIn GX al.typeIs UU (PySem.F.args_dict_get_3 _ _ _) (meets_dict_get_default (strKind a.dP a.w) _ (k:=p) (GI a.dP a.w p W) aI _) ⟨_,al,?_⟩
  refine VP.f (m.qh _) ?_ F
  cases k:R.lookup p with
  |none=>refine bT ((aA p).1 k) ?_;exact au
  |some Y=>obtain ⟨T,l,v⟩:=(aA p).2 Y k;refine bT l ?_;exact g5.cO m.kQ v
 |.fn _,_,_,o=>oa o
end
noncomputable def A8:List cj:=[.builtin "len",.type "list",.builtin "max",.builtin "min",.builtin "abs",.type "int",.builtin "repr",.builtin "sorted",.builtin "isinstance",.type "bool",.type "str"]
def p0(a:Nat):cj:=(A8[a]?).getD (.type "tuple")
def PR:∀{a:List bl}{b:List Int},Cz a=O b→a=b.map .Z:=by
 intro a
 induction a with
 |nil=>
  intro b c
  obtain rfl:=dg c;rfl
 |cons f a d=>
  intro b c
  cases f<;>first|exact cG c|(obtain ⟨g,e,rfl⟩:=dC c;refine bT (d e) ?_;rfl)
def PS:∀{a:List bl}{b:List b4},MM a=O b→a=b.map .ad:=by
 intro a
 induction a with
 |nil=>
  intro b c
  obtain rfl:=dg c;rfl
 |cons f a d=>
  intro b c
  cases f<;>first|exact cG c|(obtain ⟨g,e,rfl⟩:=dC c;refine bT (d e) ?_;rfl)
def yr{b:Array (Int×kD)}{c:Int}{d:List Int}(k:b.toList.map (·.1)=c::d){j:Int→Int→Int}{h:Int→Int→Bool}(n:∀g f,j g f=if h f g=ar then f else g):∀a,a≤d.length→zk b (argBest (fun c m=>h (zk b c) (zk b m)) a)=(d.take a).foldl j c:=by
 intro a
 induction a with
 |zero=>
  intro _
  have:(b.toList.map (·.1))[0]? =O c:=by refine bT k ?_;rfl
  rw [i4,MH] at this
  unfold argBest zk
  refine bT this ?_;rfl
 |succ a e=>
  intro i
  have e:=e (lC i)
  have l:(b.toList.map (·.1))[a+1]? =O d[a] :=by (refine bT k ?_;rw [List.getElem?_cons_succ,gS])
  have o:zk b (a+1)=d[a] :=by
   rw [i4,MH] at l
   unfold zk;refine bT l ?_;rfl
  (refine bT (List.take_succ_eq_append_getElem i) ?_;refine bT tR ?_;refine bT Gr ?_;refine bT List.foldl_nil ?_;refine gT e ?_;rewrite [n,argBest];refine gT o ?_)
  split<;>rfl
section
variable{a:Wd}{b:dQ}{d:bS}{e:cM}{g:d9}{h:Nat}{c:di}
def dB.Yf:∀{f:List Int}{l:List cj},dB a c (f.map .Z) l→∃i:List (Int×kD),l.toArray=GM i.toArray∧i.map (·.1)=f:=by
 intro f
 induction f with
 |nil=>
  intro _ k
  exact ⟨[],by cases k;unfold GM;exact Array.map_empty.symm,rfl⟩
 |cons m f o=>
  intro _ k
  refine bU fun n=>?_
  obtain ⟨t,q,rfl,⟨r,rfl⟩,s⟩:=k
  obtain ⟨i,j,p⟩:=o s
  refine n ?_;try clear n
  refine ⟨(m,r)::i,?_,congrArg (m:: ·) p⟩
  unfold GM at j⊢
  rw [List.map_toArray] at j⊢
  (refine bT Cj ?_;refine bT (show q=_ from congrArg MI j) ?_;rfl)
def dB.Yg:∀{f:List b4}{j:List cj},dB a c (f.map .ad) j→StrsAre j f:=by
 intro f
 induction f with
 |nil=>
  intro _ i
  cases i;exact .nil
 |cons n f k=>
  intro _ i
  obtain ⟨m,o,rfl,⟨p,rfl⟩,l⟩:=i
  exact .cons _ _ (k l)
def KY.acs{f:List cj}{i:List b4}(k:StrsAre f i):dB a c (i.map .ad) f:=by
 induction k with
 |nil=>exact rfl
 |cons m l n j=>exact ⟨_,_,rfl,⟨l,rfl⟩,j⟩
def H7:∀(j:b4)(l:List b4),risingS j l=ar→(j::l).Pairwise (fun q n=>ltCps n.cps.toList q.cps.toList=b2):=by
 intro j l
 induction l generalizing j with
 |nil=>
  intro _
  exact List.pairwise_singleton _ _
 |cons r s i=>
  intro o
  obtain ⟨f,k⟩:=gu o
  have f:=B5 _ |>.mp f
  have i:=i r k
  refine ZD (fun p m=>?_) i
  rcases eP.mp m with rfl|m
  ·exact f
  ·have k:=(List.pairwise_cons.mp i).1 p m
   rw [ltCps_eq] at f k⊢
   exact decide_eq_false (Gw.mpr (Mj (Gw.mp (of_decide_eq_false f)) (Gw.mp (of_decide_eq_false k))))
def H8:∀{f:List b4},sortedS f=ar→f.Pairwise (fun k j=>ie k j=ar):=by
 intro f
 induction f with
 |nil=>
  intro _
  exact ZE
 |cons l f n=>
  intro m
  exact (H7 l f m).imp fun {k j} i=>by
   rw [ltCps_eq] at i
   exact decide_eq_true (Gw.mp (of_decide_eq_false i))
def H9(j i f:b4)(k:ie j i=ar)(l:ie i f=ar):ie j f=ar:=decide_eq_true (Mj (of_decide_eq_true k) (of_decide_eq_true l))
def Ia(f i:b4):(ie f i||ie i f)=ar:=by
 rcases Un f.cps.toList i.cps.toList with j|j
 ·exact nR.mpr (.inl (decide_eq_true j))
 ·exact nR.mpr (.inr (decide_eq_true j))
def Ib(f i:b4)(k:ie f i=ar)(j:ie i f=ar):f=i:=by
 have:=List.le_antisymm (of_decide_eq_true k) (of_decide_eq_true j)
 induction f with|mk f=>induction i with|mk i=>exact congrArg _ (Array.toList_inj.mp this)
def KZ{f k:List b4}(m:k.Perm f)(n:sortedS k=ar):k=f.mergeSort ie:=
 U4 (le:=fun j i=>ie j i=ar) (fun j i l l=>Ib j i) (H8 n) (TX H9 Ia f) (m.trans (L7 f ie).symm)
def Ic{f:Nat}(j:f<10 ^ 10):f.log2<1920:=by
 by_cases i:f=0
 ·subst i;decide
 ·exact hH ((Nat.log2_lt i).mpr (hH j (by decide:10 ^ 10≤2 ^ 34))) (by decide)
def Id{f:bl}{j:b4}(i:gY f=O j):∃k:I4,f=k.x:=by
 cases f<;>first|exact cG i|exact ⟨.bX,rfl⟩|exact ⟨.b3 _,rfl⟩|exact ⟨.Z _,rfl⟩|exact ⟨.ad _,rfl⟩
def Ie(m:c7 a b d e){K:KE}{n:b4}(l:K (.f (.ad n)) d){o:cj}:∀{j:I4},g5 a b.F j.x o→gY j.x=O n→Wp a g (gg (.builtin "repr") [o]) (VP a b K) e
 |.bX,i,f=>by cases i;obtain rfl:=dg f;exact PySem.P.repr_of_none (VP.ad (m.qh _) l)
 |.b3 p,i,f=>by
  cases i
  obtain rfl:(if p then "True" else "False":b4)=n:=by induction p<;>exact dg f
  exact PySem.P.repr_of_bool (VP.ad (m.qh _) l)
 |.Z r,i,f=>by
  refine bU fun k=>?_
  obtain ⟨q,rfl⟩:=i
  obtain ⟨j,f⟩:=eB f
  refine k ?_;try clear k
  obtain rfl:=dg f
  exact PySem.P.repr_of_int (Ic j) (VP.ad (m.qh _) l)
 |.ad s,i,f=>by
  refine bU fun k=>?_
  obtain ⟨q,rfl⟩:=i
  obtain ⟨j,f⟩:=eB f
  refine k ?_;try clear k
  obtain rfl:=dg f
  exact PySem.P.repr_of_str (VP.ad (m.qh _) l) (by unfold lP;lia)
end
section
variable{a:Wd}{b:dQ}{d:bS}{c:cM}{e:d9}{g:Nat}{h:di}
def PT{f:bl}{i:Bool}(j:f.Vm=O i):f=.b3 i:=by
 cases f<;>first|exact congrArg _ (dg j)|exact cG j
def SU{f:bl}{j:Nat}(i:f.Y3=O j):f=.kE j:=by
 cases f<;>first|exact congrArg _ (dg i)|exact cG i
def Yh{f:bl}{j:Nat}(i:f.bi?=O j):f=.bi j:=by
 cases f<;>first|exact congrArg _ (dg i)|exact cG i
def K0(j:c7 a b d c){m:cj}{r:bZ}{fz:Bool}{K:KE}(s:dU a b r m)(A:gy (Wl d fz r) K):Wp a e (gg (.builtin "len") [m]) (VP a b K) c:=by
 refine bU fun f=>?_
 obtain ⟨I,n,w⟩:=c9 A
 obtain ⟨v,i,y⟩:=c9 w
 obtain ⟨t,k⟩:=jE y
 refine f ?_;try clear f
 rcases ga i with ⟨_,i⟩|⟨o,x,i⟩
 ·refine bU fun f=>?_
  obtain ⟨P,z,rfl⟩:=dC i
  obtain rfl:=wF z
  obtain ⟨L,rfl⟩:=tf s n rfl
  refine f ?_;try clear f
  exact PySem.P.len_str (by lia) (VP.Z (j.qh _) k)
 ·obtain rfl:=dg i
  refine bU fun f=>?_
  obtain ⟨G,q,v,rfl,p,u⟩:=mf j s n x
  have l:((q.toArray.size:Nat):Int)=(o.2.length:Int):=by (refine bT iy ?_;refine bT u.cC ?_;rfl)
  have t:q.toArray.size≤100000:=by (refine bT iy ?_;refine bT u.cC ?_);exact t
  obtain ⟨C,F⟩:=o
  refine f ?_;try clear f
  induction C
  ·refine call_len_list (eN p) (by lia) ?_
   refine bT l ?_
   exact VP.Z (j.qh _) k
  ·refine PySem.P.len_tuple (n:=v) p (by lia) ?_
   refine bT l ?_
   exact VP.Z (j.qh _) k
def Ig(j:c7 a b d c){o:cj}{u:bZ}{fz:Bool}{K:KE}(G:dU a b u o)(I:gy (MN d fz u) K):Wp a e (gg (.type "list") [o]) (VP a b K) c:=by
 refine bU fun t=>?_
 obtain ⟨Q,z,y⟩:=c9 I
 obtain ⟨F,A,l⟩:=c9 y
 obtain ⟨m,s,T,rfl,r,w⟩:=mf j G z A
 have R:=pD l
 have v:s.toArray.size≤lP:=by (refine bT iy ?_;refine bT w.cC ?_);unfold lP;lia
 have n:∀{k:eu}{C:Nat},(∀p q,c.heap.get? p=O q→k.get? p=O q)→k.get? c.heap.objs.size=O (dl "list" s C)→VP a b K (.ref c.heap.objs.size) {c with heap:=k}:=fun f i=>tg j c.toks f (j.yY (dX _)) (j.pC (dX _)) (j.fY (dX _)) i w l
 obtain ⟨L,P⟩:=F
 refine t ?_;try clear t
 induction L
 ·exact call_list_seq m (.inl rfl) r rfl rfl (fun k x f i=>n f i) v
 ·exact call_list_seq m (.inr rfl) r rfl rfl (fun k x f i=>n f i) v
def Ew(w:c7 a b d c){p:Int→Int→Int}{n:cj}{r:bZ}{fz:Bool}{K:KE}(G:dU a b r n)(P:gy (vZ p d fz r) K):∃l t f k i,n=.ref l∧c.heap.IsList l (GM f)∧f.toList.map (·.1)=k::i∧f.size=i.length+1∧K (.f (.Z (i.foldl p k))) d∧t=0:=by
 refine bU fun j=>?_
 obtain ⟨Q,z,y⟩:=c9 P
 obtain ⟨f,F,C⟩:=c9 y
 obtain ⟨R,T,L,v⟩:=iE C
 obtain ⟨X,q,u⟩:=dC L
 refine j ?_;try clear j
 cases u
 induction f with
 |nil=>exact cG q
 |cons k i _=>
  obtain rfl:=dg q
  refine bU fun j=>?_
  obtain ⟨l,W,t,rfl,I,s⟩:=m5 w G z
  rw [PR F] at s
  obtain ⟨x,A,m⟩:=s.Yf
  refine j ?_;try clear j
  have o:=eN I
  rw [A] at o
  refine ⟨l,0,x.toArray,k,i,rfl,o,m,?_,v,rfl⟩
  have:=congrArg qE m
  rw [et] at this
  (refine bT iy ?_;refine bT this ?_);rfl
def K1(r:e.handled=b1)(m:c7 a b d c){k:cj}{f:bZ}{fz:Bool}{K:KE}(t:dU a b f k)(v:gy (vZ max d fz f) K):Wp a e (gg (.builtin "max") [k]) (VP a b K) c:=by
 refine bU fun i=>?_
 obtain ⟨y,_,w,x,z,rfl,s,p,n,q,_⟩:=Ew m t v
 refine i ?_;try clear i
 refine max_intList r s (by lia) fun k A F u o=>?_
 refine bU fun i=>?_
 obtain ⟨C,rfl⟩:=intItems_at u
 refine i ?_;try clear i
 rw [yr p (j:=max) (h:=fun f l=>dY (f > l)) (fun f l=>by
  by_cases j:l > f
  ·refine bT (if_pos (decide_eq_true j)) ?_;exact Int.max_eq_right (MD j)
  ·rw [if_neg (by rw [decide_eq_true_iff];exact j)];exact Int.max_eq_left (zn.mp j)) _ (jH (congrArg (·-1) n)),n,Gc,eO]
 exact VP.Z (m.iO _ o) q
def K3(r:e.handled=b1)(m:c7 a b d c){k:cj}{f:bZ}{fz:Bool}{K:KE}(t:dU a b f k)(v:gy (vZ min d fz f) K):Wp a e (gg (.builtin "min") [k]) (VP a b K) c:=by
 refine bU fun i=>?_
 obtain ⟨y,_,w,x,z,rfl,s,p,n,q,_⟩:=Ew m t v
 refine i ?_;try clear i
 refine min_intList r s (by lia) fun k A F u o=>?_
 refine bU fun i=>?_
 obtain ⟨C,rfl⟩:=intItems_at u
 refine i ?_;try clear i
 rw [yr p (j:=min) (h:=fun f l=>dY (f<l)) (fun f l=>by
  by_cases j:l<f
  ·refine bT (if_pos (decide_eq_true j)) ?_;exact Int.min_eq_right (MD j)
  ·rw [if_neg (by rw [decide_eq_true_iff];exact j)];exact Int.min_eq_left (zn.mp j)) _ (jH (congrArg (·-1) n)),n,Gc,eO]
 exact VP.Z (m.iO _ o) q
def K4(o:c7 a b d c){k:cj}{l:bZ}{fz:Bool}{K:KE}(s:dU a b l k)(t:gy (Wm d fz l) K):Wp a e (gg (.builtin "abs") [k]) (VP a b K) c:=by
 refine bU fun i=>?_
 obtain ⟨v,w,p,n⟩:=iE t
 obtain ⟨f,r,m⟩:=dC p
 refine i ?_;try clear i
 cases m
 refine bU fun i=>?_
 obtain rfl:=jD r
 obtain ⟨u,rfl⟩:=s
 refine i ?_;try clear i
 refine call_abs_int fun y x=>?_
 have q:(if f<0 then -f else f)=(f.natAbs:Int):=by
  by_cases j:f<0
  ·exact (if_pos j).trans (ZH j)
  ·exact (if_neg j).trans (Int.natAbs_of_nonneg (zn.mp j)).symm
 refine bT q ?_
 exact VP.Z (o.qh _) n
def K5(q:c7 a b d c){j:cj}{k:bZ}{fz:Bool}{K:KE}(r:dU a b k j)(o:gy (Wn d fz k) K):Wp a e (gg (.type "int") [j]) (VP a b K) c:=by
 refine bU fun f=>?_
 obtain ⟨v,s,l,n⟩:=iE o
 obtain ⟨t,i,m⟩:=dC l
 refine f ?_;try clear f
 cases m
 refine bU fun f=>?_
 obtain ⟨u,p,i⟩:=cH i
 obtain rfl:=ik p
 obtain rfl:=PT i
 refine f ?_;try clear f
 cases r
 exact call_int_bool (VP.Z (q.qh _) n)
def Yi(q:c7 a b d c){j:cj}{k:bZ}{fz:Bool}{K:KE}(r:dU a b k j)(o:gy (MO d fz k) K):Wp a e (gg (.builtin "repr") [j]) (VP a b K) c:=by
 refine bU fun f=>?_
 obtain ⟨w,t,l,n⟩:=iE o
 obtain ⟨u,i,m⟩:=dC l
 refine f ?_;try clear f
 cases m
 refine bU fun f=>?_
 obtain ⟨v,p,i⟩:=cH i
 obtain rfl:=ik p
 obtain ⟨s,rfl⟩:=Id i
 refine f ?_;try clear f
 exact Ie q n r i
def Ih(f:c7 a b d c){k:cj}{n:bZ}{fz:Bool}{K:KE}(A:dU a b n k)(F:gy (MP d fz n) K):Wp a e (gg (.builtin "sorted") [k]) (VP a b K) c:=by
 refine bU fun m=>?_
 obtain ⟨G,w,u⟩:=c9 F
 obtain ⟨t,C,x⟩:=c9 u
 obtain ⟨Q,j⟩:=jE x
 obtain ⟨I,l,R,rfl,y,i⟩:=m5 f A w
 refine m ?_;try clear m
 rw [PS C] at i
 have L:l.length=t.length:=by (refine bT i.cC ?_;rw [et])
 refine sorted_strs (eN y) i.Yg (by lia) fun o P s z q=>?_
 rw [← KZ z q] at j
 obtain ⟨p,v⟩:=sortedAll_at c.heap l o
 exact tg (o:=p) f c.toks (fun r r=>sortedAll_old) (f.yY (fM _)) (f.pC (fM _)) (f.fY (fM _)) v (Mine.KY.acs s) j
def Yj(s:c7 a b d c){o:bl}{i:cj}(f:g5 a b.F o i):match tyK o with
  |.bX=>i=.none
  |.b3=>∃r,i=.bool r
  |.Z=>∃l m,i=.int l m
  |.ad=>∃l m,i=.str l m
  |.cQ=>∃j k n,i=.ref j∧c.heap.get? j=O (dl "tuple" k n)
  |.IH _=>True:=match o,f with
 |.bX,f=>f
 |.b3 _,f=>⟨_,f⟩
 |.Z _,f=>⟨_,f⟩
 |.ad _,f=>⟨_,f⟩
 |.cQ _,f=>by obtain ⟨j,k,n,q,p,_⟩:=f;exact ⟨j,k,n,q,s.ey _ _ p⟩
 |.a3 _,_=>trivial
 |.gJ _ _,_=>trivial
 |.fn _,_=>trivial
 |.kE _,_=>trivial
 |.bi _,_=>trivial
 |.ob _,_=>trivial
def K6(L:kc a)(F:a.yo=p0)(q:c7 a b d c){v r:cj}{t y:bl}{o:Bool}{K:KE}(w:g5 a b.F t v)(x:g5 a b.F y r)(p:Y4 t y=O o)(C:K (.f (.b3 o)) d):Wp a e (gg (.builtin "isinstance") [v,r]) (VP a b K) c:=by
 have j:∀u,VP a b K (.bool o) {c with toks:=u}:=fun u=>VP.b3 (q.qh u) C
 rcases ga p with ⟨_,p⟩|⟨T,z,p⟩
 ·refine bU fun m=>?_
  obtain ⟨n,R,f⟩:=cH p
  obtain rfl:=Yh R
  obtain rfl:r=a.yo n:=x
  refine m ?_;try clear m
  refine bT F ?_
  have k:=Yj q w
  unfold Vl at f
  generalize tyK t=l at k f
  by_cases i:n=Vg
  ·rw [if_pos i] at f
   refine bT i ?_
   induction l<;>cases f
   ·obtain ⟨o,rfl⟩:=k;exact IsiPair.bool_int (j _)
   ·obtain ⟨s,l,rfl⟩:=k;exact IsiPair.int_int (j _)
  rw [if_neg i] at f
  by_cases i:n=Nl
  ·rw [if_pos i] at f
   refine bT i ?_
   induction l<;>cases f
   ·obtain ⟨o,rfl⟩:=k;exact IsiPair.bool_bool (j _)
   ·obtain ⟨s,l,rfl⟩:=k;exact IsiPair.int_bool (j _)
   ·obtain ⟨s,l,rfl⟩:=k;exact IsiPair.str_bool (j _)
  rw [if_neg i] at f
  by_cases i:n=Vh
  ·rw [if_pos i] at f
   refine bT i ?_
   induction l<;>cases f
   obtain ⟨s,l,rfl⟩:=k;exact IsiPair.str_str (j _)
  rw [if_neg i] at f
  by_cases i:n=IG
  ·rw [if_pos i] at f
   refine bT i ?_
   induction l<;>cases f
   ·cases k;exact IsiPair.NoneType_tuple (j _)
   ·obtain ⟨Q,G,n,rfl,P⟩:=k;exact IsiPair.tuple_tuple P rfl (j _)
  ·rw [if_neg i] at f;exact cG f
 ·refine bU fun m=>?_
  obtain ⟨aa,I,f⟩:=cH p
  obtain rfl:=SU z
  obtain rfl:=xX I
  obtain ⟨i,f⟩:=eB f
  refine m ?_;try clear m
  obtain rfl:=dg f
  refine bU fun m=>?_
  obtain rfl:r=.ref (a.eS T):=x
  obtain ⟨Q,Y,G,g,ac,ae,rfl,W,h,X,af,A,ab⟩:=(F1 (g:=d) q w).ex
  refine m ?_;try clear m
  refine bT i ?_
  exact isi_call (q.F0 L) (fun ag=>A.type) (by unfold isIn;rw [beq_self_eq_true];rfl) (by nofun) (j _)
def uz{j:Type}{k:Nat→j→Prop}{n:j}{m:List j}(p:k 0 n)(o:∀{f i},m[f]? =O i→k (f+1) i){f:Nat}{i:j}(l:(n::m)[f]? =O i):k f i:=by
 induction f with
 |zero=>exact dg l▸p
 |succ f=>exact o l
def PU{f:Nat→(bS→Bool→bZ→Option (bZ×bS))→Prop}(s:f 0 Wl)(n:f 1 MN)(o:f 2 (vZ max))(r:f 3 (vZ min))(k:f 4 Wm)(q:f 5 Wn)(m:f 6 MO)(l:f 7 MP){i:Nat}{j:bS→Bool→bZ→Option (bZ×bS)}:Vn[i]? =O j→f i j:=
 uz s (uz (k:=fun i=>f (i+1)) n (uz (k:=fun i=>f (i+2)) o (uz (k:=fun i=>f (i+3)) r (uz (k:=fun i=>f (i+4)) k (uz (k:=fun i=>f (i+5)) q (uz (k:=fun i=>f (i+6)) m (uz (k:=fun i=>f (i+7)) l fun p=>cG p)))))))
def z5(v:e.handled=b1)(I:kc a)(p:a.yo=p0)(f:c7 a b d c){r:List cj}{s:List bZ}{fz:Bool}{j:Nat}{K:KE}(t:ef a b s r)(l:gy (eW d fz j s) K):Wp a e (gg (a.yo j) r) (VP a b K) c:=by
 refine bT p ?_
 cases o:Nat.beq j 8
 ·unfold eW at l
  rw [o] at l
  refine bU fun k=>?_
  obtain ⟨Q,L,m⟩:=c9 l
  obtain ⟨w,T,n⟩:=c9 m
  obtain ⟨q,rfl,i⟩:=t.o9 L
  refine k ?_;try clear k
  refine PU (f:=fun j w=>gy (w d fz Q) K→Wp a e (gg (p0 j) [q]) (VP a b K) c) ?_ ?_ ?_ ?_ ?_ ?_ ?_ ?_ T n
  ·exact K0 f i
  ·exact Ig f i
  ·exact K1 v f i
  ·exact K3 v f i
  ·exact K4 f i
  ·exact K5 f i
  ·exact Yi f i
  ·exact Ih f i
 ·refine bU fun k=>?_
  obtain rfl:=Nat.eq_of_beq_eq_true o
  obtain ⟨aa,F,m⟩:=c9 l
  obtain ⟨q,ae,rfl,x,u⟩:=t.XG F
  obtain ⟨W,G,n⟩:=c9 m
  obtain ⟨ac,z,y⟩:=c9 n
  obtain ⟨Y,ab,P,R⟩:=iE y
  obtain ⟨X,A,C⟩:=dC P
  refine k ?_;try clear k
  cases C
  rw [ik G] at x
  rw [ik z] at u
  exact K6 I p f x u A R
end
abbrev fF:=List (Nat×b4)
abbrev Sc:=List (b4×tV)
structure Sh(e:ce) where
 con:Option {p:Const×Nat×cS // e=.Constant p.1 p.2.1 p.2.2}:=b1
 cJ:Option {p:b4×cS // e=.Name p.1 p.2}:=b1
 eD:Option {p:ce×GL×ce×cS // e=.BinOp p.1 p.2.1 p.2.2.1 p.2.2.2}:=b1
 un:Option {p:UnaryOp×ce×cS // e=.UnaryOp p.1 p.2.1 p.2.2}:=b1
 b3:Option {p:BoolOp×List ce×cS // e=.BoolOp p.1 p.2.1 p.2.2}:=b1
 b7:Option {p:ce×List jK×List ce×cS // e=.Compare p.1 p.2.1 p.2.2.1 p.2.2.2}:=b1
 fx:Option {p:ce×ce×ce×cS // e=.IfExp p.1 p.2.1 p.2.2.1 p.2.2.2}:=b1
 b0:Option {p:ce×List ce×List GQ×cS // e=.Call p.1 p.2.1 p.2.2.1 p.2.2.2}:=b1
 bY:Option {p:ce×b4×cS // e=.Attribute p.1 p.2.1 p.2.2}:=b1
 fw:Option {p:ce×ce×cS // e=.Subscript p.1 p.2.1 p.2.2}:=b1
 fP:Option {p:Option ce×Option ce×Option ce×cS // e=.Slice p.1 p.2.1 p.2.2.1 p.2.2.2}:=b1
 cQ:Option {p:List ce×Nat×cS // e=.Tuple p.1 p.2.1 p.2.2}:=b1
 a3:Option {p:List ce×cS // e=.List p.1 p.2}:=b1
 F2:Option {p:ce×cS // e=.Starred p.1 p.2}:=b1
 d4:Option {p:List (Option ce)×List ce×cS // e=.Dict p.1 p.2.1 p.2.2}:=b1
 Zn:Option {p:ce×List jV×ji×cS // e=.ListComp p.1 p.2.1 p.2.2.1 p.2.2.2}:=b1
noncomputable def sh(e:ce):Sh e:=match e with
 |.Constant b a c=>{con:=O ⟨(b,a,c),rfl⟩}
 |.Name b a=>{cJ:=O ⟨(b,a),rfl⟩}
 |.BinOp b a c d=>{eD:=O ⟨(b,a,c,d),rfl⟩}
 |.UnaryOp b a c=>{un:=O ⟨(b,a,c),rfl⟩}
 |.BoolOp b a c=>{b3:=O ⟨(b,a,c),rfl⟩}
 |.Compare b a c d=>{b7:=O ⟨(b,a,c,d),rfl⟩}
 |.IfExp b a c d=>{fx:=O ⟨(b,a,c,d),rfl⟩}
 |.Call b a c d=>{b0:=O ⟨(b,a,c,d),rfl⟩}
 |.Attribute b a c=>{bY:=O ⟨(b,a,c),rfl⟩}
 |.Subscript b a c=>{fw:=O ⟨(b,a,c),rfl⟩}
 |.Slice b a c d=>{fP:=O ⟨(b,a,c,d),rfl⟩}
 |.Tuple b a c=>{cQ:=O ⟨(b,a,c),rfl⟩}
 |.List b a=>{a3:=O ⟨(b,a),rfl⟩}
 |.Starred b a=>{F2:=O ⟨(b,a),rfl⟩}
 |.Dict b a c=>{d4:=O ⟨(b,a,c),rfl⟩}
 |.ListComp b a c d=>{Zn:=O ⟨(b,a,c,d),rfl⟩}
 |_=>{}
def d2{b:Type}{c:b→Prop}{e:Option {a:b // c a}}{f:{a:b // c a}→Bool}{d:Prop}(g:e.any f=ar)(i:∀(a:b)(h:c a),f ⟨a,h⟩=ar→d):d:=by
 induction e with
 |none=>exact dy g
 |some a=>exact i a.1 a.2 g
def yt(c:ce)(b:Const→Nat→cS→Bool):Bool:=(sh c).con.any fun a=>b a.1.1 a.1.2.1 a.1.2.2
def Ff{e:ce}{d:Const→Nat→cS→Bool}{b:ce→Prop}(j:yt e d=ar)(i:∀g f c,d g f c=ar→b (.Constant g f c)):b e:=d2 j fun a h k=>h▸i a.1 a.2.1 a.2.2 k
def r0(c:ce)(b:b4→cS→Bool):Bool:=(sh c).cJ.any fun a=>b a.1.1 a.1.2
def k7{d:ce}{c:b4→cS→Bool}{a:ce→Prop}(i:r0 d c=ar)(h:∀f e,c f e=ar→a (.Name f e)):a d:=d2 i fun b g j=>g▸h b.1 b.2 j
def Jj(c:ce)(b:ce→GL→ce→cS→Bool):Bool:=(sh c).eD.any fun a=>b a.1.1 a.1.2.1 a.1.2.2.1 a.1.2.2.2
def PV{e:ce}{d:ce→GL→ce→cS→Bool}{b:ce→Prop}(k:Jj e d=ar)(j:∀h f c g,d h f c g=ar→b (.BinOp h f c g)):b e:=d2 k fun a i l=>i▸j a.1 a.2.1 a.2.2.1 a.2.2.2 l
def vg(c:ce)(b:UnaryOp→ce→cS→Bool):Bool:=(sh c).un.any fun a=>b a.1.1 a.1.2.1 a.1.2.2
def yu{e:ce}{d:UnaryOp→ce→cS→Bool}{b:ce→Prop}(j:vg e d=ar)(i:∀g f c,d g f c=ar→b (.UnaryOp g f c)):b e:=d2 j fun a h k=>h▸i a.1 a.2.1 a.2.2 k
def x0(c:ce)(b:BoolOp→List ce→cS→Bool):Bool:=(sh c).b3.any fun a=>b a.1.1 a.1.2.1 a.1.2.2
def A9{e:ce}{d:BoolOp→List ce→cS→Bool}{b:ce→Prop}(j:x0 e d=ar)(i:∀g f c,d g f c=ar→b (.BoolOp g f c)):b e:=d2 j fun a h k=>h▸i a.1 a.2.1 a.2.2 k
def Ba(c:ce)(b:ce→List jK→List ce→cS→Bool):Bool:=(sh c).b7.any fun a=>b a.1.1 a.1.2.1 a.1.2.2.1 a.1.2.2.2
def Ii{e:ce}{d:ce→List jK→List ce→cS→Bool}{b:ce→Prop}(k:Ba e d=ar)(j:∀h f c g,d h f c g=ar→b (.Compare h f c g)):b e:=d2 k fun a i l=>i▸j a.1 a.2.1 a.2.2.1 a.2.2.2 l
def Jk(c:ce)(b:ce→ce→ce→cS→Bool):Bool:=(sh c).fx.any fun a=>b a.1.1 a.1.2.1 a.1.2.2.1 a.1.2.2.2
def PW{e:ce}{d:ce→ce→ce→cS→Bool}{b:ce→Prop}(k:Jk e d=ar)(j:∀h f c g,d h f c g=ar→b (.IfExp h f c g)):b e:=d2 k fun a i l=>i▸j a.1 a.2.1 a.2.2.1 a.2.2.2 l
def r1(c:ce)(b:ce→List ce→List GQ→cS→Bool):Bool:=(sh c).b0.any fun a=>b a.1.1 a.1.2.1 a.1.2.2.1 a.1.2.2.2
def wH{e:ce}{d:ce→List ce→List GQ→cS→Bool}{b:ce→Prop}(k:r1 e d=ar)(j:∀h f c g,d h f c g=ar→b (.Call h f c g)):b e:=d2 k fun a i l=>i▸j a.1 a.2.1 a.2.2.1 a.2.2.2 l
def n3(c:ce)(b:ce→b4→cS→Bool):Bool:=(sh c).bY.any fun a=>b a.1.1 a.1.2.1 a.1.2.2
def p1{e:ce}{d:ce→b4→cS→Bool}{b:ce→Prop}(j:n3 e d=ar)(i:∀g f c,d g f c=ar→b (.Attribute g f c)):b e:=d2 j fun a h k=>h▸i a.1 a.2.1 a.2.2 k
def gW(c:ce)(b:ce→ce→cS→Bool):Bool:=(sh c).fw.any fun a=>b a.1.1 a.1.2.1 a.1.2.2
def kS{e:ce}{d:ce→ce→cS→Bool}{b:ce→Prop}(j:gW e d=ar)(i:∀g f c,d g f c=ar→b (.Subscript g f c)):b e:=d2 j fun a h k=>h▸i a.1 a.2.1 a.2.2 k
def Jl(c:ce)(b:Option ce→Option ce→Option ce→cS→Bool):Bool:=(sh c).fP.any fun a=>b a.1.1 a.1.2.1 a.1.2.2.1 a.1.2.2.2
def PX{e:ce}{d:Option ce→Option ce→Option ce→cS→Bool}{b:ce→Prop}(k:Jl e d=ar)(j:∀h f c g,d h f c g=ar→b (.Slice h f c g)):b e:=d2 k fun a i l=>i▸j a.1 a.2.1 a.2.2.1 a.2.2.2 l
def i9(c:ce)(b:List ce→Nat→cS→Bool):Bool:=(sh c).cQ.any fun a=>b a.1.1 a.1.2.1 a.1.2.2
def lA{e:ce}{d:List ce→Nat→cS→Bool}{b:ce→Prop}(j:i9 e d=ar)(i:∀g f c,d g f c=ar→b (.Tuple g f c)):b e:=d2 j fun a h k=>h▸i a.1 a.2.1 a.2.2 k
def F3(c:ce)(b:List ce→cS→Bool):Bool:=(sh c).a3.any fun a=>b a.1.1 a.1.2
def Jm{d:ce}{c:List ce→cS→Bool}{a:ce→Prop}(i:F3 d c=ar)(h:∀f e,c f e=ar→a (.List f e)):a d:=d2 i fun b g j=>g▸h b.1 b.2 j
def Bb(c:ce)(b:ce→cS→Bool):Bool:=(sh c).F2.any fun a=>b a.1.1 a.1.2
def Ij{d:ce}{c:ce→cS→Bool}{a:ce→Prop}(i:Bb d c=ar)(h:∀f e,c f e=ar→a (.Starred f e)):a d:=d2 i fun b g j=>g▸h b.1 b.2 j
def N2(c:ce)(b:List (Option ce)→List ce→cS→Bool):Bool:=(sh c).d4.any fun a=>b a.1.1 a.1.2.1 a.1.2.2
def SV{e:ce}{d:List (Option ce)→List ce→cS→Bool}{b:ce→Prop}(j:N2 e d=ar)(i:∀g f c,d g f c=ar→b (.Dict g f c)):b e:=d2 j fun a h k=>h▸i a.1 a.2.1 a.2.2 k
def yv(c:ce)(b:ce→List jV→ji→cS→Bool):Bool:=(sh c).Zn.any fun a=>b a.1.1 a.1.2.1 a.1.2.2.1 a.1.2.2.2
def Fg{e:ce}{d:ce→List jV→ji→cS→Bool}{b:ce→Prop}(k:yv e d=ar)(j:∀h f c g,d h f c g=ar→b (.ListComp h f c g)):b e:=d2 k fun a i l=>i▸j a.1 a.2.1 a.2.2.1 a.2.2.2 l
noncomputable def fO{a:Type}:List a→(a→List a→Bool)→Bool
 |b::d,c=>c b d
 |[],_=>b2
def d3{a:Type}{d:List a}{f:a→List a→Bool}{e:List a→Prop}(g:fO d f=ar)(h:∀b c,f b c=ar→e (b::c)):e d:=by
 induction d with
 |nil=>exact dy g
 |cons b c=>exact h b c g
def iq{c:Type}{a:List c}{b:List c→Prop}(e:a.isEmpty=ar)(d:b []):b a:=by
 induction a with
 |nil=>exact d
 |cons _ _=>exact dy e
def f4{a c:Bool}{b:Prop}(d:(a&&c)=ar)(e:a=ar→c=ar→b):b:=by
 induction a with
 |true=>exact e rfl d
 |false=>exact dy d
def g7{e d b:Bool}{c:Prop}(a:(e&&d&&b)=ar)(h:e=ar→d=ar→b=ar→c):c:=f4 a fun a i=>f4 a fun f g=>h f g i
def sA{f d b e:Bool}{c:Prop}(a:(f&&d&&b&&e)=ar)(h:f=ar→d=ar→b=ar→e=ar→c):c:=f4 a fun a i=>g7 a fun k j g=>h k j g i
def Dw{g e b f d:Bool}{c:Prop}(a:(g&&e&&b&&f&&d)=ar)(j:g=ar→e=ar→b=ar→f=ar→d=ar→c):c:=f4 a fun a k=>sA a fun m l i h=>j m l i h k
def Zo{h f b g e d:Bool}{c:Prop}(a:(h&&f&&b&&g&&e&&d)=ar)(k:h=ar→f=ar→b=ar→g=ar→e=ar→d=ar→c):c:=f4 a fun a l=>Dw a fun o m j i n=>k o m j i n l
def Zp{i g b h e d f:Bool}{c:Prop}(a:(i&&g&&b&&h&&e&&d&&f)=ar)(l:i=ar→g=ar→b=ar→h=ar→e=ar→d=ar→f=ar→c):c:=f4 a fun a m=>Zo a fun q n k j p o=>l q n k j p o m
def uA(b:ce)(c:b4):Bool:=(sh b).cJ.any fun a=>a.1.1==c
def N3(a:ce):Option b4:=(sh a).cJ.map fun b=>b.1.1
noncomputable def mx:ce→Bool
 |.ListComp .. |.SetComp .. |.DictComp .. =>ar
 |_=>b2
noncomputable def Hx:ce→Bool
 |.Set .. =>ar
 |_=>b2
def jy(a:ce):Bool:=(sh a).F2.isSome
def xj(a:ce):Bool:=(sh a).cJ.isSome||((sh a).bY.isSome||((sh a).fw.isSome||(sh a).d4.isSome))
noncomputable def fX:List Nat→fF→List ce→Bool
 |[],_,a=>a.isEmpty
 |f::e,b,a=>fO a fun c a=>r0 c fun d g=>b.contains (f,d)&&fX e b a
def yZ(c:List Nat)(e:Bool)(a:fF)(b:ce):Bool:=cond e (i9 b fun f d d=>fX c a f) (fX c a [b])
noncomputable def wI(c:Sc)(b:fF)(d:fF):fF:=b++d.filter fun a=>c.lookup a.2==O .free
noncomputable def v7(b:Sc)(c:List Nat)(d:fF)(a:Nat×b4):Bool:=cond (c.contains a.1) (b.lookup a.2==O .local) (d.contains a&&b.lookup a.2==O .free)
noncomputable def N4(b:ji)(c:Sc)(a:b4×tV):Bool:=(a.2 != .cell)&&(a.2 != .local||b.names.lookup a.1==O .local)&&(a.2 != .free||(c.lookup a.1==O .cell&&b.names.lookup a.1==O .free&& !(a.1==("__classdict__":b4))))
def Jo(a:ji)(b:Sc):Bool:=a.kind== .function&&a.names.all (N4 a b)
def PY(a:ce):List ce:=(sh a).cQ.elim [a] fun b=>b.1.1
def SW(a:Nat×ce):Option (Nat×b4):=(N3 a.2).map fun b=>(a.1,b)
def Fh(b:List Nat)(a:ce):fF:=(b.zip (PY a)).filterMap SW
noncomputable def Dc:kG→List jV→fF
 |.N,_=>[]
 |.J d _ _ _ c,a=>a.head?.elim [] fun b=>Fh d b.target++Dc c a.tail
noncomputable def Bc(a:fF):Bool:=dY (a.map (·.1)).Nodup&&dY (a.map (·.2)).Nodup
noncomputable def Yk:kG→Bool
 |.N=>ar
 |_=>b2
noncomputable def wJ:cv→Bool
 |.bX=>ar
 |_=>b2
noncomputable def Zq:Const→Option I4
 |.none=>O .bX
 |.bool a=>O (.b3 a)
 |.int c=>O (.Z c)
 |.str b=>O (.ad b)
 |_=>b1
noncomputable def I4.V5:I4→I4→Bool
 |.bX,.bX=>ar
 |.b3 a,.b3 b=>a==b
 |.Z a,.Z b=>a==b
 |.ad a,.ad b=>a==b
 |_,_=>b2
def Dd(d:ce)(c:I4):Bool:=yt d fun b a a=>(Zq b).any (I4.V5 c)
section
variable(d:rg)
mutual
noncomputable def mE(sc:Sc)(e9:fF):cv→ce→Bool
 |.bX,e=>Dd e .bX
 |.b3 b,e=>Dd e (.b3 b)
 |.Z i,e=>Dd e (.Z i)
 |.ad x,e=>Dd e (.ad x)
 |.bW x,e=>r0 e fun id q9=>e9.contains (x,id)&& !(id==("__debug__":b4))
 |.b5 g,e=>r0 e fun id q9=>(d.pS[g]?).any fun q=>q.1==id&&sc.lookup id==O .globalImplicit&& !(id==("__debug__":b4))
 |.eD _ op a b,e=>Jj e fun l o r q9=>dY (o=WG op)&&mE sc e9 a l&&mE sc e9 b r
 |.gn a,e=>vg e fun o x q9=>dY (o=.Not)&&mE sc e9 a x
 |.pQ a,e=>vg e fun o x q9=>dY (o=.USub)&&mE sc e9 a x
 |.ev xs,e=>x0 e fun o es q9=>dY (o=.And)&&ti sc e9 xs es
 |.hK xs,e=>x0 e fun o es q9=>dY (o=.Or)&&ti sc e9 xs es
 |.b7 a cs,e=>Ba e fun l os es q9=>mE sc e9 a l&&Yl sc e9 cs os es
 |.fx c a b,e=>Jk e fun t x y q9=>mE sc e9 c t&&mE sc e9 a x&&mE sc e9 b y
 |.b0 _ f args,e=>r1 e fun g as ks q9=>(sh g).cJ.isSome&&ks.isEmpty&&mE sc e9 f g&&ti sc e9 args as
 |.eQ o nm args,e=>r1 e fun g as ks pos=>n3 g fun v n ap=>nm==n&&ks.isEmpty&&ap.endLine==pos.line&&dY (as.length<29)&&xj v&&mE sc e9 o v&&ti sc e9 args as
 |.bY o nm,e=>n3 e fun v n q9=>nm==n&&xj v&&mE sc e9 o v
 |.cL o i,e=>gW e fun v sl q9=>!(sh sl).fP.isSome&&mE sc e9 o v&&mE sc e9 i sl
 |.fP _ o lo hi,e=>gW e fun v sl q9=>Jl sl fun l u st q9=>st.isNone&&mE sc e9 o v&&l.elim (wJ lo) (mE sc e9 lo)&&u.elim (wJ hi) (mE sc e9 hi)
 |.cQ xs,e=>i9 e fun es q9 q9=>ti sc e9 xs es
 |.a3 _ xs,e=>F3 e fun es q9=>ti sc e9 xs es
 |.tr x r,e=>F3 e fun es q9=>fO es fun a es=>fO es fun b es=>Bb b fun b q9=>es.isEmpty&& !jy a&&mE sc e9 x a&&mE sc e9 r b
 |.d4 kvs,e=>N2 e fun ks vs q9=>ks.all (·.isSome)&&dY (ks.length=vs.length)&& !ks.isEmpty&&dY (ks.length≤15)&&mKV sc e9 kvs ks vs
 |.ei _ elt gens,e=>yv e fun x gs c q9=>!gs.isEmpty&&dY (h5 gens).Nodup&&Jo c sc&&(wI c.names (Dc gens gs) e9).all (v7 c.names (h5 gens) e9)&&Bc (wI c.names (Dc gens gs) e9)&&zH sc e9 c.names (wI c.names (Dc gens gs) e9) gens gs&&mE c.names (wI c.names (Dc gens gs) e9) elt x
 |.pR a,e=>xj e&&mE sc e9 a e
 |.sN,_=>ar
noncomputable def ti(sc:Sc)(e9:fF):dS→List ce→Bool
 |.N,es=>es.isEmpty
 |.J a r,es=>fO es fun e es=>!jy e&&mE sc e9 a e&&ti sc e9 r es
noncomputable def Yl(sc:Sc)(e9:fF):se→List jK→List ce→Bool
 |.N,os,es=>os.isEmpty&&es.isEmpty
 |.J op a r,os,es=>fO os fun o os=>fO es fun e es=>dY (o=Dv op)&& !Hx e&&mE sc e9 a e&&Yl sc e9 r os es
noncomputable def mKV(sc:Sc)(e9:fF):dS→List (Option ce)→List ce→Bool
 |.N,ks,vs=>ks.isEmpty&&vs.isEmpty
 |.J k r,ks,vs=>fO ks fun ko ks=>ko.any fun e=>mE sc e9 k e&&acu sc e9 r ks vs
noncomputable def acu(sc:Sc)(e9:fF):dS→List (Option ce)→List ce→Bool
 |.N,_,_=>b2
 |.J v r,ks,vs=>fO vs fun e vs=>mE sc e9 v e&&mKV sc e9 r ks vs
noncomputable def Ym(sc:Sc)(e9:fF):ub→ce→Bool
 |.cE a,e=>!Hx e&&mE sc e9 a e
 |.gb a,e=>r1 e fun g as ks q9=>uA g "range"&&sc.lookup ("range":b4)==O .globalImplicit&&ks.isEmpty&&fO as fun x as=>as.isEmpty&& !jy x&&mE sc e9 a x
 |.yC a,e=>r1 e fun g as ks q9=>uA g "enumerate"&&sc.lookup ("enumerate":b4)==O .globalImplicit&&ks.isEmpty&&fO as fun x as=>as.isEmpty&& !jy x&&mE sc e9 a x
 |.zt a b,e=>r1 e fun g as ks q9=>uA g "zip"&&sc.lookup ("zip":b4)==O .globalImplicit&&ks.isEmpty&&fO as fun x as=>fO as fun y as=>as.isEmpty&& !jy x&& !jy y&&mE sc e9 a x&&mE sc e9 b y
noncomputable def zH(sc:Sc)(e9:fF)(sc':Sc)(QY:fF):kG→List jV→Bool
 |.N,gs=>gs.isEmpty
 |.J xs wO it ifs r,gs=>fO gs fun g gs=>dY (g.is_async=0)&&Ym sc e9 it g.iter&&yZ xs wO QY g.target&&ti sc' QY ifs g.ifs&&zH sc' QY sc' QY r gs
end
end
inductive oq(env:du)(T:di)(nm:b4)(u:Option cj):Prop
 |bW (hk:env.kindOf nm=O .local) (o:eb) (m:b4→Option cj) (e:T env.locals=O o) (ns:jp o m) (h:m nm=u)
 |ir (hk:env.kindOf nm=O .cell∨env.kindOf nm=O .free) (hn:(nm==("__classdict__":b4))=b2) (c:cz) (o:eb) (hc:env.cells.lookup nm=O c) (e:T c=O o) (h:o.data=.cell u)
structure eU(W:Wd)(g:dQ)(env:du)(sc:Sc)(e9:fF)(ρ:cV):Prop where
 dm:env.scope.kind=.function
 mR:env.globals=pJ
 m6:env.builtins=qH
 b5:∀id,sc.lookup id=O .globalImplicit→env.kindOf id=O .globalImplicit
 ir:∀id,sc.lookup id=O .cell→env.kindOf id=O .cell∧∃c,env.cells.lookup id=O c
 bW:∀id,sc.lookup id=O .local→env.kindOf id=O .local
 inj:∀n n' c,env.cells.lookup n=O c→env.cells.lookup n'=O c→n=n'
 hF:∀n c,env.cells.lookup n=O c→c≠env.locals
 Jp:∃o,g.T env.locals=O o∧∃m,jp o m
 Ex:∀n c,env.cells.lookup n=O c→∃o,g.T c=O o
 Yn:(e9.map (·.1)).Nodup
 Yo:(e9.map (·.2)).Nodup
 mT:∀p∈e9,∃u,oq env g.T p.2 u∧∀v,ρ[p.1]?.join=O v→∃w,u=O w∧dU W g v w
def cY(b:du)(a:cz):Prop:=a=b.locals∨∃c,b.cells.lookup c=O a
structure At(W:Wd)(d:Nat)(A:d9)(g:dQ)(σ:bS)(s:cM)(env:du)(sc:Sc)(e9:fF)(ρ:cV):Prop where
 a:xi A d
 S:c7 W g σ s
 E:eU W g env sc e9 ρ
section
variable{e:Wd}{c i:dQ}{j:bS}{g:cM}{l:d9}{k:Nat}{b:du}{h:Sc}{d:fF}{f:cV}
def eU.h8(o:eU e c b h d f){n:cz}(m:cY b n):c.T n≠b1:=fun p=>by
 rcases m with rfl|⟨r,m⟩
 ·obtain ⟨q,a,_⟩:=o.Jp;rw [p] at a;exact cG a
 ·obtain ⟨q,a⟩:=o.Ex r n m;rw [p] at a;exact cG a
def oq.BV{q v:di}{r:b4}{u:Option cj}(a:oq b q r u)(t:∀p,cY b p→v p=q p):oq b v r u:=by
 induction a with
 |bW m n z o x a=>exact .bW m n z ((t _ (.inl rfl)).trans o) x a
 |ir m y w n s o a=>exact .ir m y w n s ((t _ (.inr ⟨_,s⟩)).trans o) a
def eU.cO{u:cz→Prop}(n:eU e c b h d f)(t:Le u c i)(o:∀a,u a→¬cY b a):eU e i b h d f:=
 have p:∀a,cY b a→i.T a=c.T a:=fun a C=>t.T a fun s=>o a s C
 {n with
  Jp:=by obtain ⟨q,m,A⟩:=n.Jp;exact ⟨q,(p _ (.inl rfl)).trans m,A⟩
  Ex:=fun v r o=>by obtain ⟨q,m⟩:=n.Ex v r o;exact ⟨q,(p _ (.inr ⟨v,o⟩)).trans m⟩
  mT:=fun s z=>let ⟨F,a,y⟩:=n.mT s z;⟨F,a.BV p,fun w m=>let ⟨x,r,k⟩:=y w m;⟨x,r,k.cO t⟩⟩}
def At.cc{a:bS}{m:cM}(n:At e k l c j g b h d f)(o:pY c i)(p:c7 e i a m):At e k l i a m b h d f:=⟨n.a,p,n.E.cO o fun r q=>q.elim⟩
def Ik(u:c7 e c j g)(m:eU e c b h d f){v:Nat}{A:b4}{o:bZ}{y:cj→cM→Prop}(Q:(v,A)∈d)(p:f[v]?.join=O o)(r:∀s,dU e c o s→y s g):Wp e l (loadName b A) y g:=by
 refine bU fun z=>?_
 obtain ⟨s,C,G⟩:=m.mT _ Q
 obtain ⟨F,rfl,q⟩:=G o p
 refine z ?_;try clear z
 induction C with
 |bW a x R n I p=>exact Ut m.dm a (I.eH (u.hN _ _ n)) p (r _ q)
 |ir a K P x t n L=>
  have w:g.heap.IsCell P (O F):=⟨x,u.hN _ _ n,L⟩
  rcases a with a|a
  ·exact Uu m.dm a t w (r _ q)
  ·exact Uv m.dm a t w (r _ q) K
def Be{y w:Type}:∀{m:List (y×w)}{t:y}{v u:w},(m.map (·.1)).Nodup→(t,v)∈m→(t,u)∈m→v=u:=by
 intro m
 induction m with
 |nil=>
  intro K F G o n q
  first|exact cG q|exact absurd q gD|exact Bool.noConfusion q|exact False.elim q|exact cG n|exact nomatch n|exact Bool.noConfusion n|exact False.elim n|exact cG o|exact nomatch o|exact Bool.noConfusion o|exact False.elim o
 |cons I L z=>
  intro t v u C r a
  obtain ⟨p,A⟩:=vU.mp C
  rcases eP.mp r with x|r
  ·rcases eP.mp a with s|a
   ·exact (Vc (x.trans s.symm)).2
   ·exact absurd (Cf (f:=(·.1)) a) (by rw [← x] at p;exact p)
  ·rcases eP.mp a with s|a
   ·exact absurd (Cf (f:=(·.1)) r) (by rw [← s] at p;exact p)
   ·exact z A r a
def PZ{d:fF}{n:Nat}{a m:b4}(p:(d.map (·.1)).Nodup)(q:(n,a)∈d)(o:(n,m)∈d):a=m:=Be p q o
def P0{d:fF}{o n:Nat}{a:b4}(q:(d.map (·.2)).Nodup)(r:(o,a)∈d)(p:(n,a)∈d):o=n:=by
 refine Be (m:=d.map fun m=>(m.2,m.1)) ?_ (hJ.mpr ⟨_,r,rfl⟩) (hJ.mpr ⟨_,p,rfl⟩)
 refine bT lO ?_;exact q
def De{f:cV}{n m:Nat}{q o:bZ}(a:(f.set n (O q))[m]?.join=O o):(n=m∧o=q)∨(n≠m∧f[m]?.join=O o):=by
 by_cases p:n=m
 ·subst p
  rw [TY] at a
  refine .inl ⟨rfl,?_⟩
  cases r:f[n]? with
  |none=>rw [r] at a;exact cG a
  |some s=>rw [r] at a;exact (dg a).symm
 ·rw [pi p] at a;exact .inr ⟨p,a⟩
def xk(b:du)(a:b4)(m:cz):Prop:=(b.kindOf a=O .local∧m=b.locals)∨((b.kindOf a=O .cell∨b.kindOf a=O .free)∧b.cells.lookup a=O m)
def xk.h8{n:b4}{m:cz}(a:xk b n m):cY b m:=by
 rcases a with ⟨_,rfl⟩|⟨_,a⟩
 ·exact .inl rfl
 ·exact .inr ⟨n,a⟩
def Yp{m:eb}{q n:b4→Option cj}(v:jp m q)(r:jp m n):n=q:=by
 refine bU fun p=>?_
 obtain ⟨A,z,s,y,u⟩:=v
 obtain ⟨w,C,a,x,t⟩:=r
 refine p ?_;try clear p
 rw [s] at a;cases a
 exact funext fun o=>(t o).symm.trans (u o)
def c7.QZ(o:c7 e c j g){n:cz}{r s:eb}{p:eu}(u:Nat)(w:c.T n=O r)(v:t5 n g.heap p)(x:p.get? n=O s):c7 e ⟨c.F,c.T.d7 n s,c.α⟩ j {g with heap:=p,toks:=u}:=by
 refine o.KN (fun a=>a=n) u (fun a z=>⟨r,z▸w⟩) (fun a t y m=>(v.2 a y).trans m) fun a t m=>?_
 by_cases q:a=n
 ·subst q
  rw [di.eF] at m
  obtain rfl:=dg m
  exact ⟨x,o.qo w⟩
 ·rw [di.fe _ _ q] at m
  exact ⟨(v.2 a q).trans (o.hN a t m),o.qo m⟩
def eU.zE(r:eU e c b h d f){w:Nat}{u:b4}{x:bZ}{v:cj}{p:cz}{q:eb}(A:(w,u)∈d)(L:dU e c x v)(I:∀R z,b.cells.lookup R=O z→∃o,(c.T.d7 p q) z=O o)(Q:∃o,(c.T.d7 p q) b.locals=O o∧∃s,jp o s)
  (K:∀a∈d,∀m,oq b c.T a.2 m→oq b (c.T.d7 p q) a.2 (if a.2=u then O v else m)):eU e ⟨c.F,c.T.d7 p q,c.α⟩ b h d (f.set w (O x)):=by
 refine {r with Jp:=Q,Ex:=I,mT:=fun a n=>?_}
 refine bU fun y=>?_
 obtain ⟨m,C,G⟩:=r.mT a n
 refine y ?_;try clear y
 refine ⟨_,K a n m C,fun s t=>?_⟩
 rcases De t with ⟨F,rfl⟩|⟨P,t⟩
 ·refine bT (if_pos (PZ r.Yn (show (a.1,a.2)∈d from n) (F▸A))) ?_
  exact ⟨v,rfl,L⟩
 ·have:¬a.2=u:=fun T=>P (P0 r.Yo A (T▸(show (a.1,a.2)∈d from n)))
  refine bT (if_neg this) ?_
  exact G s t
def q6(P:c7 e c j g)(m:eU e c b h d f){ag:Nat}{q:b4}{ak:bZ}{ab:cj}{Y:Unit→cM→Prop}(v:(ag,q)∈d)(Q:dU e c ak ab)
  (ao:∀i ae,Le (xk b q) c i→eU e i b h d (f.set ag (O ak))→c7 e i j ae→Y () ae):Wp e l (storeName b q ab) Y g:=by
 refine bU fun s=>?_
 obtain ⟨aC,aq,_⟩:=m.mT _ v
 refine s ?_;try clear s
 have ac:∀w(ai:Prop),b.kindOf w=O .local→(b.kindOf w=O .cell∨b.kindOf w=O .free)→ai:=fun w ai aw I=>by
  rcases I with I|I<;>(rw [aw] at I;cases I)
 induction aq with
 |bW o r aF n an aG=>
  refine wpAny_storeName_local o (an.eH (P.hN _ _ n)) (fun C aD aa=>?_) (by refine bT m.dm ?_;rfl)
  refine bU fun s=>?_
  obtain ⟨K,T,af⟩:=jp.eI aD
  refine s ?_;try clear s
  refine ao ⟨c.F,c.T.d7 b.locals K,c.α⟩ _ ⟨k4.cy _,jU _,fun ay X=>di.fe _ _ fun a=>X (.inl ⟨o,a⟩)⟩ ?_ (P.QZ (g.toks+1) n aa T)
  refine m.zE v Q (fun w t v=>let ⟨r,n⟩:=m.Ex w t v;⟨r,(di.fe _ _ (m.hF _ _ v)).trans n⟩) ⟨_,di.eF _ _ _,_,af⟩ fun G av au R=>?_
  induction R with
  |bW p A am u W y=>
   rw [n] at u;obtain rfl:=dg u
   obtain rfl:=Yp an W
   refine .bW p K _ (di.eF _ _ _) af ?_
   by_cases a:G.2=q
   ·(refine bT (if_pos a) ?_;refine bT (if_pos a) ?_;rfl)
   ·(refine bT (if_neg a) ?_;refine bT (if_neg a) ?_);exact y
  |ir p L z A F u y=>
   refine bT (if_neg (show¬G.2=q from fun a=>ac q False o (a▸p))) ?_
   exact .ir p L z A F ((di.fe _ _ (m.hF _ _ F)).trans u) y
 |ir o aH t r x n aB=>
  have al:g.heap.IsCell t aC:=⟨r,P.hN _ _ n,aB⟩
  have ah:∀C,C.IsCell t (O ab)→t5 t g.heap C→Y () {g with heap:=C}:=by
   intro C aA aa
   refine bU fun s=>?_
   obtain ⟨K,T,az⟩:=aA
   refine s ?_;try clear s
   refine ao ⟨c.F,c.T.d7 t K,c.α⟩ _ ⟨k4.cy _,jU _,fun ay X=>di.fe _ _ fun a=>X (.inr ⟨o,a▸x⟩)⟩ ?_ (P.QZ g.toks n aa T)
   refine m.zE v Q (fun w z v=>?_) (let ⟨r,n,Q⟩:=m.Jp;⟨r,(di.fe _ _ (m.hF _ _ x).symm).trans n,Q⟩) fun G av au R=>?_
   ·by_cases a:z=t
    ·subst a;exact ⟨_,di.eF _ _ _⟩
    ·obtain ⟨r,n⟩:=m.Ex w z v;exact ⟨r,(di.fe _ _ a).trans n⟩
   induction R with
   |bW p A am u W y=>
    refine bT (if_neg (show¬G.2=q from fun a=>ac q False (a▸p) o)) ?_
    exact .bW p A am ((di.fe _ _ (m.hF _ _ x).symm).trans u) W y
   |ir p L z A F u y=>
    by_cases a:G.2=q
    ·refine bT (if_pos a) ?_
     exact .ir p L t K (by refine bT a ?_;exact x) (di.eF _ _ _) az
    ·refine bT (if_neg a) ?_
     exact .ir p L z A F ((di.fe _ _ fun aE=>a (m.inj _ _ _ (aE▸F) x)).trans u) y
  rcases o with o|o
  ·exact wpAny_storeName_cell m.dm o x al ah
  ·unfold storeName
   simp only [o,m.dm]
   exact c5 (wpAny_cellOf x (wpAny_cellSet al ah))
end
noncomputable def o7(b:Wd)(a:Nat):cj:=cond (jJ a 1000) (.ref (b.jT a)) (.ref (b.eS (a-1000)))
def xl(c:Wd)(a:cj):Prop:=(∃d,a=.builtin d)∨(∃b,a=.type b)∨lR c.K a=ar
def BW(a:Wd)(i:Nat)(j:cK):Prop:=∀(f:Nat)(d:List bZ)(e:bS)(K:KE),j f d e K→∀(b:dQ)(g:cM)(c:List cj)(h:d9),xi h i→c7 a b e g→ef a b d c→Wp a h (gg (o7 a f) c) (VP a b K) g
def zL(a:Wd)(e:Nat)(f:cK):Prop:=(kc a)∧(a.yo=p0)∧(∀b,(a.T.p9[b]?).isSome=ar→lR a.K (.ref (a.jT b))=ar)∧(∀b,(a.T.p9[b]?).isSome=ar→jJ b 1000=ar)∧(∀(c:Nat)(b:lb),a.T.e7[c]? =O b→∀d∈b.kH,lR a.K (.ref (a.jT d.2))=ar)∧(BW a e f)
section
variable{a:Wd}{d:Nat}{c:cK}(b:zL a d c)
include b
def zL.cF:kc a:=b.1
def zL.bi:a.yo=p0:=b.2.1
def zL.cR:∀e,(a.T.p9[e]?).isSome=ar→lR a.K (.ref (a.jT e))=ar:=b.2.2.1
def zL.C8:∀e,(a.T.p9[e]?).isSome=ar→jJ e 1000=ar:=b.2.2.2.1
def zL.Nf:∀(f:Nat)(e:lb),a.T.e7[f]? =O e→∀g∈e.kH,lR a.K (.ref (a.jT g.2))=ar:=b.2.2.2.2.1
def zL.Ng:BW a d c:=b.2.2.2.2.2
end
structure rH(W:Wd)(A:d9)(g:dQ)(s:cM)(e:ce)(env:du)(V:KE→Prop):Prop where
 d8:∀K,V K→Wp W A (fk e env) (VP W g K) s
 m4:∀{K2:KE}(K:Bool→bS→Prop),(∀m σ,K2 m σ→lS K m σ)→V K2→Wp W A (Cq e env (fk e env)) (TP W g K) s
def e4(a:Wd)(l:Nat)(m:cK)(b:cv):Prop:=∀{c:Sc}{d:fF}{f:ce}{k:d9}{g:dQ}{i:bS}{j:cM}{h:du}{e:cV},mE a.T c d b f=ar→At a l k g i j h c d e→rH a k g j f h (vE ⟨a.T,m⟩ b e i)
section
variable{a:Wd}{e i:dQ}{d:bS}{g:cM}{h:d9}{c:Nat}{b:cK}
def rH.eI{f:ce}{j:du}{n:KE→Prop}(m:∀K,n K→Wp a h (fk f j) (VP a e K) g)(p:Cq f j (fk f j)=(do let l ← fk f j;qJ f.pos;pK [l] (tY l))):rH a h e g f j n:=
 ⟨m,fun K o k=>wpAny_isTrue_value ((m _ k).vp fun w t x v u q s r k=>(n0 (s:=Unit) r s (o _ _ k)).ux q) p⟩
def acv{f j:I4}(k:I4.V5 f j=ar):f=j:=by
 induction f<;>induction j<;>first|rfl|exact congrArg _ (dr k)|exact dy k
def P1{j:Const}{k:I4}(l:Zq j=O k):(j=.none∧k=.bX)∨(∃f,j=.bool f∧k=.b3 f)∨(∃f,j=.int f∧k=.Z f)∨∃f,j=.str f∧k=.ad f:=by
 induction j<;>first|exact cG l|(obtain rfl:=dg l;first|exact .inl ⟨rfl,rfl⟩|exact .inr (.inl ⟨_,rfl,rfl⟩)|exact .inr (.inr (.inl ⟨_,rfl,rfl⟩))|exact .inr (.inr (.inr ⟨_,rfl,rfl⟩)))
def Bf{k:I4}{l:ce}(p:Dd l k=ar){r:du}(j:c7 a e d g):rH a h e g l r fun K=>K (.f k.x) d:=by
 apply Ff p
 intro f v u q
 refine bU fun n=>?_
 obtain ⟨t,s,o⟩:=jC q
 obtain rfl:=acv o
 refine n ?_;try clear n
 rcases P1 s with ⟨rfl,rfl⟩|⟨m,rfl,rfl⟩|⟨m,rfl,rfl⟩|⟨m,rfl,rfl⟩
 ·exact .eI (fun K f=>wpAny_Constant_none (VP.f (f:=.bX) j rfl f)) rfl
 ·exact .eI (fun K f=>wpAny_Constant_bool (VP.b3 j f)) rfl
 ·exact .eI (fun K f=>wpAny_Constant_int (VP.Z (j.qh _) f)) rfl
 ·exact .eI (fun K f=>wpAny_Constant_str (VP.ad (j.qh _) f)) rfl
def aa2(p:Nat):e4 a c b (.bW p):=fun l f=>by
 apply k7 l
 intro s t n
 refine f4 n fun o k=>.eI (fun K j=>?_) rfl
 obtain ⟨r,m,j⟩:=fj j
 exact wpAny_Name (Ik f.S f.E (rb.mp o) m fun u q=>VP.m f.S q j) (B5 _ |>.mp k)
def Yq(G:kc a)(m:Nat):e4 a c b (.b5 m):=fun n j=>by
 apply k7 n
 intro C ab I
 refine bU fun f=>?_
 obtain ⟨⟨t,z⟩,u,v⟩:=jC I
 refine f ?_;try clear f
 refine g7 v fun L A R=>.eI (fun K l=>?_) rfl
 refine bU fun f=>?_
 obtain rfl:t=C:=dr L
 obtain ⟨aa,r,l⟩:=fj l
 refine f ?_;try clear f
 rw [show (⟨a.T,b⟩:gp).T.pS[m]? =_ from u] at r
 obtain rfl:=dg r
 refine bU fun f=>?_
 obtain ⟨T,ac,s,P,k⟩:=G.pS m t z u
 refine f ?_;try clear f
 have p:=j.S
 have o:∀{Q:cz}{F:b4→Option cj},a.eG.Ns Q F→_:=fun y=>y.keeps fun W X w=>p.kR w
 have q:=VP.f p (g5.cO p.kQ P) l
 refine Va j.E.dm (j.E.b5 _ (dr A)) ?_ (B5 _ |>.mp R)
 rcases k with k|⟨k,Y,x,n⟩
 ·exact loadGlobal_global (by refine bT j.E.mR ?_;exact o s) k q
 ·exact Vb (by refine bT j.E.mR ?_;exact o s) k (by refine bT j.E.m6 ?_;exact o x) n q
def aa3(fz:Bool)(t:z8){k f:cv}(w:e4 a c b k)(o:e4 a c b f):e4 a c b (.eD fz t k f):=fun s m=>by
 apply PV s
 intro G P T aa v
 refine g7 v fun C n y=>?_
 obtain rfl:=of_decide_eq_true C
 refine .eI (fun K p=>wpAny_BinOp (((w n m).d8 _ p).vp fun ab Q L F X l r A z=>?_)) rfl
 refine ((o y (m.cc l A)).d8 _ z).vp fun I ac Y R W j x q u=>?_
 exact (KR q (r.cO j) x u).hZ (l.ci j)
def aa4{m:cv}(w:e4 a c b m):e4 a c b (.gn m):=fun u C=>by
 apply yu u
 intro L I W k
 refine f4 k fun A o=>?_
 obtain rfl:=of_decide_eq_true A
 have n:=w o C
 refine ⟨fun K j=>wpAny_UnaryOp ((n.d8 _ j).vp fun G X r F T z s y x=>?_),fun K k j=>wpAny_isTrue_Not ?_⟩
 ·exact not_value ((n0 (s:=Unit) y s x).cO fun R Y v=>by obtain ⟨P,Q,t,q,f⟩:=v;exact VP.hZ (z.ci t) (VP.b3 q f))
 ·refine n.m4 (fun l d=>K (!l) d) (fun r d f=>?_) j
  obtain ⟨l,p,f⟩:=fj f
  unfold lS
  refine bT p ?_
  exact k _ _ f
def aa5{f:cv}(o:e4 a c b f):e4 a c b (.pQ f):=fun m t=>by
 apply yu m
 intro y w A n
 refine f4 n fun s j=>?_
 obtain rfl:=of_decide_eq_true s
 exact .eI (fun K k=>wpAny_UnaryOp (((o j t).d8 _ k).vp fun v C x u z r l q p=>(KT q l p).hZ r)) rfl
def aa6{j q n:cv}(v:e4 a c b j)(x:e4 a c b q)(w:e4 a c b n):e4 a c b (.fx j q n):=fun F k=>by
 apply PW F
 intro o L Q P p
 refine g7 p fun A u y=>?_
 refine ⟨fun K r=>wpAny_IfExp (((v A k).m4 (fun o d=>pT o (vE _ q _ d K) (vE _ n _ d K)) (fun s s t=>t) r).ve fun j I C G f m l=>?_),fun {z} K p r=>c5 (((v A k).m4 (fun o d=>pT o (vE _ q _ d z) (vE _ n _ d z)) (fun s s t=>t) r).ve fun j I C G f m l=>?_)⟩
 ·induction j with
  |true=>exact ((x u (k.cc f m)).d8 _ l).hZ f
  |false=>exact ((w y (k.cc f m)).d8 _ l).hZ f
 ·induction j with
  |true=>exact ((x u (k.cc f m)).m4 _ p l).ux f
  |false=>exact ((w y (k.cc f m)).m4 _ p l).ux f
def k8{k:Type}{f:Option k}(l:f.isSome=ar):∃j,f=O j:=F7.mp l
def P2{n:ce}(f:xj n=ar):(∃k j,n=.Name k j)∨(∃k j m,n=.Attribute k j m)∨(∃k j m,n=.Subscript k j m)∨∃k j m,n=.Dict k j m:=by
 rcases nR.mp f with f|f
 ·obtain ⟨l,_⟩:=k8 f
  exact .inl ⟨_,_,l.2⟩
 rcases nR.mp f with f|f
 ·obtain ⟨l,_⟩:=k8 f
  exact .inr (.inl ⟨_,_,_,l.2⟩)
 rcases nR.mp f with f|f
 ·obtain ⟨l,_⟩:=k8 f
  exact .inr (.inr (.inl ⟨_,_,_,l.2⟩))
 ·obtain ⟨l,_⟩:=k8 f
  exact .inr (.inr (.inr ⟨_,_,_,l.2⟩))
def BX{f:ce}(o:xj f=ar){j:du}:(∀n l,attributeBase f n j l=l)∧Cq f j (fk f j)=(do let k ← fk f j;qJ f.pos;pK [k] (tY k)):=by
 rcases P2 o with ⟨_,_,rfl⟩|⟨_,_,_,rfl⟩|⟨_,_,_,rfl⟩|⟨_,_,_,rfl⟩<;>exact ⟨fun m m=>rfl,rfl⟩
def Yr(o:kc a){f:cv}(j:b4)(u:e4 a c b f):e4 a c b (.bY f j):=fun n x=>by
 apply p1 n
 intro A s G p
 refine g7 p fun w k q=>?_
 obtain rfl:j=s:=dr w
 refine .eI (fun K l=>Attribute_any_ (((u q x).d8 _ l).vp fun z I C y F v m t r=>(H4 o t m r).hZ v) ?_) rfl
 rw [arm_eval_Attribute,(BX k).1]
def aa7{u:cv}(L:e4 a c b u):e4 a c b (.pR u):=fun o W=>by
 refine f4 o fun x o=>?_
 have T:=L o W
 refine .eI (fun K y=>(T.d8 _ y).vp fun ac ah ag ab R v s k P=>?_) (BX x).2
 ·rcases oS P with ⟨_,j⟩|⟨q,l,j⟩
  ·refine bU fun f=>?_
   obtain ⟨F,G,j,p⟩:=iE j
   obtain ⟨af,n,m⟩:=dC j
   obtain rfl:=ik n
   refine f ?_;try clear f
   cases m
   exact ⟨_,_,R,v,s,k,p⟩
  ·refine bU fun f=>?_
   obtain rfl:=lz l
   obtain ⟨F,G,j,p⟩:=iE j
   obtain ⟨ae,n,m⟩:=dC j
   refine f ?_;try clear f
   cases m
   refine bU fun f=>?_
   obtain ⟨r,rfl,l⟩:=s
   obtain ⟨w,A,X,I,Q⟩:=k.rZ l n
   obtain ⟨z,t⟩:=(k.acq q).uw I w (k.jx r (gj l)) fun C aa=>by
    have:q=C:=by
     apply MG
     intro Y
     exact Ep k.pZ l aa Y rfl
    (refine gT this ?_;rw [Gj (k.cC▸(fJ.mp l).1)])
   refine f ?_;try clear f
   refine ⟨_,_,_,v.ci t,?_,z,p⟩
   exact ⟨r,A,X,rfl,di.eF _ _ _,Q.cO t.F⟩
end
def Zr(b:Wd)(e:dQ)(K:List bZ→bS→Prop)(g:List cj)(f:cM):Prop:=∃d c a,pY e a∧ef b a d g∧c7 b a c f∧K d c
def vh(a:Wd)(m:Nat)(n:cK)(g:dS):Prop:=∀{b:Sc}{c:fF}{i:List ce}{k:d9}{e:dQ}{h:bS}{j:cM}{f:du}{d:cV},ti a.T b c g i=ar→At a m k e h j f b c d→∀(l:cS)(K:List bZ→bS→Prop),II ⟨a.T,n⟩ g d h K→Wp a k (sa (pL l (nK i f))) (Zr a e K) j
structure Hy(W:Wd)(A:d9)(g:dQ)(s:cM)(op:BoolOp)(es:List ce)(env:du)(V:KE→Prop):Prop where
 d8:∀pos K,V K→Wp W A (boolOp pos op (lQ es env)) (VP W g K) s
 m4:∀{K2:KE}(K:Bool→bS→Prop),(∀m σ,K2 m σ→lS K m σ)→V K2→Wp W A (allTrue op es env) (TP W g K) s
def v8(a:Wd)(l:Nat)(m:cK)(g:dS):Prop:=∀{b:Sc}{c:fF}{i:List ce}{k:d9}{e:dQ}{h:bS}{j:cM}{f:du}{d:cV},ti a.T b c g i=ar→At a l k e h j f b c d→Hy a k e j .And i f (QR ⟨a.T,m⟩ g d h)
def Dx(a:Wd)(l:Nat)(m:cK)(g:dS):Prop:=∀{b:Sc}{c:fF}{i:List ce}{k:d9}{e:dQ}{h:bS}{j:cM}{f:du}{d:cV},ti a.T b c g i=ar→At a l k e h j f b c d→Hy a k e j .Or i f (Y7 ⟨a.T,m⟩ g d h)
section
variable{a:Wd}{g h:dQ}{b:bS}{f:cM}{e:d9}{d:Nat}{c:cK}
def Wp.ms{l:gl (List cj)}{K:List bZ→bS→Prop}{m:List cj→cM→Prop}(s:Wp a e l (Zr a g K) f)(r:∀k j n i h,pY g h→ef a h n k→c7 a h i j→K n i→m k j):Wp a e l m f:=s.cO fun p j o=>by obtain ⟨w,i,h,t,v,u,q⟩:=o;exact r p j w i h t v u q
def eC{i:Bool}(j:(!i)=ar):i=b2:=(B5 i).mp j
def oT{i:ce}{k:List ce}{j:du}(l:jy i=b2):nK (i::k) j=(b2,fk i j)::nK k j:=by
 cases i<;>first|rfl|exact dy l
theorem tI{p:rg}{r:Sc}{q:fF}{l:du}{m:cS}:∀{k:dS}{i:List ce},ti p r q k i=ar→(pL m (nK i l)).any (·.1)=b2∧(pL m (nK i l)).all (fun n=>!n.1)=ar
 |.N,i,j=>by refine bT (l0.mp j) ?_;exact ⟨rfl,rfl⟩
 |.J n k,i,j=>by
  apply d3 j
  intro w i j
  refine g7 j fun s v u=>?_
  obtain ⟨o,t⟩:=tI (k:=k) u
  refine bT (oT (eC s)) ?_
  exact ⟨o,t⟩
def jh{i:ce}{m:List ce}{j:du}{k:cS}{l:List cj→cM→Prop}(q:jy i=b2)(r:Wp a e (fk i j) (fun n p=>Wp a e (sa (pL k (nK m j))) (fun o s=>l (n::o) s) p) f):Wp a e (sa (pL k (nK (i::m) j))) l f:=spliced_more r (by (refine bT (oT q) ?_;rfl))
def Ys:vh a d c .N:=fun i k l K j=>by
 refine bT (l0.mp i) ?_
 exact G0 ⟨[],_,_,.cy _,rfl,k.S,j⟩
def Jq{k:cv}{l:dS}(z:e4 a d c k)(v:vh a d c l):vh a d c (.J k l):=fun i n L K p=>by
 apply d3 i
 intro R T i
 refine g7 i fun s y P=>?_
 refine jh (eC s) (((z y n).d8 _ p).vp fun o X t Q W m u G F=>?_)
 refine (v P (n.cc m G) L _ F).ms fun C Y r w I j A q x=>?_
 exact ⟨t::r,w,I,m.ci j,⟨o,C,rfl,u.cO j,A⟩,q,x⟩
def SX{n:cv}(p:e4 a d c n):v8 a d c (.J n .N):=fun i q=>by
 apply d3 i
 intro t v i
 refine g7 i fun s j r=>?_
 apply iq r
 have m:=p j q
 refine ⟨fun u K k=>m.d8 K k,fun K j k=>Uq ((m.m4 K j k).cO fun o w l=>?_)⟩
 induction o with
 |true=>exact wpAny_allTrue_And_nil l
 |false=>exact l
def Yt{n:cv}(p:e4 a d c n):Dx a d c (.J n .N):=fun i q=>by
 apply d3 i
 intro t v i
 refine g7 i fun s j r=>?_
 apply iq r
 have m:=p j q
 refine ⟨fun u K k=>m.d8 K k,fun K j k=>Ur ((m.m4 K j k).cO fun o w l=>?_)⟩
 induction o with
 |true=>exact l
 |false=>exact wpAny_allTrue_Or_nil l
def aa8{k:KE}{K:Bool→bS→Prop}(p:∀i b,k i b→lS K i b){n:bS→KE→Prop}{i:bZ}{b:bS}(j:Wr k n i b):lS (fun l b=>pT l (n b k) (K b2 b)) i b:=by
 refine bU fun o=>?_
 obtain ⟨l,m,j⟩:=fj j
 refine o ?_;try clear o
 unfold lS
 refine bT m ?_
 induction l
 ·have:=p _ _ j
  unfold lS at this
  rw [m] at this
  exact this
 ·exact j
def acw{k:KE}{K:Bool→bS→Prop}(p:∀i b,k i b→lS K i b){n:bS→KE→Prop}{i:bZ}{b:bS}(j:kOr k n i b):lS (fun l b=>pT l (K ar b) (n b k)) i b:=by
 refine bU fun o=>?_
 obtain ⟨l,m,j⟩:=fj j
 refine o ?_;try clear o
 unfold lS
 refine bT m ?_
 induction l
 ·exact j
 ·have:=p _ _ j
  unfold lS at this
  rw [m] at this
  exact this
def Jr{l:List ce}{m:rg}{o:Sc}{n:fF}{r:cv}{s:dS}{k:List ce→Prop}(q:ti m o n (.J r s) l=ar)(p:∀j i,k (j::i)):k l:=d3 q fun j i t=>p j i
def P3{C r:cv}{q:dS}(ac:e4 a d c C)(z:v8 a d c (.J r q)):v8 a d c (.J C (.J r q)):=fun {aa R m e g b f ah ag} u v=>by
 apply d3 u
 intro I m u
 refine g7 u fun am ab l=>?_
 have G:=ac ab v
 refine Jr (k:=fun m=>ti a.T aa R (.J r q) m=ar→Hy a e g f _ (I::m) ah _) l (fun aq an l=>?_) l
 refine ⟨fun ai K t=>?_,fun {ae} K w t=>Uq ((G.m4 (K2:=Wr ae (QR ⟨a.T,c⟩ (.J r q) ag)) _ (fun Q Q=>aa8 w) t).ve fun k ak s F i p o=>?_)⟩
 ·refine c5 ((G.d8 _ t).vp fun al ak X s F i y p o=>c5 (oy (c5 (iH ?_))))
  refine bU fun j=>?_
  obtain ⟨T,L,A⟩:=fj o
  refine j ?_;try clear j
  refine (n0 (s:=Unit) (K:=fun k b=>k=T∧b=s) p y (by refine bT L ?_;exact ⟨rfl,rfl⟩)).cO fun k au Y=>?_
  refine bU fun j=>?_
  obtain ⟨ao,af,n,x,W,P⟩:=Y
  refine j ?_;try clear j
  subst W P
  induction k with
  |true=>exact ((z l (v.cc (i.ci n) x)).d8 ai _ A).hZ (i.ci n)
  |false=>exact fR ⟨X,_,af,i.ci n,y.cO n,x,A⟩
 ·induction k with
  |true=>exact ((z l (v.cc i p)).m4 K w o).ux i
  |false=>exact ⟨s,F,i,p,o⟩
def SY{C r:cv}{q:dS}(ac:e4 a d c C)(z:Dx a d c (.J r q)):Dx a d c (.J C (.J r q)):=fun {aa R m e g b f ah ag} u v=>by
 apply d3 u
 intro I m u
 refine g7 u fun am ab l=>?_
 have G:=ac ab v
 refine Jr (k:=fun m=>ti a.T aa R (.J r q) m=ar→Hy a e g f _ (I::m) ah _) l (fun aq an l=>?_) l
 refine ⟨fun ai K t=>?_,fun {ae} K w t=>Ur ((G.m4 (K2:=kOr ae (Y7 ⟨a.T,c⟩ (.J r q) ag)) _ (fun Q Q=>acw w) t).ve fun k ak s F i p o=>?_)⟩
 ·refine c5 ((G.d8 _ t).vp fun al ak X s F i y p o=>c5 (oy (c5 (iH ?_))))
  refine bU fun j=>?_
  obtain ⟨T,L,A⟩:=fj o
  refine j ?_;try clear j
  refine (n0 (s:=Unit) (K:=fun k b=>k=T∧b=s) p y (by refine bT L ?_;exact ⟨rfl,rfl⟩)).cO fun k au Y=>?_
  refine bU fun j=>?_
  obtain ⟨ao,af,n,x,W,P⟩:=Y
  refine j ?_;try clear j
  subst W P
  induction k with
  |false=>exact ((z l (v.cc (i.ci n) x)).d8 ai _ A).hZ (i.ci n)
  |true=>exact fR ⟨X,_,af,i.ci n,y.cO n,x,A⟩
 ·induction k with
  |false=>exact ((z l (v.cc i p)).m4 K w o).ux i
  |true=>exact ⟨s,F,i,p,o⟩
def aa9{k:dS}(p:v8 a d c k):e4 a d c (.ev k):=fun m q=>by
 apply A9 m
 intro s t u o
 refine f4 o fun r l=>?_
 obtain rfl:=of_decide_eq_true r
 have j:=p l q
 exact ⟨fun K i=>by rw [arm_eval_BoolOp];exact j.d8 _ K i,fun K n i=>Uw (j.m4 K n i)⟩
def acx{k:dS}(p:Dx a d c k):e4 a d c (.hK k):=fun m q=>by
 apply A9 m
 intro s t u o
 refine f4 o fun r l=>?_
 obtain rfl:=of_decide_eq_true r
 have j:=p l q
 exact ⟨fun K i=>by rw [arm_eval_BoolOp];exact j.d8 _ K i,fun K n i=>Uw (j.m4 K n i)⟩
end
def K7(a:Wd)(l:d9)(d:dQ)(i:cM)(h:cS)(k:cj)(c:List jK)(b:List ce)(e:du)(m:(Bool→bS→Prop)→Prop):Prop:=(∀K:KE,m (sp K)→Wp a l (zg h k c (mz c b (lQ b e))) (VP a d K) i)∧(∀{f:KE}(K:Bool→bS→Prop),(∀j g,f j g→lS K j g)→m (sp f)→Wp a l (zj h k c (mz c b (lQ b e))) (TP a d K) i)
section
variable{a:Wd}{j:d9}{d:dQ}{h:cM}{g:cS}{i:cj}{c:List jK}{b:List ce}{f:du}{k:(Bool→bS→Prop)→Prop}(e:K7 a j d h g i c b f k)
include e
def K7.d8:∀K:KE,k (sp K)→Wp a j (zg g i c (mz c b (lQ b f))) (VP a d K) h:=e.1
def K7.m4:∀{n:KE}(K:Bool→bS→Prop),(∀m l,n m l→lS K m l)→k (sp n)→Wp a j (zj g i c (mz c b (lQ b f))) (TP a d K) h:=e.2
end
def Bg(a:Wd)(p:Nat)(q:cK)(e:se):Prop:=∀{c:Sc}{d:fF}{m:List jK}{i:List ce}{n:d9}{b:dQ}{h:bS}{j:cM}{g:du}{f:cV}{k:bZ}{l:cj}{o:cS},Yl a.T c d e m i=ar→At a p n b h j g c d f→dU a b k l→K7 a n b j o l m i g (W7 ⟨a.T,q⟩ e f k h)
section
variable{b:Wd}{g i:dQ}{d:bS}{j:cM}{e:d9}{k:Nat}{h:cK}{c:du}
def Yu{f:jK}{a:ce}(n:Hx a=b2)(l:gl cj):markedBehindIn f a l=l:=by
 have m:behindInMarks f a=b2:=by
  unfold behindInMarks
  induction f<;>cases a<;>first|rfl|exact dy n
 unfold markedBehindIn
 (refine bT m ?_;rfl)
def Bh{m:jK}{l:ce}:∀{f:List jK}{a:List ce},∃n o,mz (m::f) (l::a) (lQ (l::a) c)=n::o:=by
 intro f
 induction f with
 |nil=>
  intro a
  rcases a with _|⟨_,_⟩
  ·exact ⟨_,_,rfl⟩
  ·exact ⟨_,_,rfl⟩
 |cons _ _ p=>
  intro a
  rcases a with _|⟨_,_⟩
  ·exact ⟨_,_,rfl⟩
  ·exact ⟨_,_,rfl⟩
def tJ(I:kc b){G:Sc}{F:fF}{n:cV}(Y:At b k e g d j c G F n){l:cv}{p:ce}(W:rH b e g j p c (vE ⟨b.T,h⟩ l n d)){s:Fo}{v:bZ}{x:cj}(R:dU b g v x){K:bZ→Bool→bS→Prop}(A:vE ⟨b.T,h⟩ l n d fun a d=>lu (fh b.T d s v a) fun f=>K a f d)
  {u:cj→cj→cM→Prop} (X:∀a f o m t i,pY g i→dU b i m a→c7 b i t o→K m f t→u a (.bool f) o):Wp b e (fk p c) (fun a r=>Wp b e (zi (Dv s) x a) (u a) r) j:=
 (W.d8 _ A).vp fun a r m y T w q P Q=>by
  obtain ⟨f,z,L⟩:=fj Q
  refine (KQ I P Y.a.aaZ (R.cO w) q z).cO fun ab aa ⟨l,C⟩=>?_
  refine bT l ?_
  exact X a f aa m y T w q C L
def Yv(A:kc b){z:Fo}{x:cv}(T:e4 b k h x):Bg b k h (.J z x .N):=fun {ah ae Q P e g d j c ak ai am al} m v F=>by
 apply d3 m
 intro ag Q m
 apply d3 m
 intro r P m
 refine sA m fun R Y ac n=>f4 n fun n aa=>?_
 obtain rfl:=of_decide_eq_true R
 (refine bT (l0.mp n) ?_;refine bT (l0.mp aa) ?_)
 have G:=T ac v
 have y:mz [Dv z] [r] (lQ [r] c)=[fk r c] :=congrArg (· :: []) (Yu (eC Y) _)
 refine ⟨fun K o=>?_,fun {ab} K L o=>?_⟩
 ·refine bT y ?_
  exact c5 (iH ((tJ A v G F (K:=fun f l d=>K (.f (.b3 l)) d) o (u:=fun f t a=>VP b g K t a) fun s l a W C i p f q u=>(VP.b3 q u).hZ p).cO fun s X w=>c5 (oy (wpAny_operating w))))
 ·refine bT y ?_
  refine c5 (iH ((tJ A v G F (K:=fun f l d=>ab (.f (.b3 l)) d) o (u:=fun f t a=>Wp b e (tY t) (TP b g K) a) fun s l a W C i p f q u=>?_).cO fun s X w=>c5 (oy (c5 (wpAny_operating (w.cO fun af an I=>iH I))))))
  exact GA ⟨C,i,p,q,L _ _ u⟩
def acy{r:jK}{a:jK}{m:ce}{o:List jK}{l:List ce}{n:cj}{q:cS}{s:gl cj}:zg q n (r::a::o) (s::mz (a::o) (m::l) (lQ (m::l) c))=(do
  let f ← pK [n] s
  qJ q
  let p ← pK [n,f] (zi r n f)
  release [n,f] [p]
  if ← pK [p,f] (tY p) then zg q f (a::o) (mz (a::o) (m::l) (lQ (m::l) c)) else ej p):=by
 refine bU fun t=>?_
 obtain ⟨v,w,u⟩:=Bh (c:=c) (m:=a) (l:=m) (f:=o) (a:=l)
 refine t ?_;try clear t
 refine bT u ?_;rfl
def acz{r:jK}{a:jK}{m:ce}{o:List jK}{l:List ce}{n:cj}{q:cS}{s:gl cj}:zj q n (r::a::o) (s::mz (a::o) (m::l) (lQ (m::l) c))=(do
  let f ← pK [n] s
  qJ q
  let p ← pK [n,f] (zi r n f)
  release [n,f] [p]
  if ← pK [p,f] (tY p) then zj q f (a::o) (mz (a::o) (m::l) (lQ (m::l) c)) else ej b2):=by
 refine bU fun t=>?_
 obtain ⟨v,w,u⟩:=Bh (c:=c) (m:=a) (l:=m) (f:=o) (a:=l)
 refine t ?_;try clear t
 refine bT u ?_;rfl
def aba{b:Wd}{q:Sc}{r:fF}{p:Fo}{s:cv}{t:se}{f:List jK}{a:List ce}{o:List jK→List ce→Prop}(n:Yl b.T q r (.J p s t) f a=ar)(u:∀l f m a,Yl b.T q r (.J p s t) (l::f) (m::a)=ar→o (l::f) (m::a)):o f a:=by
 rcases f with _|⟨l,f⟩
 ·exact dy n
 rcases a with _|⟨m,a⟩
 ·exact dy n
 exact u l f m a n
def SZ(aa:kc b){z y:Fo}{X x:cv}{C:se}(ai:e4 b k h X)(Y:Bg b k h (.J y x C)):Bg b k h (.J z X (.J y x C)):=fun {av aq f a e g d j c af ay G u} s v ae=>by
 apply d3 s
 intro au f s
 apply d3 s
 intro P a s
 refine sA s fun ah aw an w=>?_
 obtain rfl:=of_decide_eq_true ah
 refine aba (o:=fun f a=>K7 b e g j u G (Dv z::f) (P::a) c _) w fun m f n a w=>?_
 have ag:=ai an v
 refine ⟨fun K L=>(?_:Wp b e (zg u G (Dv z::m::f) (fk P c::mz (m::f) (n::a) (lQ (n::a) c))) _ j),fun {ac} K W L=>(?_:Wp b e (zj u G (Dv z::m::f) (fk P c::mz (m::f) (n::a) (lQ (n::a) c))) _ j)⟩
 ·refine bT acy ?_
  refine c5 (iH ((tJ aa v ag ae (K:=fun l p d=>pT p (W7 ⟨b.T,h⟩ (.J y x C) af l d (sp K)) (sp K b2 d)) L (u:=fun l A q=>Wp b e (tY A) (fun Q I=>Wp b e (if Q=ar then zg u l (m::f) (mz (m::f) (n::a) (lQ (n::a) c)) else ej A) (VP b g K) I) q) fun l p q al ab i o R r t=>?_).cO fun l am T=>c5 (oy (c5 (iH (T.cO fun ak ao F=>c5 (GF (c5 (iH F)))))))))
  refine GA ?_
  induction p with
  |true=>exact ((Y w (v.cc o r) R).d8 K t).hZ o
  |false=>exact fR ((VP.b3 r t).hZ o)
 ·refine bT acz ?_
  refine c5 (iH ((tJ aa v ag ae (K:=fun l p d=>pT p (W7 ⟨b.T,h⟩ (.J y x C) af l d (sp ac)) (sp ac b2 d)) L (u:=fun l A q=>Wp b e (tY A) (fun Q I=>Wp b e (if Q=ar then zj u l (m::f) (mz (m::f) (n::a) (lQ (n::a) c)) else ej b2) (TP b g K) I) q) fun l p q al ab i o R r t=>?_).cO fun l am T=>c5 (oy (c5 (iH (T.cO fun ak ao F=>c5 (GF (c5 (iH F)))))))))
  refine GA ?_
  induction p with
  |true=>exact ((Y w (v.cc o r) R).m4 K W t).ux o
  |false=>exact fR ⟨ab,i,o,r,W _ _ t⟩
def abb{t:cv}{r:se}(s:e4 b k h t)(q:Bg b k h r):e4 b k h (.b7 t r):=fun {R Q G e g d j c T} z f=>by
 apply Ii z
 intro L P I W A
 refine f4 A fun u p=>?_
 refine ⟨fun K l=>?_,fun K v l=>?_⟩
 ·rw [arm_eval_Compare]
  exact c5 (((s u f).d8 _ l).vp fun x F y w C a m o n=>((q p (f.cc a o) m).d8 K n).hZ a)
 ·rw [arm_isTrue_Compare]
  exact c5 (((s u f).d8 _ l).vp fun x F y w C a m o n=>((q p (f.cc a o) m).m4 K v n).ux a)
end
section
variable{a:Wd}{g i:dQ}{h:bS}{d:cM}{e:d9}{c:Nat}{b:cK}
def P4{f:ce}(l:(sh f).fP.isSome=b2)(j k:cj):GG f b2 j k=operate [j,k] (tW j k):=by
 unfold GG
 cases f<;>first|rfl|exact dy l
def abc(s:kc a){k f:cv}(A:e4 a c b k)(z:e4 a c b f):e4 a c b (.cL k f):=fun r m=>by
 apply kS r
 intro L I Y u
 refine g7 u fun C n w=>?_
 refine .eI (fun K o=>Subscript_ (((A n m).d8 _ o).vp fun G aa Q F W l q y x=>?_)) rfl
 refine ((z w (m.cc l y)).d8 _ x).vp fun P ab X R T j v p t=>?_
 exact (KV s p (q.cO j) v t (P4 (eC C))).hZ (l.ci j)
def Yw{f:cv}{j:cv→Prop}(l:wJ f=ar)(k:j .bX):j f:=by
 cases f<;>first|exact k|exact dy l
def Ey{f:cv}(r:e4 a c b f){o:Sc}{n:fF}{l:Option ce}{p:du}{k:cV}(m:l.elim (wJ f) (mE a.T o n f)=ar)(q:At a c e g h d p o n k){K:KE}(j:vE ⟨a.T,b⟩ f k h K):Wp a e (valueOrNone (evalOpt l p)) (VP a g K) d:=by
 induction l with
 |some s=>exact (r m q).d8 _ j
 |none=>exact Yw (j:=fun f=>vE ⟨a.T,b⟩ f k h K→_) m (fun j=>fR (VP.f (f:=.bX) q.S rfl j)) j
def S0(fz:Bool){o p q:cv}(Y:e4 a c b o)(aa:e4 a c b p)(t:e4 a c b q):e4 a c b (.fP fz o p q):=fun L m=>by
 apply kS L
 intro A n ab j
 refine PX (b:=fun n=>rH _ _ _ _ (.Subscript A n ab) _ _) j fun ah ae z an j=>sA j fun ac s R F=>?_
 obtain rfl:z=b1:=B4.mp ac
 refine .eI (fun K u=>Subscript_ (((Y s m).d8 _ u).vp fun ae ao am ag az l I X W=>?_)) rfl
 rw [arm_eval_Slice]
 refine c5 ((Ey aa R (m.cc l X) W).vp fun aq aC aA au aw f Q w P=>?_)
 refine c5 (iH ((Ey t F (m.cc (l.ci f) w) P).vp fun av ai aB af ay k G v x=>?_))
 refine c5 (iH (fR ?_))
 refine bU fun r=>?_
 obtain ⟨al,ak,C,T,y⟩:=Fe (g:=_) v (I.cO (f.ci k)) (Q.cO k) G x
 refine r ?_;try clear r
 exact UB (Cu T C (y.hZ (l.ci (f.ci k))) rfl)
def qU{f:Nat}(j:f≤100000):f≤lP:=by unfold lP;lia
def tj{j k:Nat}{K:Unit→Prop}(f:lu (sn j k) K):j≤k∧K ():=by
 obtain ⟨m,f,l⟩:=fj f
 exact ⟨(eB f).1,l⟩
def abd{k:dS}(u:vh a c b k):e4 a c b (.cQ k):=fun w G=>by
 apply lA w
 intro P W T y
 refine .eI (fun K q=>Ml ((u y G _ _ q).ms fun m p Q I R F v f A=>?_)) rfl
 refine bU fun n=>?_
 obtain ⟨t,o,x⟩:=v.uP A
 obtain ⟨z,r⟩:=tj x
 have j:=dX p.heap.objs.size
 obtain ⟨s,l⟩:=(f.d0 (dl "tuple" m 0)).uw (j:=p.heap.objs.size) (oz _ rfl) (f.yY j) (f.pC j) fun L C=>absurd (gj C) (f.fY j)
 refine n ?_;try clear n
 exact ⟨qU (o.cC.symm▸z),.f (.cQ t),_,_,F.ci l,⟨_,m,0,rfl,di.eF _ _ _,o.cO l.F⟩,s,r⟩
def Yx(fz:Bool){f:dS}(m:vh a c b f):e4 a c b (.a3 fz f):=fun o t=>by
 apply Jm o
 intro v A p
 refine .eI (fun K l=>Uy ((m p t _ _ l).ms fun y C w u z s n r q=>?_)) rfl
 obtain ⟨x,k,j⟩:=n.uP q
 exact ⟨qU (k.cC.symm▸pD j),(oR r k j).hZ s⟩
def vH{m:cz}{k:Bool}{n:List cj}{o:Nat}{l:Bool→cM→Prop}(f:d.heap.get? m=O (dl (cond k "tuple" "list") n o))(j:l b2 d):Wp a e (GD (.ref m)) l d:=by
 unfold GD
 induction k
 ·exact c5 (wpAny_specialOf ⟨_,f,rfl⟩ PySem.F.slot_list_iter.lookup (fR j))
 ·exact c5 (wpAny_specialOf ⟨_,f,rfl⟩ PySem.F.slot_tuple_iter.lookup (fR j))
def P5{m q:bZ}{K:KE}(p:gy (Fr h m q) K):∃k j v o,m=.f k∧q=.f j∧si j=O (v,o)∧gy (iI h ar (k::o)) K:=by
 induction m with
 |f k=>
  refine bU fun r=>?_
  obtain ⟨w,l,t⟩:=c9 p
  obtain ⟨j,s,l⟩:=cH l
  obtain ⟨n,u,rfl⟩:=dC l
  refine r ?_;try clear r
  exact ⟨k,j,n.1,n.2,rfl,ik s,u,t⟩
 |_=>exact p.elim
def Yy{s y:cv}(Q:e4 a c b s)(W:e4 a c b y):e4 a c b (.tr s y):=fun {az av aq e g h d l aC} X A=>by
 apply Jm X
 intro f k j
 refine d3 (e:=fun f=>rH a e g d (.List f k) l _) j fun o f j=>d3 (e:=fun f=>rH a e g d (.List (o::f) k) l _) j fun t f j=>Ij (a:=fun t=>rH a e g d (.List (o::t::f) k) l _) j fun u Y j=>sA j fun al C ae P=>iq (b:=fun f=>rH a e g d (.List (o:: .Starred u Y::f) k) l _) al ?_
 refine .eI (fun K I=>Uy (jh (eC C) (((Q ae A).d8 _ I).vp fun am aa ay ao aD z T ai ah=>?_))) rfl
 show Wp a e (sa [(ar,do let L ← fk u _;qJ k;ej L)]) _ aa
 rw [sa]
 refine c5 (c5 (((W P (A.cc z ai)).d8 _ ah).vp fun aw an aE aA aB v ac q ab=>c5 (oy (fR ?_))))
 refine bU fun x=>?_
 obtain ⟨af,aG,R,G,rfl,rfl,ak,p⟩:=P5 ab
 obtain ⟨m,ag,aF,rfl,w,r⟩:=mf q ac rfl ak
 refine x ?_;try clear x
 have n:=pD p
 rw [lZ,← r.cC] at n
 refine c5 (m:=GD (.ref m)) (vH (a:=a) w ?_)
 refine c5 (m:=collect (.ref m)) (wpAny_collect_seq m (by induction R;exact .inl rfl;exact .inr rfl) w rfl rfl (fun au F=>?_) (by refine bT iy ?_;exact qU (lC n)))
 refine c5 (iH (spliced_nil (fR ?_)))
 rw [kX]
 exact ⟨qU n,(oR (i:=af::G) (q.iO an.toks F) ⟨am,ag,rfl,T.cO v,r⟩ p).hZ (z.ci v)⟩
def abe:e4 a c b .sN:=fun j l=>⟨fun K f=>f.elim,fun K k f=>f.elim⟩
def Yz:e4 a c b .bX:=fun f j=>Bf (k:=.bX) f j.S
def YA(f:Bool):e4 a c b (.b3 f):=fun j k=>Bf (k:=.b3 f) j k.S
def abf(f:Int):e4 a c b (.Z f):=fun j k=>Bf (k:=.Z f) j k.S
def abg(f:b4):e4 a c b (.ad f):=fun j k=>Bf (k:=.ad f) j k.S
end
section
variable{b:Wd}{h j:dQ}{i:bS}{e:cM}{d:d9}{c:Nat}{g:cK}
def vi{p:cj}{k:List (Bool×gl cj)}(l:k.any (·.1)=b2){m:List cj→cM→Prop}(a:Wp b d (sa k) m e):n9 (i5 b.dP b.w) d (evalArgs p ar k []) (fun r s=>∃f,r=⟨f,[]⟩∧m f s) (fun n n=>False) e:=by
 match k,l,a with
 |[],_,a=>
  unfold evalArgs
  show n9 _ d (sa [] >>=_) _ _ e
  refine c5 (Wp.mQ a fun f q o=>?_)
  exact c5 (fR (iH (c5 (fR (c5 (fR (fR ⟨f,rfl,o⟩)))))))
 |(ar,t)::k,l,_=>exact dy l
 |(b2,t)::k,l,a=>exact evalArgs_plain (Wp.mQ a fun f q a=>⟨f,rfl,a⟩)
def p2{v:cS}{q:cj}{r:List cj}{p:List (Bool×gl cj)}{s:cj→cM→Prop}(w:xl b q)(f:p.any (·.1)=b2)
  (a:Wp b d (sa p) (fun o n=>b.K.In n.heap∧Wp b d (gg q (r++o)) s n) e):Wp b d (GN v q r p []) s e:=by
 rcases w with ⟨x,rfl⟩|⟨y,rfl⟩|u
 ·exact Calls.callWith_builtin f (Cm (vi f a) (fun t n m=>by obtain ⟨o,l,a⟩:=m;refine bT l ?_;exact a.2) fun k k a=>a)
 ·exact PySem.callWith_type f (Cm (vi f a) (fun t n m=>by obtain ⟨o,l,a⟩:=m;refine bT l ?_;exact a.2) fun k k a=>a)
 ·exact callWith_of (P:=b.K.In) (by refine bT f ?_;rfl) (keeps_K u) (Cm (vi f a) (fun t n m=>by obtain ⟨o,l,a⟩:=m;refine bT l ?_;exact a) fun k k a=>a)
def jg{n:Type}{l:b4}{h:n}:∀(f:List (b4×n)),f.lookup l=O h→(l,h)∈f:=by
 intro f
 induction f with
 |nil=>
  intro k
  first|exact cG k|exact nomatch k|exact Bool.noConfusion k|exact False.elim k
 |cons p f o=>
  obtain ⟨q,r⟩:=p
  intro a
  rw [Ci] at a
  cases m:l==q with
  |true=>rw [m] at a;(refine bT (dr m) ?_;refine gT (dg a) ?_);exact fD ..
  |false=>rw [m] at a;exact ia _ (o a)
def Ez(o:kc b)(u:c7 b h i e){f:cj}{k:Nat}{v:List bZ}{q:b4}{n:oC}{w:gl Bool}{p:cj×List cj→cM→Prop}(F:Hw b h e f k v)(l:z9 b.T k q=O n)(G:p (th b n,[f]) e):Wp b d (getMethod f q w) p e:=by
 refine bU fun a=>?_
 obtain ⟨R,x,L,c,Q,T,rfl,m,y,K,W,s,C⟩:=F.ex
 obtain ⟨X,r,l⟩:=cH l
 refine a ?_;try clear a
 rw [m] at r
 obtain rfl:=dg r
 refine bU fun a=>?_
 obtain ⟨P,I,rfl⟩:=dC l
 have g:=o.e7 k x m
 obtain ⟨A,z,t⟩:=g.kH _ (jg _ I)
 refine a ?_;try clear a
 exact method_fn (u.F0 o) s g.uy g.SQ A t (by unfold shadowIn;dsimp only;(rewrite [A5 C];refine bT (y.acp _ z) ?_);rfl) G
def EA{f c:Prop}[Decidable f][Decidable c]{m:Type}{o n:m}{a:m}(k:(if f then O o else if c then O n else b1)=O a):(f∧o=a)∨(c∧n=a):=by
 by_cases l:f
 ·rw [if_pos l] at k;exact .inl ⟨l,dg k⟩
 ·rw [if_neg l] at k
  exact .inr (let ⟨p,a⟩:=eB k;⟨p,dg a⟩)
def Il(u:kc b)(l:c7 b h i e){q:cj}{G:b4}{y:oC}{P:gl Bool}{C:cj×List cj→cM→Prop}(p:C (th b y,[q]) e):∀{t:bZ},dU b h t q→jN b.T i t G=O y→Wp b d (getMethod q G P) C e
 |.cq K,n,a=>by
  refine bU fun f=>?_
  obtain ⟨W,rfl,F⟩:=n
  refine f ?_;try clear f
  rcases ga a with ⟨_,a⟩|⟨Y,Q,a⟩
  ·refine bU fun f=>?_
   obtain ⟨x,r,a⟩:=cH a
   obtain ⟨m,a⟩:=eB a
   refine f ?_;try clear f
   obtain rfl:=dg a
   subst m
   refine bU fun f=>?_
   obtain ⟨I,ab,L,X,o,v,ak⟩:=l.A2 F r
   refine f ?_;try clear f
   have A:e.heap.DictOf (i8 b.dP b.w) W X:=zl.mpr ⟨L,o,v⟩
   exact GC (T:="dict") A.typeIs UR GX UW A.mapOf.noDict p
  ·refine bU fun f=>?_
   obtain ⟨I,ae,ai,o,ag⟩:=l.rZ F Q
   refine f ?_;try clear f
   rcases EA a with ⟨m,k⟩|⟨m,k⟩
   ·subst m k
    exact GC (T:="list") ⟨_,o,rfl⟩ US ME PySem.F.type_list_append (fun z k=>by cases k;exact ⟨_,o,rfl⟩) p
   ·subst m k
    exact GC (T:="list") ⟨_,o,rfl⟩ US MF PySem.F.type_list_pop (fun z k=>by cases k;exact ⟨_,o,rfl⟩) p
 |.fK K,n,a=>by
  refine bU fun f=>?_
  obtain ⟨T,s,a⟩:=cH a
  refine f ?_;try clear f
  exact Ez u l (N0 l n s) a p
 |.f aa,n,a=>by
  rcases ga a with ⟨_,a⟩|⟨c,v,a⟩
  ·refine bU fun f=>?_
   obtain ⟨T,s,a⟩:=cH a
   obtain rfl:=xX s
   refine f ?_;try clear f
   exact Ez u l (F1 l n) a p
  ·refine bU fun f=>?_
   obtain ⟨m,a⟩:=eB a
   obtain ⟨x,r,k⟩:=dC a
   obtain rfl:=rG v
   subst m k
   obtain rfl:q=.ref (b.kP c):=n
   obtain ⟨ac,R,af,ah⟩:=u.ll c x r
   refine f ?_;try clear f
   have w:=nZ R (b:=e.heap) fun z t k=>l.kR k
   exact GC (T:="dict") w.typeIs UR GX UW w.noDict p
def EB{k:List cj}{a:cj→Prop}{m:cj}(p:∀f∈k,a f)(o:a m)(l:Nat):a ((k[l]?).getD m):=by
 cases n:k[l]? with
 |none=>exact o
 |some f=>exact p f (gj n)
noncomputable def isB:cj→Bool
 |.builtin _=>ar
 |.type _=>ar
 |_=>b2
def P6{a:cj}(f:isB a=ar):xl b a:=by
 induction a<;>first|exact .inl ⟨_,rfl⟩|exact .inr (.inl ⟨_,rfl⟩)|exact dy f
def S1(a:Nat):xl b (p0 a):=P6 (EB (a:=fun f=>isB f=ar) (lD.mp (show A8.all isB=ar from rfl)) rfl a)
def YB(a:Nat):jJ (1000+a) 1000=b2:=by
 rw [r5]
 intro f
 exact absurd (LZ.mp f) (jI.mpr (fg ..))
def Bi{a:Nat}(f:jJ a 1000=ar):o7 b a=.ref (b.jT a):=by
 unfold o7
 refine bT f ?_;rfl
def Im(a:Nat):o7 b (1000+a)=.ref (b.eS a):=by
 unfold o7
 (refine bT (YB a) ?_;rw [Nat.add_sub_cancel_left]);rfl
def Fi{k:rg}{a:bl→Prop}(o:∀f,(k.p9[f]?).isSome=ar→a (.fn f))(p:∀n,(k.e7[n]?).isSome=ar→a (.kE n))(q:∀f,a (.bi f)){m:bl}(l:Vq k m=ar):a m:=by
 cases m<;>first|exact o _ l|exact p _ l|exact q _|exact dy l
def V6(b:Wd)(d:d9)(h:dQ)(c:Nat)(g:cK)(n:bZ):Prop:=∀{fz:Bool}{a:cj}{K:KE},dU b h n a→xl b a∧∀{j:dQ}{k:bS}{l:cM}{m:List bZ}{f:List cj},xi d c→c7 b j k l→ef b j m f→Vr ⟨b.T,g⟩ fz n m k K→Wp b d (gg a f) (VP b j K) l
def S2(k:zL b c g){w:bZ}(l:MS b.T w=ar):V6 b d h c g w:=by
 refine bU fun p=>?_
 obtain ⟨v,z,l⟩:=jC l
 obtain rfl:=ik z
 refine p ?_;try clear p
 refine Fi (a:=fun v=>V6 b d h c g (.f v)) (fun f l fz q K a=>?_) (fun r l fz q K a=>?_) (fun f fz q K a=>?_) l
 ·obtain rfl:q=.ref (b.jT f):=a
  exact ⟨.inr (.inr (k.cR f l)),fun {j u y s t} n m a o=>Bi (k.C8 f l)▸k.Ng f s u K (qT o).2 _ _ t d n m a⟩
 ·refine bU fun p=>?_
  obtain rfl:q=.ref (b.eS r):=a
  obtain ⟨f,x⟩:=k8 l
  refine p ?_;try clear p
  exact ⟨.inr (.inr (k.cF.e7 r f x).iO),fun {j u y s t} n m a o=>Im (b:=b) r▸k.Ng (1000+r) s u K o _ _ t d n m a⟩
 ·obtain rfl:q=b.yo f:=a
  exact ⟨by refine bT k.bi ?_;exact S1 f,fun n m a o=>z5 n.f8 k.cF k.bi m a o⟩
def K8{a:ce}{l:List ce}{k:cS}{f:du}(o:(sh a).cJ.isSome=ar):fk (.Call a l [] k) f=(do GN k (← fk a f) [] (pL k (nK l f)) []):=by
 refine bU fun m=>?_
 obtain ⟨⟨p,n⟩,_⟩:=k8 o
 refine m ?_;try clear m
 refine bT n ?_;rfl
def S3{l:oC}{n:b4}{m:Nat}:∀{q:bZ},jN b.T i q n=O l→l=.fn m→∃s,z9 b.T s n=O (.fn m)
 |.cq o,a,k=>by
  rcases ga a with ⟨_,a⟩|⟨u,y,a⟩
  ·refine bU fun f=>?_
   obtain ⟨v,x,a⟩:=cH a
   refine f ?_;try clear f
   rw [← dg (eB a).2] at k;cases k
  ·rcases EA a with ⟨_,a⟩|⟨_,a⟩<;>(rw [← a] at k;cases k)
 |.fK o,a,k=>by
  refine bU fun f=>?_
  obtain ⟨r,p,a⟩:=cH a
  refine f ?_;try clear f
  exact ⟨_,k▸a⟩
 |.f w,a,k=>by
  rcases ga a with ⟨_,a⟩|⟨c,z,a⟩
  ·refine bU fun f=>?_
   obtain ⟨r,p,a⟩:=cH a
   refine f ?_;try clear f
   exact ⟨_,k▸a⟩
  ·refine bU fun f=>?_
   obtain ⟨_,_,t⟩:=dC (eB a).2
   refine f ?_;try clear f
   rw [← t] at k;cases k
def Js(m:zL b c g){r:b4}{f:Nat}{q:bZ}(a:jN b.T i q r=O (.fn f)):lR b.K (.ref (b.jT f))=ar∧jJ f 1000=ar:=by
 refine bU fun n=>?_
 obtain ⟨k,a⟩:=S3 a rfl
 obtain ⟨o,l,a⟩:=cH a
 obtain ⟨t,p,s⟩:=dC a
 refine n ?_;try clear n
 cases s
 exact ⟨m.Nf k o l _ (jg _ p),LZ.mpr ((m.cF.e7 k o l).PN _ (jg _ p))⟩
def K9(l:zL b c g){k:b4}{f:bZ}:∀{a:oC},jN b.T i f k=O a→xl b (th b a)
 |.eJ,_=>.inl ⟨_,rfl⟩
 |.gA,_=>.inl ⟨_,rfl⟩
 |.iU,_=>.inl ⟨_,rfl⟩
 |.Dk,_=>.inl ⟨_,rfl⟩
 |.fn n,m=>.inr (.inr (Js l m).1)
def S4(m:zL b c g){t:b4}{p:bZ}{u:bS}{o:cj}{r:List bZ}{n:List cj}{K:KE}:∀{q:oC},jN b.T u p t=O q→xi d c→c7 b h i e→dU b h p o→ef b h r n→Vs ⟨b.T,g⟩ q p r i K→Wp b d (gg (th b q) (o::n)) (VP b h K) e
 |.fn s,w,v,k,l,a,f=>by
  show Wp b d (gg (.ref (b.jT s)) (o::n)) _ _
  exact Bi (Js m w).2▸m.Ng s (p::r) i K f _ _ (o::n) d v k ⟨o,n,rfl,l,a⟩
 |.eJ,_,_,k,l,a,f=>pE (an:=.eJ) m.cF k l a f
 |.gA,_,_,k,l,a,f=>pE (an:=.gA) m.cF k l a f
 |.iU,_,_,k,l,a,f=>pE (an:=.iU) m.cF k l a f
 |.Dk,_,_,k,l,a,f=>pE (an:=.Dk) m.cF k l a f
def YC(o:zL b c g)(fz:Bool){s:cv}{q:dS}(W:e4 b c g s)(y:vh b c g q):e4 b c g (.b0 fz s q):=fun {ag ac Y d h i e f ak} C n=>by
 apply wH C
 intro m k u a G
 refine sA G fun R v L r=>iq (b:=fun u=>rH b d h e (.Call m k u a) f _) v ?_
 refine .eI (fun K x=>?_) rfl
 refine bT (show fk (.Call m k [] a) f=(do GN a (← fk m f) [] (pL a (nK k f)) []) from K8 R) ?_
 refine c5 (((W L n).d8 _ x).vp fun am af ae X al t z Q l=>?_)
 obtain ⟨w,l⟩:=qT l
 obtain ⟨T,P⟩:=S2 (d:=d) o w (K:=K) (fz:=fz) z
 exact p2 T (tI r).1 ((y r (n.cc t Q) a _ l).ms fun ab an aa ah ai A I p F=>⟨p.F0 o.cF,(P n.a p I F).hZ (t.ci A)⟩)
def YD(l:zL b c g){x:cv}(F:b4){u:dS}(ae:e4 b c g x)(W:vh b c g u):e4 b c g (.eQ x F u):=fun {aq am ah d h i e k aw} Y o=>by
 apply wH Y
 intro C f r a m
 refine p1 (b:=fun C=>rH b d h e (.Call C f r a) k _) m fun t I y m=>Zp m fun af L ac T R X p=>iq (b:=fun r=>rH b d h e (.Call (.Attribute t I y) f r a) k _) L ?_
 obtain rfl:F=I:=dr af
 refine .eI (fun K P=>?_) rfl
 rw [arm_eval_Call,(BX R).1]
 refine c5 (((ae X o).d8 _ P).vp fun az ao an ag ay G v z n=>c5 (oy ?_))
 refine bU fun A=>?_
 obtain ⟨ai,q,n⟩:=fj n
 refine A ?_;try clear A
 have Q:methodCallForm (f.length+([] :List GQ).length) (pL a (nK f k)) (backToKw a (keywordEach [] k))=ar:=by
  unfold methodCallForm
  refine bT ((tI p).2) ?_
  exact iX.mpr ⟨rfl,(show dY (f.length+0+0<30)=ar from decide_eq_true (qA (of_decide_eq_true T)))⟩
 unfold methodCall
 refine bT Q ?_
 refine c5 (iH (Il l.cF z ?_ v q))
 refine c5 (GH (show methodCallPos ar t k y a=ej a by unfold methodCallPos;refine bT ac ?_;rfl) ?_)
 refine p2 (K9 l q) (tI p).1 ((W p (o.cc G z) a _ n).ms fun al aA ak au av w ab s aa=>⟨s.F0 l.cF,?_⟩)
 exact (S4 l q o.a s (v.cO w) ab aa).hZ (G.ci w)
end
def y0(a:Wd)(p:Nat)(q:cK)(c:dS):Prop:=∀{h:Sc}{e:fF}{l:List (Option ce)}{d:List ce}{m:d9}{b:dQ}{k:bS}{f:cM}{j:du}{i:cV},mKV a.T h e c l d=ar→At a p m b k f j h e i→∀(r:cS)(K:List bZ→bS→Prop),II ⟨a.T,q⟩ c i k K→Wp a m (Mx (My l d j r)) (fun o n=>Zr a b K (o.flatMap fun g=>[g.1,g.2]) n) f
section
variable{b:Wd}{d g:dQ}{e:bS}{c:cM}{i:d9}{f:Nat}{h:cK}{j:di}
def c7.Dy(k:c7 b d e c){l:eb}(t:l.isFreed=b2):c7 b ⟨d.F,d.T.d7 c.heap.objs.size l,d.α⟩ e {c with heap:=c.heap.push l}:=by
 have q:=dX c.heap.objs.size
 refine k.KN (fun n=>False) c.toks (fun n s=>s.elim) (fun m o n r=>ng _ r) fun m o a=>?_
 by_cases p:m=c.heap.objs.size
 ·subst p
  rw [di.eF] at a
  exact ⟨dg a▸oz _ t,k.yY q,k.fY q⟩
 ·rw [di.fe _ _ p] at a
  exact ⟨ng _ (k.hN m o a),k.qo a⟩
def eU.Dy{p:du}{n:Sc}{o:fF}{m:cV}(q:eU b d p n o m){l:cz}(t:d.T l=b1)(r:eb):eU b ⟨d.F,d.T.d7 l r,d.α⟩ p n o m:=
 q.cO (u:=fun k=>k=l) ⟨k4.cy _,jU _,fun k a=>di.fe _ _ a⟩ fun k a s=>q.h8 s (a▸t)
def At.Dy{o:du}{m:Sc}{n:fF}{l:cV}(k:At b f i d e c o m n l){a:eb}(p:a.isFreed=b2):At b f i ⟨d.F,d.T.d7 c.heap.objs.size a,d.α⟩ e {c with heap:=c.heap.push a} o m n l:=⟨k.a,k.S.Dy p,k.E.Dy (k.S.pC (dX _)) a⟩
def c7.A6{n:di}{l:cz}{s:eb}{r:eu}(q:c7 b d e c)(v:Nat)(t:d.T=n.d7 l s)(x:n l=b1)(w:t5 l c.heap r):c7 b ⟨d.F,n,d.α⟩ e {c with heap:=r,toks:=v}:=by
 refine q.KN (fun a=>a=l) v (fun a p=>⟨s,by (refine bT p ?_;refine bT t ?_;rw [di.eF])⟩) (fun a o m k=>(w.2 a m).trans k) fun a o k=>?_
 have m:a≠l:=fun p=>by rw [p,x] at k;exact cG k
 have u:d.T a=O o:=by (refine bT t ?_;refine bT (di.fe _ _ m) ?_);exact k
 exact ⟨(w.2 a m).trans (q.hN a o u),q.qo u⟩
def Wp.kv{n:gl (List (cj×cj))}{K:List bZ→bS→Prop}{o:List (cj×cj)→cM→Prop}(u:Wp b i n (fun m a=>Zr b d K (m.flatMap fun k=>[k.1,k.2]) a) c)(t:∀m a p l g,pY d g→ef b g p (m.flatMap fun k=>[k.1,k.2])→c7 b g l a→K p l→o m a):Wp b i n o c:=u.cO fun r a q=>by obtain ⟨y,l,g,v,x,w,s⟩:=q;exact t r a y l g v x w s
def YE:y0 b f h .N:=fun a n l K m=>by
 refine f4 a fun k p=>iq (b:=fun o=>Wp b _ (Mx (My o _ _ l)) _ _) k ?_
 exact fR ⟨[],_,_,.cy _,rfl,n.S,m⟩
def YF{l:cv}:y0 b f h (.J l .N):=fun a s q K r=>by
 apply d3 a
 intro u p k
 obtain ⟨t,_,m⟩:=jC k
 exact f4 m fun o n=>dy n
def Jt{q r:cv}{s:dS}(v:e4 b f h q)(aa:e4 b f h r)(P:y0 b f h s):y0 b f h (.J q (.J r s)):=fun {aq am u k i d e c af aw} Q p t K ag=>by
 apply d3 Q
 intro ak u T
 obtain ⟨C,rfl,o⟩:=jC T
 refine f4 o fun o a=>d3 (e:=fun k=>Wp b i (Mx (My (O C::u) k af t)) _ c) a fun az k a=>f4 a fun a X=>?_
 refine pairTrees_cons_walk (((v o p).d8 _ ag).vp fun ah ao I ai ay n L ab Y=>?_)
 refine ((aa a (p.cc n ab)).d8 _ Y).vp fun F aA ae au av l W z R=>?_
 refine (P X (p.cc (n.ci l) z) t _ R).kv fun an al A w ac m G y x=>?_
 exact ⟨I::ae::A,w,ac,n.ci (l.ci m),⟨ah,_,rfl,L.cO (l.ci m),F,_,rfl,W.cO m,G⟩,y,x⟩
def P7{K:g6→Prop}:∀{l:bl},Y5 l K→∃k,jM l=O k∧K k
 |.Z m,a=>⟨.inl m,rfl,a⟩
 |.ad n,a=>⟨.inr n,rfl,a⟩
def La:∀{m:List (cj×cj)}{k:List bl}{K:List (g6×bl)→Prop},dB b j k (m.flatMap fun n=>[n.1,n.2])→Fq k K→∃o p,Carries (i8 b.dP b.w) m o∧ij b j p o∧K p:=by
 intro m
 induction m with
 |nil=>
  intro k K l a
  rcases k with _|⟨v,k⟩
  ·exact ⟨[],[],trivial,rfl,a⟩
  ·obtain ⟨_,_,q,_⟩:=l;exact (Uf _ _ q.symm).elim
 |cons n m t=>
  intro k K l a
  rcases k with _|⟨v,_|⟨z,k⟩⟩
  ·exact (Uf _ _ l).elim
  ·exact oa a
  ·refine bU fun s=>?_
   obtain ⟨F,_,q,l,G,I,w,x,A⟩:=l
   obtain ⟨r,u,a⟩:=P7 a
   obtain ⟨rfl,rfl⟩:=GY q
   obtain ⟨rfl,rfl⟩:=GY w
   obtain ⟨o,p,C,y,a⟩:=t A a
   refine s ?_;try clear s
   exact ⟨(r,n.2)::o,(r,z)::p,⟨Ji u l,rfl,C⟩,⟨n.2,o,rfl,x,y⟩,a⟩
def ij.S5{a:List (g6×bl)}:∀{l:List (g6×cj)},ij b j a l→l.map (·.1)=a.map (·.1):=by
 induction a with
 |nil=>exact fun k=>congrArg (Gy (·.1)) (show _=[] from k)
 |cons r a m=>
  intro l k
  obtain ⟨p,q,n,_,o⟩:=k
  exact (congrArg (Gy (·.1)) n).trans (congrArg (_:: ·) (m o))
def P8(ac:kc b){u:di}{a:cz}{C:eb}{c:cM}{m q:dQ}{x:List bZ}{z:List (cj×cj)}{K:KE}(G:u a=b1)(R:(a==qG)=b2)(r:pY ⟨m.F,u.d7 a C,m.α⟩ q)(s:c7 b q e c)(t:ef b q x (z.flatMap fun F=>[F.1,F.2]))(k:Vu K x e)(Q:u=m.T):
  ∃n,Carries (i8 b.dP b.w) z n∧∀o v,o.DictOf (i8 b.dP b.w) a (merged [] n)→t5 a c.heap o→VP b m K (.ref a) {c with heap:=o,toks:=v}:=by
 subst Q
 refine bU fun l=>?_
 obtain ⟨ab,t,k⟩:=t.uP k
 obtain ⟨n,L,aa,A,k⟩:=La t k
 obtain ⟨X,k⟩:=qT k
 refine l ?_;try clear l
 refine ⟨n,aa,fun o v p W=>?_⟩
 rw [merged_nil_of_nodup _ (by refine bT A.S5 ?_;exact (of_decide_eq_true X).2)] at p
 refine bU fun l=>?_
 obtain ⟨Y,g,p⟩:=zl.mp p
 have y:q.T=m.T.d7 a C:=funext fun T=>r.T T id
 have w:=s.qo (f:=a) (by refine bT y ?_;exact di.eF _ _ _)
 obtain ⟨I,ae⟩:=(s.A6 v y G W).FZ (p:=.d4 L) w.2 G ⟨_,g⟩ ⟨w.1,R,Y,n,g,p,A⟩
 refine l ?_;try clear l
 refine ⟨_,_,_,?_,?_,I,k⟩
 ·exact ⟨r.F,r.α.trans (vP _ _),fun P P=>rfl⟩
 ·exact ⟨a,rfl,by refine gT s.cC ?_;exact TR⟩
def YG(m:kc b){k:dS}(w:y0 b f h k):e4 b f h (.d4 k):=fun {af ac a i d e c ak ah} A l=>by
 apply SV A
 intro am ab T F
 refine Dw F fun W q G u t=>.eI (fun K r=>?_) rfl
 refine wpAny_Dict_walk (knd:=i8 b.dP b.w) W (of_decide_eq_true q) (List.isEmpty_eq_false_iff.mp (eC G)) (of_decide_eq_true u) ((w t (l.Dy (a:={cls:=.type "dict",data:=.dict #[]}) rfl) T _ r).kv fun ae al aa Y ai p y n I=>?_)
 refine bU fun o=>?_
 obtain ⟨ag,C,a,R⟩:=m.Ya
 have x:(c.heap.objs.size==qG)=b2:=by
  rw [beq_eq_false_iff_ne]
  exact LX (LY R (nV (l.S.kR a)))
 obtain ⟨k,X,z⟩:=P8 m (l.S.pC (dX _)) x p n y I rfl
 refine o ?_;try clear o
 have Q:(c.heap.push {cls:=.type "dict",data:=.dict #[]}).DictOf (i8 b.dP b.w) c.heap.objs.size [] :=Heap.DictOf.new c.heap
 have v:(c.heap.push {cls:=.type "dict",data:=.dict #[]}).get? c.heap.objs.size=O {cls:=.type "dict",data:=.dict #[]}:=oz _ rfl
 refine ⟨k,X,Q.at fun C a=>?_,fun s P L=>z s _ P L⟩
 rw [v] at a
 obtain rfl:=dg a
 exact n.hN _ _ ((p.T _ id).trans (di.eF _ _ _))
end
section
def Bj(d:Wd)(g:di)(i:Bool)(b:cj)(f:bl)(h:eu):Prop:=cond i (∃e a c,b=.ref e∧h.IsTuple e a∧f=.cQ c∧dB d g c a.toList) (g5 d g f b)
def Hz(f:Bool)(b:ce):Prop:=cond f (∃e d a,b=.Tuple e d a) (∃c a,b=.Name c a)
open Classical in
def di.h3(T:di)(own:Addr→Prop):di:=fun a=>if own a then none else T a
open Classical in
def di.iu(T:di)(own:Addr→Prop)(h:Heap):di:=fun a=>if own a then h.get? a else T a
def It(c:Wd)(k:d9)(h:cz)(u:Bool)(p:List bl)(i:cz→Prop)(e:Nat→dQ→Prop):Prop:=(∀{b:Nat}{a o:dQ}{r:cz→Prop},e b a→Le r a o→(∀g,i g→¬r g)→e b o)∧(∀{b:Nat}{a:dQ}{g:cz},e b a→i g→∃w,a.T g=O w)∧(∀{b:Nat}{a:dQ}{f:bS}{d:cM}{q:bl}{s:ce},e b a→c7 c a f d→p[b]? =O q→Hz u s→Wp c k (pM (.ref h)) (fun m n=>∃l,m=O l∧Wp c k (vW s (.ref h) l) (fun x v=>∃j,Le i a j∧c7 c j f v∧e (b+1) j∧Bj c j.F u l q v.heap) n) d)∧(∀{a:dQ}{f:bS}{d:cM},e p.length a→c7 c a f d→Wp c k (pM (.ref h)) (fun m n=>m=b1∧c7 c ⟨a.F,a.T.h3 i,a.α⟩ f n) d)∧(∀{b:Nat}{a:dQ}{f:bS}{d:cM}{t:cj→cM→Prop},e b a→c7 c a f d→t (.ref h) d→Wp c k (kh (.ref h)) t d)
section
variable{a:Wd}{f:d9}{c:cz}{h:Bool}{g:List bl}{e:cz→Prop}{b:Nat→dQ→Prop}(d:It a f c h g e b)
include d
def It.cO:∀{j:Nat}{i k:dQ}{l:cz→Prop},b j i→Le l i k→(∀m,e m→¬l m)→b j k:=d.1
def It.y1:∀{l:Nat}{j:dQ}{i:cz},b l j→e i→∃k,j.T i=O k:=d.2.1
def It.oU:∀{l:Nat}{k:dQ}{m:bS}{o:cM}{q:bl}{p:ce},b l k→c7 a k m o→g[l]? =O q→Hz h p→Wp a f (pM (.ref c)) (fun s r=>∃j,s=O j∧Wp a f (vW p (.ref c) j) (fun t n=>∃i,Le e k i∧c7 a i m n∧b (l+1) i∧Bj a i.F h j q n.heap) r) o:=d.2.2.1
def It.nz:∀{i:dQ}{j:bS}{k:cM},b g.length i→c7 a i j k→Wp a f (pM (.ref c)) (fun m l=>m=b1∧c7 a ⟨i.F,i.T.h3 e,i.α⟩ j l) k:=d.2.2.2.1
def It.iQ:∀{l:Nat}{j:dQ}{m:bS}{i:cM}{k:cj→cM→Prop},b l j→c7 a j m i→k (.ref c) i→Wp a f (kh (.ref c)) k i:=d.2.2.2.2
end
inductive rI(W:Wd)(A:d9)(g:dQ)(tp:Bool)(K:KL)(iv:cj)(s':cM):Prop
 |mk (xs:List bl) (AO:bS) (g':dQ) (I:cz) (own:cz→Prop) (P:Nat→dQ→Prop) (zF:xs.length≤1000000) (k:K xs AO) (le:Le own g g') (new:∀a,own a→g.T a=b1) (sat:c7 W g' AO s') (iv:iv=.ref I) (it:It W A I tp xs own P) (start:P 0 g')
def rI.hZ{f:Wd}{i:d9}{a e:dQ}{h:Bool}{K:KL}{c:cj}{b:cM}(d:pY a e)(y:rI f i e h K c b):rI f i a h K c b:=
 by
 obtain ⟨l,r,k,x,j,n,u,p,v,t,q,m,s,w⟩:=y
 exact ⟨l,r,k,x,j,n,u,p,d.vd.ci v,fun g o=>(d.T g id).symm.trans (t g o),q,m,s,w⟩
structure Wk(W:Wd)(A:d9)(I:cz)(fp wr:List cz)(F:di)(tp:Bool)(xs:List bl)(St:Nat→eu→Prop)(Mid:Nat→cj→eu→Prop):Prop where
 fw:∀b∈wr,b∈fp
 h8:∀i h h',St i h→(∀b∈fp,∀o,h.get? b=O o→h'.get? b=O o)→St i h'
 WH:∀i h,St i h→∀b∈wr,∃o,h.get? b=O o
 oU:∀(i:Nat)(x:bl)(s:cM)(Q:Option cj→cM→Prop),xs[i]? =O x→St i s.heap→
  (∀v h' tk,(∀h'',(∀b o,b∉wr→h'.get? b=O o→h''.get? b=O o)→Bj W F tp v x h'')→Mid i v h'→(∀b o,b∉wr→s.heap.get? b=O o→h'.get? b=O o)→Q (O v) {s with heap:=h',toks:=tk})→Wp W A (pM (.ref I)) Q s
 yV:∀(t:ce)(i:Nat)(v:cj)(s:cM)(Q:Unit→cM→Prop),Hz tp t→Mid i v s.heap→
  (∀h',St (i+1) h'→(∀b o,b∉wr→s.heap.get? b=O o→h'.get? b=O o)→Q () {s with heap:=h'})→Wp W A (vW t (.ref I) v) Q s
 nz:∀(s:cM)(Q:Option cj→cM→Prop),St xs.length s.heap→
  (∀h' tk,(∀b o,b∉wr→s.heap.get? b=O o→h'.get? b=O o)→Q b1 {s with heap:=h',toks:=tk})→Wp W A (pM (.ref I)) Q s
 iQ:∀(i:Nat)(s:cM)(Q:cj→cM→Prop),St i s.heap→Q (.ref I) s→Wp W A (kh (.ref I)) Q s
section
variable{f:Wd}{h:d9}{a i:dQ}{g:bS}{d:cM}{b e:di}{c:cz→Prop}
def o8{j:cz}(k:c j):e.h3 c j=b1:=if_pos k
def ot{j:cz}(k:¬c j):e.h3 c j=e j:=if_neg k
def P9{j:cz}{m:eb}(k:e.h3 c j=O m):¬c j∧e j=O m:=by
 by_cases l:c j
 ·rw [o8 l] at k;exact cG k
 ·rw [ot l] at k;exact ⟨l,k⟩
def nD{j:cz}{k:eu}(l:c j):e.iu c k j=k.get? j:=if_pos l
def ou{j:cz}{k:eu}(l:¬c j):e.iu c k j=e j:=if_neg l
def c7.h3(n:c7 f a g d)(c:cz→Prop){o:eu}(q:Nat)(r:∀k,c k→∃j,a.T k=O j)(p:∀m j,¬c m→d.heap.get? m=O j→o.get? m=O j):c7 f ⟨a.F,a.T.h3 c,a.α⟩ g {d with heap:=o,toks:=q}:=
 n.KN c q r p fun k j l=>by obtain ⟨s,l⟩:=P9 l;exact ⟨p k j s (n.hN k j l),n.qo l⟩
def c7.iu(n:c7 f a g d)(c:cz→Prop){o:eu}(r:Nat)(s:∀k,c k→∃j,a.T k=O j)(q:∀p j,¬c p→d.heap.get? p=O j→o.get? p=O j):c7 f ⟨a.F,a.T.iu c o,a.α⟩ g {d with heap:=o,toks:=r}:=
 n.KN c r s q fun k j l=>by
  by_cases m:c k
  ·rw [nD m] at l
   obtain ⟨u,t⟩:=s k m
   exact ⟨l,n.qo t⟩
  ·rw [ou m] at l
   exact ⟨q k j m (n.hN k j l),n.qo l⟩
def Q8(m:List cz)(b:di)(p:Nat→eu→Prop)(o:Nat)(a:dQ):Prop:=(k4 b a.F)∧(∀l,l∈m∧b l=b1→∃j,a.T l=O j)∧(∃n,p o n∧∀k∈m,∀j,n.get? k=O j→b k=O j∨(b k=b1∧a.T k=O j))
section
variable{m:List cz}{j:di}{o:Nat→eu→Prop}{n:Nat}{k:dQ}(l:Q8 m j o n k)
include l
def Q8.gm:k4 j k.F:=l.1
def Q8.y1:∀a,a∈m∧j a=b1→∃b,k.T a=O b:=l.2.1
def Q8.Ha:∃p,o n p∧∀a∈m,∀b,p.get? a=O b→j a=O b∨(j a=b1∧k.T a=O b):=l.2.2
end
def Q8.mK{o A:List cz}{z:Bool}{t:List bl}{w:cz}{m:Nat→eu→Prop}{v:Nat→cj→eu→Prop}(K:Wk f h w o A b z t m v){l:Nat}(q:Q8 o b m l a)(p:c7 f a g d):m l d.heap:=by
 obtain ⟨y,u,x⟩:=q.Ha
 refine K.h8 l y d.heap u fun j r k s=>?_
 rcases x j r k s with n|⟨_,n⟩
 ·exact p.ey j k (q.gm j k n)
 ·exact p.hN j k n
def It.eI{s x:List cz}{L:Bool}{P:List bl}{ab:cz}{Q:Nat→eu→Prop}{ag:Nat→cj→eu→Prop}(K:Wk f h ab s x b L P Q ag)(aa:∀j∈x,b j=b1):It f h ab L P (fun k=>k∈s∧b k=b1) (Q8 s b Q):=⟨
 (fun {w a i au} m C z=>⟨m.gm.ci C.F,fun k p=>(m.y1 k p).imp fun l o=>(C.T k (z k p)).trans o,m.Ha.imp fun n v=>⟨v.1,fun j y l o=>(v.2 j y l o).imp id fun u=>⟨u.1,(C.T j (z j ⟨y,u.1⟩)).trans u.2⟩⟩⟩),
 (fun m z=>m.y1 _ z),
 (fun {w a g d ae F} m r ai ak=>K.oU w ae d _ ai (m.mK K r) fun T af I ac ah A=>by
  have W:∀j,¬(j∈s∧b j=b1)→j∉x:=fun j q n=>q ⟨K.fw j n,aa j n⟩
  refine ⟨T,rfl,K.yV F w T _ _ ak ah fun t R X=>?_⟩
  have G:∀j l,j∉x→d.heap.get? j=O l→t.get? j=O l:=fun j l q o=>X j l q (A j l q o)
  refine ⟨⟨a.F,a.T.iu (fun k=>k∈s∧b k=b1) t,a.α⟩,⟨k4.cy _,jU _,fun k q=>(ou q:a.T.iu (fun k=>k∈s∧b k=b1) t k=a.T k)⟩,r.iu _ I m.y1 fun j l q=>G j l (W j q),⟨m.gm,fun k p=>?_,t,R,fun j y l o=>?_⟩,?_⟩
  ·have o:=(nD p:a.T.iu (fun k=>k∈s∧b k=b1) t k=_)
   by_cases u:k∈x
   ·obtain ⟨l,n⟩:=K.WH _ _ R k u
    exact ⟨l,o.trans n⟩
   ·obtain ⟨l,n⟩:=m.y1 k p
    exact ⟨l,o.trans (G k l u (r.hN k l n))⟩
  ·cases p:b j with
   |none=>exact .inr ⟨rfl,(nD ⟨y,p⟩:a.T.iu (fun k=>k∈s∧b k=b1) t j=_).trans o⟩
   |some v=>
    have:=G j v (W j fun n=>by rw [p] at n;cases n.2) (r.ey j v (m.gm j v p))
    rw [o] at this
    exact .inl this.symm
  ·have:=ac t X
   induction L
   ·exact g5.cO m.gm this
   ·refine bU fun Y=>?_
    obtain ⟨F,ao,al,k,j,aq,am⟩:=this
    refine Y ?_;try clear Y
    exact ⟨F,ao,al,k,j,aq,am.cO m.gm⟩),
 (fun {a g d} m r=>K.nz d _ (m.mK K r) fun af I A=>⟨rfl,r.h3 _ I m.y1 fun j l q=>A j l fun n=>q ⟨K.fw j n,aa j n⟩⟩),
 (fun {w a g d an} m r p=>K.iQ w d an (m.mK K r) p)⟩
end
end
section
variable{a:Wd}{e:d9}{g d:dQ}{l:bS}{c:cM}{i:di}{k:cz}{h m:List cz}{b:List bl}{j:Nat→eu→Prop}
def Wk.BY{y:Nat}{v:Nat→cj→Prop}(K:Walks a.dP a.w e k h m y v j)(x:y=b.length)
  (L:∀f o s,v f o→b[f]? =O s→g5 a i s o) (R:∀f t,j f t→∀C∈m,∃G,t.get? C=O G):Wk a e k h m i b2 b j (fun f r t=>j (f+1) t) where
 fw:=K.sub
 h8:=K.frame
 WH:=R
 oU:=fun f s c q w n p=>K.item f c q _ (x▸(fJ.mp w).1) n fun o A P I Q z=>p o A P (fun r r=>L f o s I w) Q z
 yV:=fun F f o c q ⟨T,W,u⟩ n p=>GH (by refine bT u ?_;rfl:letOwnedTupleGo F (.ref k) o=pure ()) (p c.heap n fun r r r u=>u)
 nz:=fun c q n p=>K.done c q _ (x▸n) p
 iQ:=fun f c q n p=>K.self f c q _ n p
def Wk.Zs{I:Nat}{z:Nat→Array cj→Prop}{C:Nat→cz→eu→Prop}(K:WalksU a.dP a.w e k h m I z j C)(G:I=b.length)
  (ae:∀f r s,z f r→b[f]? =O s→∃t,s=.cQ t∧dB a i t r.toList) (ai:∀f w,j f w→∀X∈m,∃u,w.get? X=O u):
  Wk a e k h m i ar b j (fun f A w=>∃n,A=.ref n∧C f n w) where
 fw:=K.sub
 h8:=K.frame
 WH:=ai
 oU:=fun f s c o F q p=>K.item f c o _ (G▸(fJ.mp F).1) q fun n r y ah ab aa v L=>
  by
   obtain ⟨t,x,ag⟩:=ae f r s ab F
   obtain ⟨u,Y,T⟩:=aa
   exact p (.ref n) y ah (fun am W=>⟨n,r,t,rfl,⟨u,W n u (K.apart f n y v) Y,T⟩,x,ag⟩) ⟨n,rfl,v⟩ L
 yV:=fun n f A c o ac al p=>by
  obtain ⟨Q,P,ak,x⟩:=ac
  obtain ⟨af,R,v⟩:=al
  (refine bT x ?_;refine bT R ?_)
  exact K.go Q P ak f af c o _ v p
 nz:=fun c o q p=>K.done c o _ (G▸q) p
 iQ:=fun f c o q p=>K.self f c o _ q p
def rI.eI{t:bS}{F:Bool}{K:KL}{r:eu}{w:Nat}{R:Nat→cj→eu→Prop}(y:pY g d)(s:c7 a d t c)(u:∀n p,c.heap.get? n=O p→r.get? n=O p)(P:Wk a e k h m d.F F b j R)(L:j 0 r)
  (x:∀n∈h,(∃p,r.get? n=O p)∧(c.heap.objs.size≤n∨∃p,d.F n=O p)) (W:∀n∈m,c.heap.objs.size≤n) (I:b.length≤1000000) (G:K b t):rI a e g F K (.ref k) {c with heap:=r,toks:=w}:=by
 have C:∀f,f∈h∧d.F f=b1→c.heap.objs.size≤f:=fun f o=>(x f o.1).2.elim id fun ⟨p,q⟩=>by rw [o.2] at q;exact cG q
 have Q:∀f,f∈h∧d.F f=b1→d.T f=b1:=fun f o=>s.pC (C f o)
 have T:c7 a ⟨d.F,d.T.iu (fun f=>f∈h∧d.F f=b1) r,d.α⟩ t {c with heap:=r,toks:=w}:=by
  refine s.KN (fun z=>False) w (fun z Y=>Y.elim) (fun n p z=>u n p) fun f p q=>?_
  by_cases o:f∈h∧d.F f=b1
  ·rw [nD o] at q
   exact ⟨q,o.2,s.fY (C f o)⟩
  ·rw [ou o] at q
   exact ⟨u f p (s.hN f p q),s.qo q⟩
 refine ⟨b,t,⟨d.F,d.T.iu (fun f=>f∈h∧d.F f=b1) r,d.α⟩,k,_,_,I,G,y.vd.ci ⟨k4.cy _,jU _,fun f X=>(ou X:d.T.iu (fun f=>f∈h∧d.F f=b1) r f=_)⟩,fun f o=>(y.T f id).symm.trans (Q f o),T,rfl,It.eI P fun n v=>s.yY (W n v),⟨k4.cy _,fun f o=>?_,r,L,fun n v p q=>?_⟩⟩
 ·obtain ⟨p,q⟩:=(x f o.1).1
  exact ⟨p,(nD o:d.T.iu (fun f=>f∈h∧d.F f=b1) r f=_).trans q⟩
 ·cases o:d.F n with
  |none=>exact .inr ⟨rfl,(nD ⟨v,o⟩:d.T.iu (fun f=>f∈h∧d.F f=b1) r n=_).trans q⟩
  |some A=>rw [u n A (s.ey n A o)] at q;exact .inl q
def ku{o n:cz}{f:cz→Prop}(q:f o)(r:f n):∀p∈ [o,n],f p:=lY.mpr ⟨q,lY.mpr ⟨r,fun t s=>absurd s gD⟩⟩
def mh{n:cz}{f:cz→Prop}(p:f n):∀o∈ [n],f o:=lY.mpr ⟨p,fun r q=>absurd q gD⟩
def xm{n:List cj}{o:Nat}{q:bl}{f:cj}(s:dB a i b n)(p:n.toArray[o]? =O f)(r:b[o]? =O q):g5 a i q f:=s.mK r (by rw [tQ] at p;exact p)
def S6{f:bl}(o:CA f=ar):∃n,f=.cQ n:=by
 cases f<;>first|exact ⟨_,rfl⟩|exact dy o
def e0{p:Type}{n:p}{f:Prop}(o:b1=O n):f:=cG o
def Qa{p:Bool}{q:bZ}{b:List bl}{o:Bool→bZ→Prop}(n:DA p q=O b)(s:b.all CA=ar→o ar (.f (.a3 b)))(t:o b2 (.f (.a3 b)))(w:o b2 (.f (.cQ b))):o p q:=by
 induction q with
 |cq v=>exact e0 n
 |fK v=>exact e0 n
 |f x=>
  cases x<;>first|exact e0 n|skip
  ·induction p
   ·exact dg n▸w
   ·exact e0 n
  ·induction p
   ·exact dg n▸t
   ·refine bU fun r=>?_
    obtain ⟨y,u⟩:=eB n
    obtain rfl:=dg u
    refine r ?_;try clear r
    exact s y
def S7{r:List cj}(F:dB a i b r)(I:b.all CA=ar):∃(v:Nat→cz)(x:Nat→List cj),∀f n,b[f]? =O n→r[f]? =O (.ref (v f))∧(∃p,i (v f)=O (dl "tuple" (x f) p))∧∃o,n=.cQ o∧dB a i o (x f):=by
 have s:∀f:Nat,∃q:cz×List cj,∀n:bl,b[f]? =O n→r[f]? =O (Value.ref q.1)∧(∃p,i q.1=O (dl "tuple" q.2 p))∧∃o,n=bl.cQ o∧dB a i o q.2:=fun f=>by
  cases u:b[f]? with
  |none=>exact ⟨(0,[]),fun n t=>nomatch (show b1=O n from t)⟩
  |some n=>
   refine bU fun w=>?_
   obtain ⟨o,rfl⟩:=S6 (lD.mp I n (gj u))
   obtain ⟨K,A,C,y,p,rfl,z,G⟩:=F.iU u
   refine w ?_;try clear w
   exact ⟨(C,y),fun n t=>dg t▸⟨A,⟨p,z⟩,o,rfl,G⟩⟩
 exact ⟨fun f=>(UX (s f)).1,fun f=>(UX (s f)).2,fun f=>Classical.choose_spec (s f)⟩
def Lb(v:e.handled=b1){K:KL}(o:c7 a g l c){n:cj}(A:g5 a g.F (.cQ b) n)(y:b.length≤100000)(s:K b l):Wp a e (kh n) (rI a e g b2 K) c:=by
 obtain ⟨z,u,P,rfl,p,q⟩:=A
 have f:=o.ey _ _ p
 refine wpAny_pyIter_tuple (kb f) (rI.eI (.cy _) o (fun G I f=>ng _ f) (Wk.BY (Walks.tuple v c.heap.objs.size z (kW (nV f)) u.toArray) (by (refine bT iy ?_;refine bT q.cC ?_;rfl)) (fun r n C x w=>xm q x w) fun r L t=>mh (t.1.imp fun F f=>f.1))
  ⟨⟨_,oz _ rfl,rfl,rfl⟩,kb (ng _ f)⟩ (ku ⟨⟨_,oz _ rfl⟩,.inl (dX _)⟩ ⟨⟨_,ng _ f⟩,.inr ⟨_,p⟩⟩) (mh (dX _)) (cu y (by decide)) s)
def Qb(v:e.handled=b1){K:KL}(o:c7 a g l c){n:cj}(A:g5 a g.F (.a3 b) n)(y:b.length≤100000)(s:K b l):Wp a e (kh n) (rI a e g b2 K) c:=by
 obtain ⟨z,u,P,rfl,p,q⟩:=A
 have f:=o.ey _ _ p
 refine Mn (eN f) (rI.eI (.cy _) o (fun G I f=>ng _ f) (Wk.BY (Walks.list v c.heap.objs.size z (kW (nV f)) u.toArray) (by (refine bT iy ?_;refine bT q.cC ?_;rfl)) (fun r n C x w=>xm q x w) fun r L t=>mh (t.1.imp fun F f=>f.1))
  ⟨⟨_,oz _ rfl,rfl,rfl⟩,(eN f).push _⟩ (ku ⟨⟨_,oz _ rfl⟩,.inl (dX _)⟩ ⟨⟨_,ng _ f⟩,.inr ⟨_,p⟩⟩) (mh (dX _)) (cu y (by decide)) s)
def Lc(R:e.handled=b1){K:KL}(t:c7 a g l c){A:cj}(x:g5 a g.F (.a3 b) A)(W:b.all CA=ar)(aa:b.length≤100000)(L:K b l):Wp a e (kh A) (rI a e g ar K) c:=by
 refine bU fun n=>?_
 obtain ⟨ab,w,y,rfl,F,G⟩:=x
 have p:=t.ey _ _ F
 obtain ⟨Q,ac,u⟩:=S7 G W
 refine n ?_;try clear n
 have C:w.toArray.size=b.length:=by (refine bT iy ?_;refine bT G.cC ?_;rfl)
 have v:∀f,f<w.toArray.size→∃o,b[f]? =O o:=fun f r=>⟨_,gS (C▸r)⟩
 refine Mn (eN p) (rI.eI (.cy _) t (fun T af p=>ng _ p)
  (Wk.Zs (WalksU.listOfTuples R c.heap.objs.size ab (kW (nV p)) w.toArray Q (fun f=>(ac f).toArray) (fun f r=>?_) (fun f r=>?_)) C (fun z ag o Y q=>?_) fun z ah P=>mh (P.1.imp fun ae p=>p.1))
  ⟨⟨_,oz _ rfl,rfl,rfl⟩,(eN p).push _,fun f r=>?_⟩ (lY.mpr ⟨⟨⟨_,oz _ rfl⟩,.inl (dX _)⟩,lY.mpr ⟨⟨⟨_,ng _ p⟩,.inr ⟨_,F⟩⟩,fun T I=>?_⟩⟩) (mh (dX _)) (cu aa (by decide)) L)
 ·obtain ⟨o,q⟩:=v f r
  rw [tQ]
  exact (u f o q).1
 ·refine bU fun n=>?_
  obtain ⟨o,q⟩:=v f r
  obtain ⟨_,⟨y,s⟩,_⟩:=u f o q
  refine n ?_;try clear n
  exact kW (nV (t.ey _ _ s))
 ·refine bU fun n=>?_
  obtain ⟨_,_,X,p,x⟩:=u z o q
  refine n ?_;try clear n
  exact ⟨X,p,Y▸x⟩
 ·refine bU fun n=>?_
  obtain ⟨o,q⟩:=v f r
  obtain ⟨_,⟨y,s⟩,_⟩:=u f o q
  refine n ?_;try clear n
  exact kb (ng _ (t.ey _ _ s))
 ·refine bU fun n=>?_
  obtain ⟨f,r,rfl⟩:=hJ.mp I
  obtain ⟨o,q⟩:=v f (nf.mp r)
  obtain ⟨_,⟨y,s⟩,_⟩:=u f o q
  refine n ?_;try clear n
  exact ⟨⟨_,ng _ (t.ey _ _ s)⟩,.inr ⟨_,s⟩⟩
def Qc(s:e.handled=b1){K:KL}{p:bZ}{n:cj}{o:Bool}(t:c7 a g l c)(f:dU a g p n)(v:Nn o K p l):Wp a e (kh n) (rI a e g o K) c:=by
 obtain ⟨b,w,u⟩:=fj v
 obtain ⟨r,q⟩:=tj u
 exact Qa (o:=fun o p=>dU a g p n→Wp a e (kh n) (rI a e g o K) c) w (fun x f=>Lc s t f x r q) (fun f=>Qb s t f r q) (fun f=>Lb s t f r q) f
end
def Ld(a:Wd)(o:Nat)(p:cK)(i:ub):Prop:=∀{e:Sc}{f:fF}{c:ce}{b:d9}{h:dQ}{j:bS}{l:cM}{d:du}{g:cV},Ym a.T e f i c=ar→At a o b h j l d e f g→∀(k:Bool)(K:KL),Y8 ⟨a.T,p⟩ k i g j K→(∀m,vV c d m=ej m)∧Wp a b (fk c d) (fun n q=>Wp a b (kh n) (rI a b h k K) q) l
section
variable{b:Wd}{c:d9}{h k:dQ}{i:bS}{d:cM}{l:di}{e:Nat}{g:cK}{j:List bl}
def Qd{f:ce}(n:Hx f=b2)(m:du):∀a,vV f m a=ej a:=by
 intro a
 cases f<;>first|rfl|exact dy n
def Qe{a:cv}(p:e4 b e g a):Ld b e g (.cE a):=fun r f C K m=>by
 refine f4 r fun o s=>⟨Qd (eC o) _,((p s f).d8 _ m).vp fun y F z w A v q u t=>?_⟩
 exact (Qc f.a.f8 u q t).cO fun x G n=>n.hZ v
def Bk(I:kc b){a:String}(L:a∈(["range","enumerate","zip"] :List String)){r:ce}(F:uA r (oA a)=ar){t:Sc}{x:fF}(T:(t.lookup (oA a)==O .globalImplicit)=ar)(P:(oA a==("__debug__":b4))=b2){Q:cV}{f:du}
  (n:At b e c h i d f t x Q) {p:List ce} {m:cS} (z:(pL m (nK p f)).any (·.1)=b2) {q:cj→cM→Prop}
  (R:Wp b c (sa (pL m (nK p f))) (fun w u=>b.K.In u.heap∧Wp b c (gg (.type a) w) q u) d):Wp b c (fk (.Call r p [] m) f) q d:=by
 refine d2 (d:=Wp b c (fk (.Call r p [] m) f) q d) F fun s o X=>?_
 have C:s.1=oA a:=dr X
 (refine bT o ?_;refine bT C ?_)
 obtain ⟨Y,aa,y,K,W,v⟩:=I.aa1 a L
 show Wp b c (do GN m (← fk (.Name (oA a) s.2) f) [] (pL m (nK p f)) []) q d
 refine c5 (Va n.E.dm (n.E.b5 _ (dr T)) (Vb (by refine bT n.E.mR ?_;exact y.keeps fun A G o=>n.S.kR o) K (by refine bT n.E.m6 ?_;exact W.keeps fun A G o=>n.S.kR o) v ?_) P)
 exact p2 (.inr (.inl ⟨a,rfl⟩)) z R
def Ju(F:kc b){x:cv}(aa:e4 b e g x){s:String}(ah:s∈(["range","enumerate","zip"] :List String))(ai:(oA s==("__debug__":b4))=b2){z:Sc}{A:fF}{L:cV}{n:du}(P:At b e c h i d n z A L){p:ce}
  (ac:r1 p (fun h a u au=>uA h (oA s)&&z.lookup (oA s)==O .globalImplicit&&u.isEmpty&&fO a fun p a=>a.isEmpty&& !jy p&&mE b.T z A x p)=ar) {R:Bool} {K:KL} {Q:KE} (W:vE ⟨b.T,g⟩ x L i Q)
  (ak:∀w m t v o,c7 b t v o→dU b t w m→Q w v→Wp b c (gg (.type s) [m]) (fun m o=>Wp b c (kh m) (rI b c t R K) o) o):(∀f,vV p n f=ej f)∧Wp b c (fk p n) (fun m o=>Wp b c (kh m) (rI b c h R K) o) d:=by
 apply wH ac
 intro q a u r ae
 refine sA ae fun am T af y=>iq (b:=fun u=>(∀f,vV (.Call q a u r) n f=ej f)∧Wp b c (fk (.Call q a u r) n) _ d) af (d3 (e:=fun a=>(∀f,vV (.Call q a [] r) n f=ej f)∧Wp b c (fk (.Call q a [] r) n) _ d) y fun G a y=>g7 y fun X C an=>iq (b:=fun a=>(∀f,vV (.Call q (G::a) [] r) n f=ej f)∧Wp b c (fk (.Call q (G::a) [] r) n) _ d) X ⟨fun p=>rfl,?_⟩)
 refine Bk F ah am T ai P (by refine bT (oT (eC C)) ?_;rfl) (jh (eC C) (((aa an P).d8 _ W).vp fun m o w v t al ab I ag=>G0 ⟨I.F0 F,?_⟩))
 exact (ak w m t v o I ab ag).cO fun m av f=>f.cO fun ao aq Y=>Y.hZ al
def Fj{n:Bool}{o:bZ}(a:qM n o=O j):n=b2∧∃m,o=.f (.Z m)∧m.natAbs≤1000000∧j=dL m:=by
 induction n with
 |true=>exact e0 a
 |false=>
  induction o with
  |cq r=>exact e0 a
  |fK r=>exact e0 a
  |f s=>
   cases s<;>first|exact e0 a|skip
   obtain ⟨p,q⟩:=eB a
   exact ⟨rfl,_,rfl,p,(dg q).symm⟩
def Qf{o:Int}{a:Nat}{f:bl}(n:(dL o)[a]? =O f):f=.Z a:=by
 obtain ⟨r,p,m⟩:=dC (i4 .. ▸n)
 obtain ⟨s,q⟩:=fJ.mp p
 (refine gT m ?_;refine gT q ?_;rw [Ma])
def Qg(I:kc b){f:cv}(z:e4 b e g f):Ld b e g (.gb f):=fun F p ab K v=>by
 refine Ju I z (s:="range") (fD ..) rfl p F v fun Y y aa T q R C Q=>?_
 refine bU fun t=>?_
 obtain ⟨j,m,L⟩:=fj Q
 obtain ⟨rfl,a,rfl,o,rfl⟩:=Fj m
 obtain ⟨r,rfl⟩:=C
 refine t ?_;try clear t
 have P:U3 0 a 1=(a.toNat:Int):=by rw [rangeSize_one];split<;>lia
 have s:∀n:eb,q.heap.objs.size≤(q.heap.push n).objs.size:=fun n=>by rw [GR];exact fM _
 refine call_range_1 (wpAny_pyIter_range (IsRange.new ..) (small_one (by decide) (by decide) (t6 (by decide) (ZG o)) (Int.lt_of_le_of_lt (Vd o) (by decide))) ?_)
 refine rI.eI (c:=q) (.cy _) R (fun X n f=>ng _ (ng _ f)) (Wk.BY (Walks.range p.a.f8 _ 0 1 a.toNat) (by unfold dL;(rewrite [et];refine bT pk ?_;rfl)) (fun u y W ⟨r,G⟩ m=>?_) fun u p w=>mh ⟨_,w⟩) ?_ (mh ⟨⟨_,oz _ rfl⟩,.inl (s _)⟩) (mh (s _)) ?_ L
 ·(refine bT (Qf m) ?_;refine bT G ?_)
  exact ⟨r,by rw [Int.mul_one,Int.zero_add]⟩
 ·have A:(0+((0:Nat):Int)*1)=0:=rfl
  have x:((a.toNat:Int)-((0:Nat):Int))=U3 0 a 1:=by refine bT P ?_;exact UN _
  show IsRangeIter _ _ (0+((0:Nat):Int)*1) ((a.toNat:Int)-((0:Nat):Int)) 1
  (refine bT A ?_;refine bT x ?_)
  exact oz _ rfl
 ·unfold dL
  (rewrite [et];refine bT pk ?_)
  exact ID o
end
section
variable{b:Wd}{g:d9}{h m:dQ}{i:bS}{c:cM}{j:di}{k:Nat}{l:cK}{e d:List bl}
def Bl{f:Nat}{n:bl}(r:(eV e)[f]? =O n):∃a,e[f]? =O a∧n=.cQ [.Z f,a] :=by
 obtain ⟨t,q,o⟩:=dC (i4 .. ▸r)
 obtain ⟨a,p,s⟩:=dC (T7 .. ▸q)
 exact ⟨a,p,by (refine gT o ?_;refine gT s ?_;rw [kU])⟩
def x3{o n:bl}{f a:cj}(p:g5 b j o f)(q:g5 b j n a):dB b j [o,n] (#[f,a] :Array cj).toList:=⟨f,[a],rfl,p,a,[],rfl,q,rfl⟩
def Qh{o:b4}{f:Nat}{n:bl}(r:(ld o)[f]? =O n):∃a,o.cps[f]? =O a∧n=.ad ⟨#[a]⟩:=by
 obtain ⟨a,q,p⟩:=dC (i4 .. ▸r)
 exact ⟨a,by rw [← MH];exact q,p.symm⟩
def mU{n:eu}{f q:cz}{p:Nat}(r:n.IsListIter f q p):∃a,n.get? f=O a:=by obtain ⟨a,o,_⟩:=r;exact ⟨a,o⟩
def rJ:(eV e).length=e.length:=by
 unfold eV
 (rewrite [et];refine bT Ua ?_;rfl)
def ED{a:b4}:(ld a).length=a.cps.size:=by
 unfold ld
 (rewrite [et];refine bT Array.length_toList ?_;rfl)
def Zt{a f:Nat}(n:a<f):(a:cz)≠f:=kW n
def Nh{a f:Nat}(n:f<a):(a:cz)≠f:=(kW n).symm
def Lf(G:g.handled=b1){K:KL}{p:cj}(u:c7 b h i c)(R:g5 b h.F (.a3 e) p)(n:e.length≤100000)(f:K (eV e) i):Wp b g (gg (.type "enumerate") [p]) (fun p T=>Wp b g (kh p) (rI b g h ar K) T) c:=by
 refine bU fun o=>?_
 obtain ⟨t,F,ae,rfl,w,x⟩:=R
 refine o ?_;try clear o
 have a:=u.ey _ _ w
 have y:@Cw Nat instLTNat t c.heap.objs.size:=nV a
 have q:∀f:Nat,@zs Nat instLENat c.heap.objs.size (c.heap.objs.size+f):=fun f=>fg _ f
 have P:@Cw Nat instLTNat c.heap.objs.size (c.heap.objs.size+1):=h9 _
 refine call_enumerate_list (eN a) fun X s z aa r=>UC s (rI.eI (.cy _) u r
  (Wk.Zs (WalksT.enumerate G (c.heap.objs.size+1) c.heap.objs.size t (Nh P) (Zt (qA y)) (Zt y) F.toArray).toU (by (refine bT iy ?_;refine bT x.cC ?_;refine bT rJ ?_;rfl)) (fun A ab W n I=>?_) fun A ac v=>ku (v.1.elim fun Y a=>⟨_,a⟩) (mU v.2.1))
  ⟨⟨_,s⟩,z,eN (r _ _ a)⟩ (lY.mpr ⟨⟨⟨_,s⟩,.inl (q 1)⟩,ku ⟨mU z,.inl (q 0)⟩ ⟨⟨_,r _ _ a⟩,.inr ⟨_,w⟩⟩⟩) (ku (q 1) (q 0)) (by refine bT rJ ?_;exact cu n (by decide)) f)
 refine bU fun o=>?_
 obtain ⟨L,ag,C,Q⟩:=n
 obtain ⟨af,n,a⟩:=Bl I
 refine o ?_;try clear o
 exact ⟨_,a,Q▸x3 ⟨L,rfl⟩ (xm x C n)⟩
def Qi(R:g.handled=b1){K:KL}{f:b4}{v:kD}(L:c7 b h i c)(Y:f.cps.all (·<128)=ar)(p:f.cps.size≤100000)(n:K (eV (ld f)) i):Wp b g (gg (.type "enumerate") [.str f v]) (fun P ab=>Wp b g (kh P) (rI b g h ar K) ab) c:=by
 have o:∀n:Nat,@zs Nat instLENat c.heap.objs.size (c.heap.objs.size+n):=fun n=>fg _ n
 have w:@Cw Nat instLTNat c.heap.objs.size (c.heap.objs.size+1):=h9 _
 refine call_enumerate_str fun af q r ag A=>UC q ?_
 rw [show strIterType f="str_ascii_iterator" from if_pos Y] at r
 refine rI.eI (.cy _) L A
  (Wk.Zs (WalksT.enumerateD (Draws.strAscii (A:=g.in1) R c.heap.objs.size f v) (c.heap.objs.size+1) (Nh w) (fun z=>Nh w (ib.mp z)) (ib.mpr rfl)).toU (by (refine bT rJ ?_;refine bT ED ?_;rfl)) (fun s ah ac p T=>?_) fun s z t=>ku (t.1.elim fun u a=>⟨_,a⟩) (t.2.imp fun u a=>a.1))
  ⟨⟨_,q⟩,r⟩ (ku ⟨⟨_,q⟩,.inl (o 1)⟩ ⟨r.imp fun u a=>a.1,.inl (o 0)⟩) (ku (o 1) (o 0)) (by (refine bT rJ ?_;refine bT ED ?_);exact cu p (by decide)) n
 refine bU fun x=>?_
 obtain ⟨C,ak,⟨aa,Q,F,I⟩,X⟩:=p
 obtain ⟨ai,W,a⟩:=Bl T
 obtain ⟨ae,y,G⟩:=Qh W
 refine x ?_;try clear x
 rw [F] at y
 obtain rfl:=dg y
 rw [G] at a
 exact ⟨_,a,X▸I▸x3 (j:=h.F) (o:=.Z s) (n:=.ad ⟨#[aa]⟩) ⟨C,rfl⟩ ⟨Q,rfl⟩⟩
set_option tactic.hygienic true in
def Io{r:Bool}{s:bZ}{o:Bool→bZ→Prop}(n:w1 r s=some e)(t:∀d,d.length≤100000→e=eV d→o true (.f (.a3 d)))(u:∀a:Str,a.cps.all (·<128)=true∧a.cps.size≤100000→e=eV (ld a)→o true (.f (.ad a))):o r s:=by
 induction r with
 |false=>exact e0 n
 |true=>
  induction s with
  |cq v=>exact e0 n
  |fK v=>exact e0 n
  |f w=>
   cases w<;>first|exact e0 n|skip
   ·rename_i a
    obtain ⟨p,q⟩:=eB (show (if a.cps.all (·<128)=true∧a.cps.size≤100000 then some (eV (ld a)) else none)=_ from n)
    exact u _ p (Option.some.inj q).symm
   ·rename_i d
    obtain ⟨p,q⟩:=eB (show (if d.length≤100000 then some (eV d) else none)=_ from n)
    exact t _ p (Option.some.inj q).symm
def S8(F:kc b){a:cv}(y:e4 b k l a):Ld b k l (.yC a):=fun {Q L a g h i c T R} C q w K x=>by
 refine Ju F y (s:="enumerate") (ia _ (fD ..)) rfl q C x fun s n v I r u A G=>?_
 refine bU fun f=>?_
 obtain ⟨e,z,t⟩:=fj G
 refine f ?_;try clear f
 refine Io (o:=fun w s=>dU b v s n→Wp b g (gg (.type "enumerate") [n]) (fun n r=>Wp b g (kh n) (rI b g v w K) r) r) z (fun d o a p=>?_) (fun W o a p=>?_) A
 ·exact Lf q.a.f8 u p o (a▸t)
 ·refine bU fun f=>?_
  obtain ⟨P,rfl⟩:=p
  refine f ?_;try clear f
  exact Qi q.a.f8 u o.1 o.2 (a▸t)
def YH{o q:List cj}(y:dB b j e o)(x:dB b j d q){a:Nat}{n p:cj}{r:bl}(w:o.toArray[a]? =O n)(t:q.toArray[a]? =O p)(v:(iC e d)[a]? =O r):∃s,r=.cQ s∧dB b j s (#[n,p] :Array cj).toList:=by
 obtain ⟨z,f,u⟩:=dC (i4 .. ▸v)
 rw [TV] at f
 exact ⟨_,u.symm,x3 (xm y w f.1) (xm x t f.2)⟩
def WI(n:Nat){f a:Nat}(p:f≠a):(n+f:cz)≠(n+a:Nat):=fun o=>p (Nat.add_left_cancel o)
def Q0{f a:Nat}(o:f<a)(n:Nat):(f:cz)≠(a+n:Nat):=kW (hH o (fg ..))
def Lg{a o p:Nat}(n:o<a)(f:p<a):ZipApart (a+4) (a+2) (a+3) a (a+1) o p:=by
 constructor<;>first|exact WI a (a:=0) (by decide)|exact WI a (f:=0) (by decide)|exact WI a (by decide)|exact Q0 n 0 |exact Q0 n _|exact Q0 f 0 |exact Q0 f _
def Qj(aa:g.handled=b1){K:KL}{r x:cj}(s:c7 b h i c)(ah:g5 b h.F (.a3 e) r)(ac:g5 b h.F (.a3 d) x)(ag:e.length≤100000)(n:K (iC e d) i):Wp b g (gg (.type "zip") [r,x]) (fun r al=>Wp b g (kh r) (rI b g h ar K) al) c:=by
 refine bU fun o=>?_
 obtain ⟨P,X,az,rfl,A,F⟩:=ah
 obtain ⟨R,G,am,rfl,C,w⟩:=ac
 refine o ?_;try clear o
 have p:=s.ey _ _ A
 have q:=s.ey _ _ C
 have a:∀n:Nat,@zs Nat instLENat c.heap.objs.size (c.heap.objs.size+n):=fun n=>fg _ n
 refine call_zip_2 (eN p) (eN q) fun ao t v z y u au f=>wpAny_pyIter_zip t (rI.eI (.cy _) s f
  (Wk.Zs (WalksT.zip2 aa (c.heap.objs.size+4) (c.heap.objs.size+2) (c.heap.objs.size+3) c.heap.objs.size (c.heap.objs.size+1) P R (Lg (nV p) (nV q)) X.toArray G.toArray).toU ?_ (fun I av an ae ab=>by obtain ⟨aA,aw,L,ak,af⟩:=ae;exact af▸YH F w L ak ab) fun I ay Q=>?_)
  ⟨t,v,⟨_,_,z⟩,y,u,eN (f _ _ p),eN (f _ _ q)⟩ (lY.mpr ⟨⟨⟨_,t⟩,.inl (a 4)⟩,lY.mpr ⟨⟨⟨_,v⟩,.inl (a 2)⟩,lY.mpr ⟨⟨⟨_,z⟩,.inl (a 3)⟩,lY.mpr ⟨⟨mU y,.inl (a 0)⟩,lY.mpr ⟨⟨mU u,.inl (a 1)⟩,ku ⟨⟨_,f _ _ p⟩,.inr ⟨_,A⟩⟩ ⟨⟨_,f _ _ q⟩,.inr ⟨_,C⟩⟩⟩⟩⟩⟩⟩) (lY.mpr ⟨a 4,lY.mpr ⟨a 3,ku (a 0) (a 1)⟩⟩) ?_ n)
 ·unfold iC
  (refine bT iy ?_;refine bT iy ?_;refine bT F.cC ?_;refine bT w.cC ?_;rewrite [et];refine bT Ui ?_;rfl)
 ·refine bU fun o=>?_
  obtain ⟨W,aq,⟨_,_,T⟩,ai,Y,_⟩:=Q
  refine o ?_;try clear o
  exact lY.mpr ⟨⟨_,W⟩,lY.mpr ⟨⟨_,T⟩,ku (mU ai) (mU Y)⟩⟩
 ·unfold iC
  (rewrite [et];refine bT Ui ?_)
  exact cu (Nat.min_le_left ..) (cu ag (by decide))
set_option tactic.hygienic true in
def Lh{q:Bool}{r p:bZ}(a:G5 q r p=some e):∃d n,q=true∧r=.f (.a3 d)∧p=.f (.a3 n)∧d.length≤100000∧e=iC d n:=by
 induction q with
 |false=>exact e0 a
 |true=>
  induction r with
  |cq o=>exact e0 a
  |fK o=>exact e0 a
  |f v=>
   cases v<;>first|exact e0 a|skip
   induction p with
   |cq o=>exact e0 a
   |fK o=>exact e0 a
   |f u=>
    cases u<;>first|exact e0 a|skip
    rename_i d n
    obtain ⟨s,t⟩:=eB (show (if d.length≤100000 then some (iC d n) else none)=_ from a)
    exact ⟨_,_,rfl,rfl,rfl,s,(Option.some.inj t).symm⟩
def YI(w:kc b){p q:cv}(W:e4 b k l p)(ak:e4 b k l q):Ld b k l (.zt p q):=fun {s u f g h i c aH aE} Y o aJ K I=>by
 apply wH (d:=fun h a C aw=>uA h "zip"&&s.lookup ("zip":b4)==O .globalImplicit&&C.isEmpty&&fO a fun f a=>fO a fun A a=>a.isEmpty&& !jy f&& !jy A&&mE b.T s u p f&&mE b.T s u q A) Y
 intro aB a C aI ab
 refine sA ab fun al F ae T=>?_
 apply iq ae
 apply d3 T
 intro aC a P
 apply d3 P
 intro ay a r
 refine Dw r fun r z n G ac=>?_
 apply iq r
 refine ⟨fun f=>rfl,Bk w (a:="zip") (ia _ (ia _ (fD ..))) al F rfl o (by (refine bT (oT (eC z)) ?_;refine bT (oT (eC n)) ?_);rfl) (jh (eC z) (((W G o).d8 _ I).vp fun Q aK az ao aF y X ah ag=>jh (eC n) (((ak ac (o.cc y ah)).d8 _ ag).vp fun aq an aG aA aD v af t aa=>G0 ⟨t.F0 w,?_⟩)))⟩
 refine bU fun x=>?_
 obtain ⟨e,n,L⟩:=fj aa
 obtain ⟨d,aL,rfl,rfl,rfl,ai,rfl⟩:=Lh n
 refine x ?_;try clear x
 exact (Qj o.a.f8 t (X.cO v) af ai L).cO fun Q an am=>am.cO fun au av R=>R.hZ (y.ci v)
end
def BP(b:Wd)(h:du)(g:cz→Prop)(d:Sc)(e:fF)(f:dQ)(K:cV→Prop)(j:bS)(i:cM):Prop:=∃a c,Le g f a∧eU b a h d e c∧c7 b a j i∧K c
def nE(e:du)(d:cz→Prop)(c:fF)(f:List Nat):Prop:=∀g∈f,∀a,(g,a)∈c→∀b,xk e a b→d b
section
variable{d:Wd}{k:d9}{e l:dQ}{j:bS}{g:cM}{b:du}{i:Sc}{c:fF}{a:cV}{h:cz→Prop}
def BP.hZ{K:cV→Prop}(p:Le h e l)(o:BP d b h i c l K j g):BP d b h i c e K j g:=by obtain ⟨m,f,q,n⟩:=o;exact ⟨m,f,p.ci q,n⟩
def tK:∀{a:cV}{o:Nat}{p:bZ}{K:cV→Prop},wf a o p K→K (a.set o (O p)):=by
 intro a
 induction a with
 |nil=>
  intro o
  rcases o with _|_
  ·intro f n m
   first|exact cG m|exact oa m|exact Bool.noConfusion m|exact False.elim m|exact cG n|exact nomatch n|exact Bool.noConfusion n|exact False.elim n|exact cG f|exact nomatch f|exact Bool.noConfusion f|exact False.elim f
  ·intro f n m
   first|exact cG m|exact oa m|exact Bool.noConfusion m|exact False.elim m|exact cG n|exact nomatch n|exact Bool.noConfusion n|exact False.elim n|exact cG f|exact nomatch f|exact Bool.noConfusion f|exact False.elim f
 |cons t r s=>
  intro o
  rcases o with _|o
  ·intro _ _ q
   exact q
  ·intro p K q
   exact s (o:=o) (K:=fun r=>K (t::r)) q
def sM(t:c7 d e j g)(y:eU d e b i c a){n:Nat}{f:b4}{o:bZ}{q:cj}{z:cS}{K:cV→Prop}(x:∀p,xk b f p→h p)(A:(n,f)∈c)(w:dU d e o q)(r:wf a n o K):Wp d k (lk (.Name f z) b q) (fun C m=>BP d b h i c e K j m) g:=
 wpAny_assign_Name (q6 t y A w fun l m s u v=>⟨l,_,s.up x,u,v,tK r⟩)
def q7{K:cV→Prop}:∀{p:List Nat}{q:List ce}{m:List bZ}{n:List cj}{a:cV}{e:dQ}{g:cM},c7 d e j g→eU d e b i c a→nE b h c p→fX p c q=ar→ef d e m n→zw p m a K→
  Wp d k (qF ((tU q b).map (·.2)) n) (fun w F=>BP d b h i c e K j F) g:=by
 intro p
 induction p with
 |nil=>
  intro q m
  rcases m with _|⟨_,_⟩
  ·intro n a e g r t u o s f
   (refine bT (l0.mp o) ?_;refine bT (show n=[] from s) ?_)
   exact Mk ⟨e,a,.cy _,t,r,f⟩
  ·intro _ _ _ _ _ _ _ _ _ f
   exact f.elim
 |cons G p A=>
  intro q m
  rcases m with _|⟨ag,m⟩
  ·intro _ _ _ _ _ _ _ _ _ f
   exact f.elim
  ·intro n a e g r t u o s f
   refine bU fun y=>?_
   obtain ⟨ae,n,rfl,aa,P⟩:=s
   refine y ?_;try clear y
   apply d3 o
   intro af q o
   apply k7 o
   intro x ab o
   refine f4 o fun L R=>?_
   have z:=rb.mp L
   show Wp d k (qF ((fun I=>lk (.Name x ab) b I)::(tU q b).map (·.2)) (ae::n)) _ g
   rw [qF]
   refine c5 (iH ((sM r t (u G (fD ..) x z) z aa f).cO fun w ah T=>?_))
   obtain ⟨ai,ak,v,W,Y,X⟩:=T
   exact (A Y W (fun ac C=>u ac (ia _ C)) R (P.cO v) X).cO fun w al Q=>Q.hZ v
theorem wK{K:cV→Prop}:∀{q:List Nat}{p:List bl}{a:cV},qL q p a K→zw q (p.map .f) a K
 |[],[],_,f=>f
 |[],_::_,_,f=>f.elim
 |_::_,[],_,f=>f.elim
 |m::q,o::p,a,f=>Bm f fun a u=>wK u
where
 Bm {K r:cV→Prop}:∀{a:cV}{m:Nat}{o:bZ},wf a m o K→(∀a,K a→r a)→wf a m o r
  |_::_,0,_,f,s=>s _ f
  |t::n,m+1,o,f,s=>Bm (K:=fun n=>K (t::n)) (r:=fun n=>r (t::n)) (a:=n) (m:=m) f fun v=>s _
def oV{K:cV→Prop}:∀{m:List Nat}{f:List bZ}{a:cV},zw m f a K→m.length=f.length:=by
 intro m
 induction m with
 |nil=>
  intro f
  rcases f with _|⟨_,_⟩
  ·intro _ _
   exact rfl
  ·intro _ n
   exact n.elim
 |cons r m o=>
  intro f
  rcases f with _|⟨p,q⟩
  ·intro _ n
   exact n.elim
  ·intro a n
   exact congrArg pI (o (tK n))
def BZ:∀{n:List Nat}{f:List ce},fX n c f=ar→n.length=(tU f b).length∧(tU f b).findIdx? (·.1)=b1:=by
 intro n
 induction n with
 |nil=>
  intro f m
  refine bT (l0.mp m) ?_;exact ⟨rfl,rfl⟩
 |cons x n q=>
  intro f m
  apply d3 m
  intro w f m
  apply k7 m
  intro o p m
  refine f4 m fun v r=>?_
  obtain ⟨u,t⟩:=q r
  have s:tU (.Name o p::f) b=(b2,lk (.Name o p) b)::tU f b:=rfl
  (refine bT s ?_;rewrite [List.findIdx?_cons];refine bT t ?_)
  exact ⟨congrArg pI u,rfl⟩
def sE(z:k.handled=b1)(x:c7 d e j g)(L:eU d e b i c a){m:List Nat}{o:List ce}{w:Nat}{P:cS}{p:cz}{s:List cj}{q:List bl}{K:cV→Prop}(G:g.heap.IsTuple p s.toArray)(r:dB d e.F q s)(Q:nE b h c m)(t:fX m c o=ar)(f:qL m q a K):Wp d k (lk (.Tuple o w P) b (.ref p)) (fun R v=>BP d b h i c e K j v) g:=by
 have f:=wK f
 obtain ⟨u,F⟩:=BZ (b:=b) t
 refine Mm z G (by (refine gT u ?_;refine bT (oV f) ?_;rewrite [et];refine bT iy ?_;refine bT r.cC ?_;rfl)) F fun y A=>?_
 exact q7 (x.iO (k:=y) g.toks fun C I n=>A C I (kW (nV n)) n) L Q t r.Zg f
def Qk{f:bl}{n:List Nat}{K:cV→Prop}(o:jP a n ar f K):∃m,f=.cQ m∧qL n m a K:=by
 cases f<;>first|exact ⟨_,rfl,o⟩|exact o.elim
def Df(L:k.handled=b1)(w:c7 d e j g)(F:eU d e b i c a){f:List Nat}{y:ce}{x:cj}{n:bl}{K:cV→Prop}(G:nE b h c f):∀{u:Bool},yZ f u c y=ar→Bj d e.F u x n g.heap→jP a f u n K→Wp d k (lk y b x) (fun p I=>BP d b h i c e K j I) g
 |true,o,r,m=>by
  refine bU fun A=>?_
  obtain ⟨X,R,z,rfl,P,rfl,Q⟩:=r
  refine A ?_;try clear A
  apply lA (d:=fun v p p=>fX f c v) o
  intro v Y T s
  exact sE L w F (s:=R.toList) P Q G s m
 |false,o,r,m=>by
  rcases f with _|⟨t,_|⟨W,z⟩⟩
  ·exact dy o
  ·apply k7 (c:=fun q p=>c.contains (t,q)&&fX [] c []) o
   intro q T s
   have C:=rb.mp (gu s).1
   exact sM (o:=.f n) w F (G t (fD ..) q C) C r m
  ·exact pG (mB (oV (wK (show qL (t::W::z) [n] a K from m))))
def Ql{m:List Nat}{q:ce}:∀{r:Bool},yZ m r c q=ar→Hz r q
 |true,f=>by
  apply lA (d:=fun p n n=>fX m c p) f
  intro p w t u
  exact ⟨_,_,_,rfl⟩
 |false,f=>by
  match m,f with
  |[],f=>exact dy f
  |v::s,f=>
   apply k7 (c:=fun o n=>c.contains (v,o)&&fX s c []) f
   intro o t u
   exact ⟨_,_,rfl⟩
end
structure ShS(e:dn) where
 df:Option {p:ce×cS // e=.Expr p.1 p.2}:=b1
 asg:Option {p:List ce×ce×cS // e=.Assign p.1 p.2.1 p.2.2}:=b1
 cw:Option {p:Option ce×cS // e=.Return p.1 p.2}:=b1
 cB:Option {p:ce×List dn×List dn×cS // e=.If p.1 p.2.1 p.2.2.1 p.2.2.2}:=b1
 whl:Option {p:ce×List dn×List dn×cS // e=.While p.1 p.2.1 p.2.2.1 p.2.2.2}:=b1
 fT:Option {p:ce×ce×List dn×List dn×cS // e=.For p.1 p.2.1 p.2.2.1 p.2.2.2.1 p.2.2.2.2}:=b1
 gX:Option {p:cS // e=.Continue p}:=b1
 vY:Option {p:List dn×List Mp×List dn×List dn×cS // e=.Try p.1 p.2.1 p.2.2.1 p.2.2.2.1 p.2.2.2.2}:=b1
noncomputable def N5(e:dn):ShS e:=match e with
 |.Expr a b=>{df:=O ⟨(a,b),rfl⟩}
 |.Assign a b c=>{asg:=O ⟨(a,b,c),rfl⟩}
 |.Return a b=>{cw:=O ⟨(a,b),rfl⟩}
 |.If a b c d=>{cB:=O ⟨(a,b,c,d),rfl⟩}
 |.While a b c d=>{whl:=O ⟨(a,b,c,d),rfl⟩}
 |.For a b c d e=>{fT:=O ⟨(a,b,c,d,e),rfl⟩}
 |.Continue a=>{gX:=O ⟨a,rfl⟩}
 |.Try a b c d e=>{vY:=O ⟨(a,b,c,d,e),rfl⟩}
 |_=>{}
def Jv(c:dn)(b:ce→cS→Bool):Bool:=(N5 c).df.any fun a=>b a.1.1 a.1.2
def Qm{d:dn}{c:ce→cS→Bool}{a:dn→Prop}(i:Jv d c=ar)(h:∀f e,c f e=ar→a (.Expr f e)):a d:=d2 i fun b g j=>g▸h b.1 b.2 j
def lj(c:dn)(b:List ce→ce→cS→Bool):Bool:=(N5 c).asg.any fun a=>b a.1.1 a.1.2.1 a.1.2.2
def lq{e:dn}{d:List ce→ce→cS→Bool}{b:dn→Prop}(j:lj e d=ar)(i:∀g f c,d g f c=ar→b (.Assign g f c)):b e:=d2 j fun a h k=>h▸i a.1 a.2.1 a.2.2 k
def Bn(c:dn)(b:Option ce→cS→Bool):Bool:=(N5 c).cw.any fun a=>b a.1.1 a.1.2
def Ip{d:dn}{c:Option ce→cS→Bool}{a:dn→Prop}(i:Bn d c=ar)(h:∀f e,c f e=ar→a (.Return f e)):a d:=d2 i fun b g j=>g▸h b.1 b.2 j
def V7(c:dn)(b:ce→List dn→List dn→cS→Bool):Bool:=(N5 c).cB.any fun a=>b a.1.1 a.1.2.1 a.1.2.2.1 a.1.2.2.2
def YJ{e:dn}{d:ce→List dn→List dn→cS→Bool}{b:dn→Prop}(k:V7 e d=ar)(j:∀h f c g,d h f c g=ar→b (.If h f c g)):b e:=d2 k fun a i l=>i▸j a.1 a.2.1 a.2.2.1 a.2.2.2 l
def EE(c:dn)(b:ce→List dn→List dn→cS→Bool):Bool:=(N5 c).whl.any fun a=>b a.1.1 a.1.2.1 a.1.2.2.1 a.1.2.2.2
def Li{e:dn}{d:ce→List dn→List dn→cS→Bool}{b:dn→Prop}(k:EE e d=ar)(j:∀h f c g,d h f c g=ar→b (.While h f c g)):b e:=d2 k fun a i l=>i▸j a.1 a.2.1 a.2.2.1 a.2.2.2 l
def N6(c:dn)(b:ce→ce→List dn→List dn→cS→Bool):Bool:=(N5 c).fT.any fun a=>b a.1.1 a.1.2.1 a.1.2.2.1 a.1.2.2.2.1 a.1.2.2.2.2
def S9{b:dn}{e:ce→ce→List dn→List dn→cS→Bool}{c:dn→Prop}(k:N6 b e=ar)(j:∀h f d g b,e h f d g b=ar→c (.For h f d g b)):c b:=d2 k fun a i l=>i▸j a.1 a.2.1 a.2.2.1 a.2.2.2.1 a.2.2.2.2 l
def vI(b:dn)(a:cS→Bool):Bool:=(N5 b).gX.any fun c=>a c.1
def Dg{c:dn}{b:cS→Bool}{a:dn→Prop}(h:vI c b=ar)(g:∀d,b d=ar→a (.Continue d)):a c:=d2 h fun e f i=>f▸g e i
def N7(c:dn)(b:List dn→List Mp→List dn→List dn→cS→Bool):Bool:=(N5 c).vY.any fun a=>b a.1.1 a.1.2.1 a.1.2.2.1 a.1.2.2.2.1 a.1.2.2.2.2
def Ta{b:dn}{e:List dn→List Mp→List dn→List dn→cS→Bool}{c:dn→Prop}(k:N7 b e=ar)(j:∀h f d g b,e h f d g b=ar→c (.Try h f d g b)):c b:=d2 k fun a i l=>i▸j a.1 a.2.1 a.2.2.1 a.2.2.2.1 a.2.2.2.2 l
def lr{a:Type}(c:List a)(b:a→Bool):Bool:=fO c fun d e=>e.isEmpty&&b d
def qi{c:Type}{f:List c}{e:c→Bool}{b:List c→Prop}(d:lr f e=ar)(j:∀a,e a=ar→b [a]):b f:=d3 d fun a g d=>f4 d fun h i=>iq (b:=fun g=>b (a::g)) h (j a i)
noncomputable def B2:cv→Bool
 |.ei .. =>ar
 |_=>b2
section
variable(d:rg)
mutual
noncomputable def mS(sc:Sc)(e9:fF):Cy→dn→Bool
 |.df e,x=>Jv x fun v q9=>!mx v&&mE d sc e9 e v
 |.ch x e,z=>lj z fun ts v q9=>lr ts fun t=>r0 t fun id q9=>e9.contains (x,id)&&(!mx v||B2 e)&&mE d sc e9 e v
 |.eg xs es,z=>lj z fun ts v q9=>lr ts fun t=>i9 t fun tt q9 q9=>i9 v fun vs q9 q9=>fX xs e9 tt&&dY xs.Nodup&&(!(vs.all (Mo 8))||vs.all (Mq 8))&&ti d sc e9 es vs
 |.i0 xs e,z=>lj z fun ts v q9=>lr ts fun t=>i9 t fun tt q9 q9=>!mx v&& !(sh v).cQ.isSome&&fX xs e9 tt&&mE d sc e9 e v
 |.jc o i e,z=>lj z fun ts v q9=>lr ts fun t=>gW t fun o' i' q9=>!mx v&&mE d sc e9 o o'&&mE d sc e9 i i'&&mE d sc e9 e v
 |.oW o i p j a b,z=>lj z fun ts v q9=>lr ts fun t=>i9 t fun tt q9 q9=>fO tt fun t1 tt=>lr tt fun t2=>gW t1 fun o' i' q9=>gW t2 fun p' j' q9=>i9 v fun vs q9 q9=>fO vs fun a' vs=>lr vs fun b'=>!jy a'&& !jy b'&&(mE d sc e9 o o'&&mE d sc e9 i i'&&mE d sc e9 p p'&&mE d sc e9 j j'&&mE d sc e9 a a'&&mE d sc e9 b b')
 |.cw e,z=>Bn z fun v q9=>v.any fun x=>mE d sc e9 e x
 |.cB c a b,z=>V7 z fun t x y q9=>mE d sc e9 c t&&xn sc e9 a x&&xn sc e9 b y
 |.p8 _ c b,z=>EE z fun t x o q9=>o.isEmpty&&mE d sc e9 c t&&xn sc e9 b x
 |.fT xs wO it b,z=>N6 z fun t x ss o q9=>o.isEmpty&&yZ xs wO e9 t&&Ym d sc e9 it x&&xn sc e9 b ss
 |.gX,z=>vI z fun q9=>ar
 |.vY b,z=>N7 z fun ss hs o f q9=>!hs.isEmpty&&o.isEmpty&&f.isEmpty&&xn sc e9 b ss
 |.sN,_=>ar
noncomputable def xn(sc:Sc)(e9:fF):cW→List dn→Bool
 |.N,ss=>ss.isEmpty
 |.J s r,ss=>fO ss fun x ss=>mS sc e9 s x&&xn sc e9 r ss
end
noncomputable def Dh(g:Sc)(b:fF):List (b4×cv)→List dn→Bool
 |[],a=>a.isEmpty
 |f::n,a=>fO a fun m a=>(lj m fun j e c=>lr j fun k=>n3 k fun i l c=>r0 i fun h c=>b.contains (0,h)&& !(h==("__debug__":b4))&& !mx e&&l==f.1&&mE d g b f.2 e)&&Dh g b n a
end
def Jw(d:Wd)(e:dQ):ue→Flow→Prop
 |.cc,a=>a=.next
 |.gX,a=>a=.cont
 |.cw c,a=>∃b,a=.ret b∧dU d e c b
inductive mV(W:Wd)(env:du)(sc:Sc)(e9:fF)(g:dQ)(K:KS)(f:Flow)(s':cM):Prop
 |mk (fl:ue) (ρ':cV) (AO:bS) (g':dQ) (le:Le (cY env) g g') (E:eU W g' env sc e9 ρ') (rep:Jw W g' fl f) (S:c7 W g' AO s') (k:K fl ρ' AO)
def F4(a:Wd)(l:Nat)(i:d9)(b:du)(c:Sc)(d:fF)(j:List dn)(k:cV→bS→KS→Prop):Prop:=∀{f:dQ}{g:bS}{h:cM}{e:cV}(K:KS),At a l i f g h b c d e→k e g K→Wp a i (execs j b) (mV a b c d f K) h
def lW(a:Wd)(l:Nat)(m:cK)(h:Cy):Prop:=∀{b:Sc}{c:fF}{j:dn}{k:d9}{f:dQ}{g:bS}{i:cM}{d:du}{e:cV},mS a.T b c h j=ar→At a l k f g i d b c e→∀(K:KS),vS ⟨a.T,m⟩ h e g K→Wp a k (f9 j d) (mV a d b c f K) i
def tL(a:Wd)(g:Nat)(h:cK)(e:cW):Prop:=∀{b:Sc}{c:fF}{d:List dn}{i:d9}{f:du},xn a.T b c e d=ar→F4 a g i f b c d (fG ⟨a.T,h⟩ e)
section
variable{b:Wd}{k:d9}{f:Nat}{h:cK}{g m:dQ}{j:bS}{i:cM}{c:du}{d:Sc}{e:fF}{l:cV}
def mV.hZ{K:KS}{a:Flow}(t:Le (cY c) g m)(s:mV b c d e m K a i):mV b c d e g K a i:=by obtain ⟨v,r,n,q,u,x,p,o,w⟩:=s;exact ⟨v,r,n,q,t.ci u,x,p,o,w⟩
def mV.cc{K:KS}{a:bS}{n:cV}(q:Le (cY c) g m)(o:eU b m c d e n)(r:c7 b m a i)(p:K .cc n a):mV b c d e g K .next i:=⟨.cc,_,_,_,q,o,rfl,r,p⟩
def Wp.xp{r:gl Flow}{K:KS}{s:Flow→cM→Prop}(x:Wp b k r (mV b c d e g K) i)(w:∀n p q o a m,Le (cY c) g m→eU b m c d e o→Jw b m q n→c7 b m a p→K q o a→s n p):Wp b k r s i:=x.cO fun n p t=>by obtain ⟨q,o,a,m,y,u,A,z,v⟩:=t;exact w n p q o a m y u A z v
def At.Bo(q:At b f k g j i c d e l){m:dQ}{a:bS}{o:cM}{n:cV}(p:eU b m c d e n)(r:c7 b m a o):At b f k m a o c d e n:=⟨q.a,r,p⟩
def x4{a:ce}(n:mx a=b2)(o:Option ce)(p:Nat):Cn a o p c=ej b2:=by
 cases a<;>first|rfl|exact dy n
def abh:lW b f h .sN:=fun n o K a=>a.elim
def YK:lW b f h .gX:=fun n a K o=>by
 apply Dg (b:=fun p=>ar) n
 intro q _
 exact wpAny_Continue ⟨.gX,_,_,_,.cy _,a.E,rfl,a.S,o⟩
def YL{n:cv}(v:e4 b f h n):lW b f h (.df n):=fun {d e F k g j i c l} w p K t=>by
 apply Qm (c:=fun a u=>!mx a&&mE b.T d e n a) w
 intro a o x
 refine f4 x fun A s=>?_
 have z:Mu c=b2:=by unfold Mu;refine bT p.E.dm ?_;rfl
 show Wp b k (do
  qJ o
  if Mu c then printExpr (fk a c)
  else if ← Cn a b1 o.line c then do evalThenUse a c fun u=>point;ej .next
  else do dropValue a o (← fk a c)) _ i
 refine c5 (oy ?_)
 (refine bT z ?_;rw [x4 (eC A)])
 refine c5 (fR (c5 (((v s p).d8 _ t).vp fun Q L G C P r I q y=>?_)))
 exact wpAny_dropValue (.cc r.vd (p.cc r q).E q y)
def abi{a:cv}(t:e4 b f h a):lW b f h (.cw a):=fun {d e n k g j i c l} w r K s=>by
 apply Ip (c:=fun o F=>o.any fun n=>mE b.T d e a n) w
 intro o L x
 obtain ⟨P,rfl,z⟩:=jC x
 exact wpAny_Return_some (((t z r).d8 _ s).vp fun A G u C I q v p y=>⟨.cw u,_,_,_,q.vd,(r.cc q p).E,⟨A,rfl,v⟩,p,y⟩)
def abj{a:cv}{p n:cW}(z:e4 b f h a)(L:tL b f h p)(A:tL b f h n):lW b f h (.cB a p n):=fun {d e r k g j i c l} F t K C=>by
 apply YJ (d:=fun o r x u=>mE b.T d e a o&&xn b.T d e p r&&xn b.T d e n x) F
 intro o r x Y G
 refine g7 G fun R y P=>wpAny_If (((z R t).m4 (fun o j=>pT o (fG _ p _ j K) (fG _ n _ j K)) (fun u u Q=>Q) C).ve fun a aa W X q w v=>?_)
 induction a with
 |true=>exact (L y K (t.cc q w) v).cO fun I T s=>s.hZ q.vd
 |false=>exact (A P K (t.cc q w) v).cO fun I T s=>s.hZ q.vd
def YM:tL b f h .N:=fun {d e p k c} n {g j i l} K a o=>by
 apply iq n
 exact Cl (.cc (.cy _) a.E a.S o)
def Tb{n:Cy}{a:cW}(Q:lW b f h n)(G:tL b f h a):tL b f h (.J n a):=fun {d e o k c} I {g j i l} K x A=>by
 apply d3 (f:=fun v o=>mS b.T d e n v&&xn b.T d e a o) I
 intro v o L
 refine f4 L fun R y=>UE ((Q R x _ A).xp fun q Y P X T W u r p t s=>?_)
 induction P with
 |cc=>
  refine bT (show q=.next from p) ?_
  exact (G y K (x.Bo r t) s).cO fun q aa C=>C.hZ u
 |gX=>
  refine bT (show q=.cont from p) ?_
  exact ⟨.gX,_,_,_,u,r,rfl,t,s⟩
 |cw F=>
  refine bU fun w=>?_
  obtain ⟨z,rfl,a⟩:=p
  refine w ?_;try clear w
  exact ⟨.cw F,_,_,_,u,r,⟨z,rfl,a⟩,t,s⟩
def Tc{p:cW}(u:tL b f h p):lW b f h (.vY p):=fun {d e G k g j i c l} x A K v=>by
 apply Ta (e:=fun r o s n I=>!o.isEmpty&&s.isEmpty&&n.isEmpty&&xn b.T d e p r) x
 intro r o s n P y
 refine sA y fun q t z w=>?_
 apply iq t
 apply iq z
 match o,q with
 |[],q=>exact dy q
 |C::o,_=>
 refine wpAny_Try_except ((u w K A v).mQ fun n F a=>?_)
 induction n with
 |next=>exact Cl a
 |cont=>exact a
 |brk=>exact a
 |ret L=>exact a
def Fk(aq:xi k f){a:cv}(ae:e4 b f h a){T:ce}(o:mE b.T d e a T=ar){R:List dn}{A:cV→bS→KS→Prop}(af:F4 b f k c d e R A){K:KS}{L:dQ}{Y:tZ→cM→Prop}
  (ab:∀q s,mV b c d e L K q s→Y (.ok q) s) (W:Nat) {j:bS} {l:cV} {i:cM} {g:dQ} (u:Le (cY c) L g) (x:At b f k g j i c d e l)
  (t:qb (zx (vE ⟨b.T,h⟩ a)) A K W l j):mA (i5 b.dP b.w) k (.whileLoop T R [] c) Y i:=by
 refine codeAny_whileLoop (fun p i=>∃g j l,Le (cY c) L g∧At b f k g j i c d e l∧qb (zx (vE ⟨b.T,h⟩ a)) A K p l j) ?_ W ⟨g,j,l,u,x,t⟩
 rintro p i ⟨g,j,l,u,x,t⟩
 induction p with
 |zero=>exact t.elim
 |succ p=>
 refine (((ae o x).m4 (K2:=lS _) _ (fun ah ah an=>an) t).ve (m:=fun a s=>TP b g _ a s) fun a ao P ac r w v=>⟨P,ac,r,w,v⟩).mQ fun a ao G=>?_
 refine bU fun n=>?_
 obtain ⟨P,ac,r,w,v⟩:=G
 refine n ?_;try clear n
 have o:=x.cc r w
 induction a with
 |false=>exact Cl (ab _ _ (.cc (u.ci r.vd) o.E w v))
 |true=>
  refine (af _ o v).mQ fun q au G=>?_
  refine bU fun n=>?_
  obtain ⟨al,Q,X,aa,ak,F,C,y,I⟩:=G
  refine n ?_;try clear n
  have z:=(u.ci r.vd).ci ak
  induction al with
  |cc=>refine bT (show q=.next from C) ?_;exact ⟨p,h9 _,aa,X,Q,z,o.Bo F y,I⟩
  |gX=>refine bT (show q=.cont from C) ?_;exact ⟨p,h9 _,aa,X,Q,z,o.Bo F y,I⟩
  |cw ai=>
   refine bU fun n=>?_
   obtain ⟨ag,rfl,am⟩:=C
   refine n ?_;try clear n
   exact ab _ _ ⟨.cw ai,_,_,_,z,F,⟨ag,rfl,am⟩,y,I⟩
def Qn{s:Nat}{o:cv}{n:cW}(u:e4 b f h o)(v:tL b f h n):lW b f h (.p8 s o n):=fun {d e a k g j i c l} y r K w=>by
 apply Li (d:=fun p a q G=>q.isEmpty&&mE b.T d e o p&&xn b.T d e n a) y
 intro p a q L z
 refine g7 z fun C t A=>?_
 apply iq C
 exact wpAny_While (Fk r.a u t (v A) (fun I F x=>x) s (.cy _) r w)
end
section
variable{d:Wd}{h:d9}{k:Nat}{l:cK}{b m:dQ}{g:bS}{j:cM}{c:du}{i:Sc}{e:fF}{f:cV}
def vj{o:Type}{n:List o}{a:Nat}{p:o}{s:List o}(r:n.drop a=p::s):n[a]? =O p∧n.drop (a+1)=s:=by
 have q:(n.drop a)[0]? =O p:=by refine bT r ?_;rfl
 rw [L9] at q
 exact ⟨q,by (refine gT Uk ?_;refine bT r ?_);rfl⟩
def pF(o:List Nat):nE c (cY c) e o:=fun a a a a a n=>n.h8
def yw{z:cz}{s:cz→Prop}{u:Nat→dQ→Prop}{A:Bool}{C:List bl}{v:cz→Prop}(T:It d h z A C s u)(R:∀a,s a→¬cY c a)(ao:∀a,v a→cY c a){t:Nat}(r:At d k h b g j c i e f)(ak:u t b){F:bl}{y:List Nat}{w:ce}{K:cV→Prop}(ag:C[t]? =O F)(au:nE c v e y)(L:yZ y A e w=ar)(aa:jP f y A F K):
  Wp d h (pM (.ref z)) (fun Q W=>∃n,Q=O n∧Wp d h (vW w (.ref z) n) (fun o X=>Wp d h (lk w c n) (fun o G=>∃p q,Le (fun a=>s a∨v a) b p∧At d k h p g G c i e q∧u (t+1) p∧K q) X) W) j:=by
 refine (T.oU ak r.S ag (Ql L)).cO fun Q W x=>?_
 obtain ⟨n,an,aq⟩:=x
 refine ⟨n,an,aq.cO fun o X x=>?_⟩
 obtain ⟨av,I,ae,af,Y⟩:=x
 refine (Df r.a.f8 ae (r.E.cO I R) au L Y aa).cO fun o G ai=>?_
 obtain ⟨p,q,P,ah,ac,ab⟩:=ai
 exact ⟨p,q,(I.up fun o=>.inl).ci (P.up fun o=>.inr),r.Bo ah ac,T.cO af P fun a al am=>R a al (ao a am),ab⟩
def mi{n r:cz→Prop}{q:dQ}(s:∀a,n a→q.T a=b1)(p:Le (fun a=>n a∨r a) q b):Le r q ⟨b.F,b.T.h3 n,b.α⟩:=⟨p.F,p.α,fun a t=>by
 by_cases o:n a
 ·exact (o8 o:b.T.h3 n a=b1).trans (s a o).symm
 ·exact (ot o:b.T.h3 n a=_).trans (p.T a fun u=>u.elim o t)⟩
def Le.h3(a:cz→Prop):Le a b ⟨b.F,b.T.h3 a,b.α⟩:=⟨k4.cy _,jU _,fun o n=>ot n⟩
def eU.h3{a:cz→Prop}(p:eU d b c i e f)(o:∀n,a n→¬cY c n):eU d ⟨b.F,b.T.h3 a,b.α⟩ c i e f:=p.cO (Le.h3 a) o
def Lj{aq:cz}{q:cz→Prop}{G:Nat→dQ→Prop}{u:Bool}{r:List bl}(R:It d h aq u r q G){z:dQ}(am:∀n,q n→z.T n=b1)(Q:∀n,q n→¬cY c n){t:List Nat}{ag:ce}(aF:yZ t u e ag=ar){ae:List dn}{v:cV→bS→KS→Prop}(ay:F4 d k h c i e ae v){K:KS}
  {al:tZ→cM→Prop} (ao:∀y aa,mV d c i e z K y aa→al (.ok y) aa) {b:dQ} {g:bS} {j:cM} {f:cV} (A:At d k h b g j c i e f) (P:G 0 b) (F:Le (fun n=>q n∨cY c n) z b) (C:jZ v t u K r f g):mA (i5 d.dP d.w) h (.forLoop ag (.ref aq) ae [] c) al j:=by
 refine codeAny_forLoop_any (fun au j=>∃p a b g f,r.drop p=a∧p+a.length=r.length∧au=a.length+1∧Le (fun n=>q n∨cY c n) z b∧At d k h b g j c i e f∧G p b∧jZ v t u K a f g) ?_ (r.length+1) ⟨0,r,b,g,f,rfl,kU _,rfl,F,A,P,C⟩
 rintro au j ⟨p,a,b,g,f,w,an,rfl,F,A,P,C⟩
 induction a with
 |nil=>
  obtain rfl:p=r.length:=an
  refine (R.nz P A.S).mQ fun a aQ ⟨w,aJ⟩=>?_
  subst w
  exact Cl (ao _ _ (.cc (mi am F) (A.E.h3 Q) aJ C))
 |cons aC a=>
  obtain ⟨aE,w⟩:=vj w
  refine (yw R Q (fun s aP=>aP) A P aE (pF t) aF C).mQ fun aU aQ x=>?_
  refine bU fun o=>?_
  obtain ⟨aS,aK,aN⟩:=x
  refine o ?_;try clear o
  subst aK
  refine aN.mQ fun s aW aL=>aL.mQ fun s aR x=>?_
  refine bU fun o=>?_
  obtain ⟨aV,aT,aG,av,aD,aA⟩:=x
  refine o ?_;try clear o
  refine (ay _ av aA).mQ fun y ai x=>?_
  refine bU fun o=>?_
  obtain ⟨aI,X,ab,I,ak,af,T,Y,W⟩:=x
  refine o ?_;try clear o
  have ac:=(F.ci aG).ci (ak.up fun s=>.inr)
  have aw:=R.cO aD ak Q
  have ah:jZ v t u K a X ab→∃L,L<(aC::a).length+1∧∃p a b g f,r.drop p=a∧p+a.length=r.length∧L=a.length+1∧Le (fun n=>q n∨cY c n) z b∧At d k h b g ai c i e f∧G p b∧jZ v t u K a f g:=fun aO=>⟨a.length+1,h9 _,p+1,a,I,ab,X,w,(y4 ..).trans an,rfl,ac,av.Bo af Y,aw,aO⟩
  induction aI with
  |cc=>refine bT (show y=.next from T) ?_;exact ah W
  |gX=>refine bT (show y=.cont from T) ?_;exact ah W
  |cw L=>
   refine bU fun o=>?_
   obtain ⟨az,rfl,aM⟩:=T
   refine o ?_;try clear o
   exact ao _ _ ⟨.cw L,_,_,⟨I.F,I.T.h3 q,I.α⟩,mi am ac,af.h3 Q,⟨az,rfl,aM.cO (Le.h3 q)⟩,Y.h3 q ai.toks (fun n aH=>R.y1 aw aH) fun s s s aB=>aB,W⟩
def YN{t:List Nat}{s:Bool}{p:ub}{r:cW}(ae:Ld d k l p)(I:tL d k l r):lW d k l (.fT t s p r):=fun {i e q h b g j c f} W o K P=>by
 apply S9 (e:=fun x q w a R=>a.isEmpty&&yZ t s e x&&Ym d.T i e p q&&xn d.T i e r w) W
 intro x q w a av Y
 refine sA Y fun ag C ab T=>?_
 apply iq ag
 obtain ⟨af,Q⟩:=ae ab o s _ P
 refine wpAny_For (Q.cO fun an aw ah=>ah.cO fun ak ay aa=>?_) af
 obtain ⟨ao,aq,m,au,F,v,am,G,u,z,ac,L,ai,X⟩:=aa
 refine bT L ?_
 have A:∀n,F n→¬cY c n:=fun n a y=>o.E.h8 y (z n a)
 exact Lj ai z A C (I T) (fun y al v=>v) (o.Bo (o.E.cO u A) ac) X (u.up fun R=>.inl) G
end
section
variable{b:Wd}{e:d9}{k:Nat}{j:cK}{i m:dQ}{n:bS}{c:cM}{d:du}{h:Sc}{g:fF}{l:cV}
def vk(A:kc b){o a:cv}(T:e4 b k j o)(R:e4 b k j a){s q:ce}{W:cS}(y:mE b.T h g o s=ar)(G:mE b.T h g a q=ar)(t:At b k e i n c d h g l){u:cj}{r:bZ}(Q:dU b i r u){K:bS→Prop}(v:QS (vE ⟨b.T,j⟩ o l) (vE ⟨b.T,j⟩ a l) K r n):Wp b e (lk (.Subscript s q W) d u) (TP b i fun (_:Unit) F=>K F) c:=by
 rw [arm_assign_Subscript]
 refine c5 (iH (((T y t).d8 _ v).vp fun ac af ae X ai p z P L=>?_))
 refine c5 (iH (((R G (t.cc p P)).d8 _ L).vp fun Y al ak ag ah f I w C=>c5 (oy ?_)))
 exact c5 (iH ((Db A w (z.cO f) I (Q.cO (p.ci f)) C).cO fun ab aa x=>GF (x.hZ (p.ci f))))
def Jx{f:List ce}{a:ce}{q:cS}{K:KS}{r:KE}(v:Mr f a q.line d=ej b2)(u:vX f a d=ej b1)(w:Wp b e (fk a d) (VP b i r) c)(x:∀s p t o m,pY i m→dU b m t s→c7 b m o p→r t o→Wp b e (assignAll s ((tU f d).map (·.2))) (fun z y=>mV b d h g i K .next y) p):Wp b e (f9 (.Assign f a q) d) (mV b d h g i K) c:=
 Gz (w.vp x) v u
def BP.rQ{K:KS}{o:bS}{p:gl Unit}(u:pY i m)(t:Wp b e p (fun a f=>BP b d (cY d) h g m (fun l=>K .cc l o) o f) c):Wp b e p (fun a f=>mV b d h g i K .next f) c:=t.cO fun a a q=>by obtain ⟨y,x,v,r,w,s⟩:=q;exact .cc (u.vd.ci v) r w s
theorem Bp{o q:cz}{p:List cj}(w:q≠o):∀(f a:Nat)(c:cM)(r:List cj→cM→Prop),c.heap.IsListIter o q a→c.heap.IsList q p.toArray→a+f≤p.length→
  (∀s,s.IsListIter o q (a+f)→t5 o c.heap s→r ((p.drop a).take f) {c with heap:=s})→Wp b e (draw (.ref o) f) r c
 | 0,a,c,r,u,_,_,t=>fR (t c.heap u (Heap.SameBut.refl ..))
 |f+1,a,c,r,u,A,z,t=>by
  have y:a<p.length:=hH (B7 (nI f)) z
  refine c5 (m:=pM (.ref o)) (wpAny_pyNext_list_item u A (x:=p[a]) (tQ .. ▸gS y) fun K I x=>?_)
  have v:a+1+f=a+(f+1):=y4 a f
  refine c5 (iH (Bp w f (a+1) _ _ I (A.extBut x.extBut w) (v▸z) fun C F G=>fR ?_))
  have:=t C (v▸F) (x.trans G)
  rw [TS y] at this
  exact this
def Di(A:e.handled=b1){a:cz}{f:List cj}{G:Nat}{w:List cj→cM→Prop}(o:c.heap.get? a=O (dl "list" f G))
  (F:∀r,Heap.ExtBut c.heap.objs.size c.heap r→w f {c with heap:=r}):Wp b e (Mv (.ref a) f.length b1) w c:=by
 have p:=eN o
 have v:a≠c.heap.objs.size:=kW (nV o)
 unfold Mv
 refine c5 (m:=GD (.ref a)) (vH (a:=b) (k:=b2) o ?_)
 refine c5 (m:=pK [.ref a] (kh (.ref a))) (iH (Mn p ?_))
 refine c5 (m:=pK [.ref c.heap.objs.size] (draw (.ref c.heap.objs.size) f.length)) (iH (Bp v f.length 0 _ _ ⟨_,oz _ rfl,rfl,rfl⟩ (p.push _) (jH (kU _)) fun I x u=>?_))
 (refine bT Um ?_;refine bT eO ?_;refine bT (if_neg (B9 _)) ?_)
 rw [kU] at x
 refine c5 (iH (wpAny_pyNext_list_end A x ((p.push _).extBut u.extBut v) (tQ .. ▸Gl (dX _)) fun z y=>?_))
 exact fR (F z fun s t q C=>y s t q (u.extBut s t q (ng _ C)))
def Dj{p:bZ}{f:List bl}(a:oe p=O f):∃t,p=.f (Du (t,f)):=by
 refine bU fun o=>?_
 obtain ⟨u,r,a⟩:=cH a
 obtain ⟨q,s,rfl⟩:=dC a
 refine o ?_;try clear o
 exact ⟨q.1,(ik r).trans (congrArg bZ.f (te s))⟩
def B3{a:ce}(p:mx a=b2)(f:ce)(o:Nat):Mr [f] a o d=ej b2:=x4 p (O f) o
def Qo{o:List ce}{q:Nat}{f:cS}{a:ce}(p:(sh a).cQ.isSome=b2):vX [.Tuple o q f] a d=ej b1:=by
 cases a<;>first|rfl|exact dy p
def Qp{q:List Nat}{f:cv}(ab:e4 b k j f):lW b k j (.i0 q f):=fun {h g aw e i n c d l} ah t K X=>by
 apply lq (d:=fun s o y=>lr s fun a=>i9 a fun am y y=>!mx o&& !(sh o).cQ.isSome&&fX q g am&&mE b.T h g f o) ah
 intro s o Q p
 refine qi (b:=fun s=>Wp b e (f9 (.Assign s o Q) d) _ c) p fun a p=>lA (b:=fun a=>Wp b e (f9 (.Assign [a] o Q) d) _ c) p fun x R ak p=>sA p fun au T u aa=>?_
 refine Jx (B3 (eC au) _ _) (Qo (eC T)) ((ab aa t).d8 _ X) fun aA A ay W az w ag r an=>?_
 refine bU fun L=>?_
 obtain ⟨z,ao,C⟩:=fj an
 obtain ⟨a,rfl⟩:=Dj ao
 have I:=(t.cc w r).E
 obtain ⟨aq,G,av,rfl,F,v⟩:=mf (r:=Du (a,z)) (n:=(a,z)) r ag rfl (by induction a<;>rfl)
 refine L ?_;try clear L
 induction a with
 |true=>exact BP.rQ w (sE (w:=R) t.a.f8 r I (s:=G) (kb F) v (pF q) u C)
 |false=>
  obtain ⟨af,al⟩:=BZ (b:=d) u
  have P:=wK C
  refine BP.rQ (o:=W) w ?_
  show Wp b e (lk (.Tuple x R ak) d (.ref aq)) _ A
  rw [arm_assign_Tuple]
  refine c5 (oy ?_)
  unfold unpack
  rw [al,show (tU x d).length=G.length by (refine gT af ?_;refine bT (oV P) ?_;rewrite [et];refine bT v.cC ?_;rfl)]
  exact c5 (iH (Di t.a.f8 F fun Y ac=>q7 (r.iO (k:=Y) A.toks fun ae ai f=>ac ae ai (kW (nV f)) f) I (pF q) u v.Zg P))
def Qq(Q:kc b){s r q:cv}(aa:e4 b k j s)(Y:e4 b k j r)(I:e4 b k j q):lW b k j (.jc s r q):=fun {h g ae e i n c d l} P u K F=>by
 apply lq (d:=fun p a x=>lr p fun o=>gW o fun z v x=>!mx a&&mE b.T h g s z&&mE b.T h g r v&&mE b.T h g q a) P
 intro p a A f
 refine qi (b:=fun p=>Wp b e (f9 (.Assign p a A) d) _ c) f fun o f=>kS (b:=fun o=>Wp b e (f9 (.Assign [o] a A) d) _ c) f fun z v ag f=>sA f fun ab C T G=>?_
 refine Jx (B3 (eC ab) _ _) rfl ((I G u).d8 _ F) fun am ah af ac al t L X W=>?_
 refine (vk Q aa Y C T (u.cc t X) L W).ve fun x an ai ak y w R=>?_
 exact .cc (t.ci y).vd (u.cc (t.ci y) w).E w R
end
noncomputable def qm(b:cV)(a:Nat×bZ):cV:=b.set a.1 (O a.2)
def tM(b:List (Nat×bZ))(a:cV):cV:=b.foldl qm a
def y3(a:ce):b4:=(N3 a).getD ⟨#[]⟩
section
variable{c:Wd}{i:d9}{k:Nat}{l:cK}{b j:dQ}{h:bS}{f:cM}{e:du}{g:Sc}{d:fF}{a:cV}
def Lk{K:cV→Prop}:∀{o:List Nat}{n:List bZ}{a:cV},zw o n a K→K (tM (o.zip n) a):=by
 intro o
 induction o with
 |nil=>
  intro n
  rcases n with _|⟨_,_⟩
  ·intro _ m
   exact m
  ·intro _ m
   exact m.elim
 |cons s o p=>
  intro n
  rcases n with _|⟨r,q⟩
  ·intro _ m
   exact m.elim
  ·intro a m
   exact p (n:=q) (tK m)
def Qr{n:Nat}{o:bZ}:∀{m:List (Nat×bZ)}{a:cV},n∉m.map (·.1)→tM m (a.set n (O o))=(tM m a).set n (O o):=by
 intro m
 induction m with
 |nil=>
  intro _ _
  exact rfl
 |cons p m q=>
  intro a t
  obtain ⟨r,s⟩:=not_or.mp (mt eP.mpr t)
  show tM m (qm (a.set n (O o)) p)=(tM m (qm a p)).set n (O o)
  refine gT (q s) ?_
  exact congrArg (tM m) (List.set_comm _ _ r)
def Qs:∀{m:List (Nat×bZ)}{a:cV},(m.map (·.1)).Nodup→tM m.reverse a=tM m a:=by
 intro m
 induction m with
 |nil=>
  intro _ _
  exact rfl
 |cons n m o=>
  intro a r
  obtain ⟨p,q⟩:=vU.mp r
  unfold tM
  (refine bT uN ?_;refine bT tR ?_)
  show qm (tM m.reverse a) n=tM m (qm a n)
  refine bT (o q) ?_
  exact (Qr p).symm
def r3(c:Wd)(d:fF)(b:dQ)(m:(Nat×bZ)×b4×cj):Prop:=((m.1.1,m.2.1)∈d)∧(dU c b m.1.2 m.2.2)
section
variable{o:Wd}{p:fF}{q:dQ}{m:(Nat×bZ)×b4×cj}(n:r3 o p q m)
include n
def r3.v:(m.1.1,m.2.1)∈p:=n.1
def r3.r:dU o q m.1.2 m.2.2:=n.2
end
def Qt:∀{m:List ((Nat×bZ)×b4×cj)}{a:cV}{b:dQ}{f:cM},c7 c b h f→eU c b e g d a→(∀n∈m,r3 c d b n)→
  Wp c i (qF ((m.map (·.2.1)).map fun r=>GO e r) (m.map (·.2.2))) (fun s x=>BP c e (cY e) g d b (fun z=>z=tM (m.map (·.1)) a) h x) f:=by
 intro m
 induction m with
 |nil=>
  intro a b f p q o
  exact Mk ⟨b,a,.cy _,q,p,rfl⟩
 |cons n m w=>
  intro a b f p q o
  have t:=o n (fD ..)
  show Wp c i (qF ((fun y=>GO e n.2.1 y)::(m.map (·.2.1)).map fun r=>GO e r) (n.2.2::m.map (·.2.2))) _ f
  rw [qF]
  refine c5 (iH (wpAny_bindName (q6 p q t.v t.r fun I K v C F=>?_)))
  exact (w F C fun n u=>⟨(o n (ia _ u)).v,(o n (ia _ u)).r.cO v⟩).cO fun s L A=>A.hZ (v.up fun s G=>G.h8)
noncomputable def Bq:List Nat→List ce→List bZ→List cj→List ((Nat×bZ)×b4×cj)
 |s::o,m::q,t::r,n::p=>((s,t),y3 m,n)::Bq o q r p
 |_,_,_,_=>[]
def YO:∀{n:List Nat}{o:List ce}{m:List bZ}{p:List cj},fX n d o=ar→ef c b m p→n.length=m.length→
  (∀q∈Bq n o m p,r3 c d b q)∧(Bq n o m p).map (·.1)=n.zip m∧(Bq n o m p).map (·.2.1)=o.map y3∧(Bq n o m p).map (·.2.2)=p:=by
 intro n
 induction n with
 |nil=>
  intro o m
  rcases m with _|⟨_,_⟩
  ·intro p u x _
   (refine bT (l0.mp u) ?_;refine bT (show p=[] from x) ?_);exact ⟨(fun q y=>absurd y gD),rfl,rfl,rfl⟩
  ·intro _ _ _ v
   exact pG v
 |cons r n z=>
  intro o m
  rcases m with _|⟨s,m⟩
  ·intro _ _ _ v
   exact pG v
  ·intro p u x v
   refine bU fun w=>?_
   obtain ⟨t,p,rfl,L,I⟩:=x
   refine w ?_;try clear w
   refine d3 (e:=fun o=>(∀q∈Bq (r::n) o (s::m) (t::p),r3 c d b q)∧(Bq (r::n) o (s::m) (t::p)).map (·.1)=(r::n).zip (s::m)∧(Bq (r::n) o (s::m) (t::p)).map (·.2.1)=o.map y3∧(Bq (r::n) o (s::m) (t::p)).map (·.2.2)=t::p) u fun q o u=>?_
   refine k7 (a:=fun q=>(∀y∈Bq (r::n) (q::o) (s::m) (t::p),r3 c d b y)∧(Bq (r::n) (q::o) (s::m) (t::p)).map (·.1)=(r::n).zip (s::m)∧(Bq (r::n) (q::o) (s::m) (t::p)).map (·.2.1)=(q::o).map y3∧(Bq (r::n) (q::o) (s::m) (t::p)).map (·.2.2)=t::p) u fun Q R u=>f4 u fun F K=>?_
   refine bU fun w=>?_
   obtain ⟨C,G,A,P⟩:=z K I (mB v)
   refine w ?_;try clear w
   exact ⟨lY.mpr ⟨⟨rb.mp F,L⟩,C⟩,congrArg (_:: ·) G,congrArg (_:: ·) A,congrArg (_:: ·) P⟩
def z6{r u:Type}{o:r→Option u}{b:r→u}:∀{m:List r},(∀p∈m,∀n,o p=O n→n=b p)→(m.filterMap o).length=m.length→m.filterMap o=m.map b:=by
 intro m
 induction m with
 |nil=>
  intro _ _
  exact rfl
 |cons p m v=>
  intro t q
  cases s:o p with
  |some n=>
   rw [L1 s] at q⊢
   (refine bT (v (fun n w=>t n (ia _ w)) (mB q)) ?_;refine bT (t p (fD ..) n s) ?_);rfl
  |none=>
   rw [List.filterMap_cons_none s] at q
   exact absurd (vN o m) (q▸LQ _)
end
section
variable{b:Wd}{d:d9}{h:Nat}{i:cK}{l m:dQ}{j:bS}{e:cM}{c:du}{g:Sc}{f:fF}{k:cV}
def Qu:∀{r:List Nat}{a:List ce},fX r f a=ar→∀q∈a,∃n o,q=.Name n o:=by
 intro r
 induction r with
 |nil=>
  intro a p
  refine bT (l0.mp p) ?_;exact fun q u=>absurd u gD
 |cons v r t=>
  intro a p
  exact d3 (e:=fun a=>∀q∈a,∃n o,q=.Name n o) p fun s a p=>k7 (a:=fun s=>∀q∈s::a,∃n o,q=.Name n o) p fun n o p=>lY.mpr ⟨⟨n,o,rfl⟩,t (gu p).2⟩
def z7{x:List Nat}{n a:List ce}{q o:Nat}{r u:cS}(C:fX x f n=ar)(p:(!(a.all (Mo 8))||a.all (Mq 8))=ar):
  vX [.Tuple n q r] (.Tuple a o u) c=ej b1∨vX [.Tuple n q r] (.Tuple a o u) c=ej (O (n.map y3)):=by
 unfold vX
 dsimp only
 split
 ·exact .inl rfl
 split
 ·exact .inl rfl
 split
 ·exact .inl rfl
 split
 ·exact .inl rfl
 rename_i A v
 rw [r5.mpr v,vK] at p
 refine bT (eC p) ?_
 refine .inr ?_
 have s:=(not_or.mp (mt nR.mpr A)).1
 rw [bne_iff_ne,Decidable.not_not] at s
 have:=z6 (b:=y3) (fun y z I w=>?_) s
 ·show (ej (O _):gl (Option (List b4)))=_
  (refine bT this ?_;rfl)
 ·refine bU fun t=>?_
  obtain ⟨F,G,rfl⟩:=Qu C y z
  refine t ?_;try clear t
  exact (dg (eB w).2).symm
def Jy{r:dS}(y:vh b h i r){s:List ce}{T:Nat}{C:cS}(A:ti b.T g f r s=ar)(R:At b h d l j e c g f k){K:List bZ→bS→Prop}{t:Nat}(z:t≤100000)(x:II ⟨b.T,i⟩ r k j fun a j=>lu (sn a.length t) fun W=>K a j){v:cj→cM→Prop}
  (Q:∀w p a o n q,pY l n→ef b n a p→c7 b n o q→q.heap.IsTuple w p.toArray→K a o→v (.ref w) q):Wp b d (fk (.Tuple s T C) c) v e:=
 Ml ((y A R _ _ x).ms fun p q a o n P u G I=>by
  obtain ⟨L,F⟩:=tj I
  exact ⟨qU (u.cC.symm▸cu L z),Q _ p a o n _ P u (G.d0 _) (kb (oz _ rfl)) F⟩)
def F5{a n:Type}{o:a→n}{p:List a}{q:List n}(r:p.map o=q):p.reverse.map o=q.reverse:=List.map_reverse.trans (congrArg List.reverse r)
def Ll{s:List Nat}{P:dS}(ag:vh b h i P):lW b h i (.eg s P):=fun {g f aI d l j e c k} aD r K ac=>by
 apply lq (d:=fun C p t=>lr C fun q=>i9 q fun o t t=>i9 p fun u t t=>fX s f o&&dY s.Nodup&&(!(u.all (Mo 8))||u.all (Mq 8))&&ti b.T g f P u) aD
 intro C p F n
 refine qi (b:=fun C=>Wp b d (f9 (.Assign C p F) c) _ e) n fun q n=>lA (b:=fun q=>Wp b d (f9 (.Assign [q] p F) c) _ e) n fun o z ah n=>lA (b:=fun p=>Wp b d (f9 (.Assign _ p F) c) _ e) n fun u aa an n=>sA n fun G au aG af=>?_
 rcases z7 (c:=c) (q:=z) (o:=aa) (r:=ah) (u:=an) G aG with L|L
 ·refine Gz (Jy ag af r (t:=1000) (by decide) ac fun ak X ae ab am I y A x v w=>?_) rfl L
  obtain ⟨aA,aE⟩:=BZ (b:=c) G
  refine BP.rQ (o:=ab) y (Mm (x1:=z) r.a.f8 v (by (refine gT aA ?_;refine bT (oV w) ?_;refine bT iy ?_;refine bT A.cC ?_;rfl)) aE fun Q R=>?_)
  exact q7 (x.iO (k:=Q) I.toks fun T W a=>R T W (kW (nV a)) a) (r.cc y x).E (pF s) G A w
 ·refine bT (show f9 (.Assign [.Tuple o z ah] (.Tuple u aa an) F) c=_ from exec_Assign_arm ..) ?_
  refine c5 (oy (c5 (m:=Mr _ _ _ _) (fR (c5 (m:=fk _ _) (Jy ag af r (t:=1000) (by decide) ac fun ak X ae ab am I y A x v w=>?_)))))
  refine bT L ?_
  refine c5 (fR ?_)
  show Wp b d (do
   rule "assign.swapped-stores"
   let av ← Mv (.ref ak) (o.map y3).length b1
   qF ((o.map y3).reverse.map fun z=>GO c z) av.reverse
   ej Flow.next:gl Flow) _ I
  have aq:=oV w
  refine bU fun al=>?_
  obtain ⟨ay,az,Y,ao⟩:=YO (c:=b) (b:=am) G A aq
  refine al ?_;try clear al
  have aH:(o.map y3).length=X.toArray.size:=by (refine gT Y ?_;refine bT iy ?_;rw [et]);exact (et ..).symm.trans (congrArg qE ao)
  refine bT aH ?_
  refine c5 (Mw (c5 (wpAny_unpackItems_tuple r.a.f8 v fun Q R=>?_)))
  have ai:=Qt (i:=d) (x.iO (k:=Q) I.toks fun T W a=>R T W (kW (nV a)) a) (r.cc y x).E (m:=(Bq s o ae X).reverse) fun q v=>ay q (List.mem_reverse.mp v)
  rw [F5 az,F5 Y,F5 ao,Qs (by refine bT (Ug (jH aq)) ?_;exact of_decide_eq_true au)] at ai
  refine c5 (Wp.cO ai fun t aL aF=>?_)
  obtain ⟨aK,aJ,aB,aC,aw,a⟩:=aF
  refine fR (.cc (y.vd.ci aB) aC aw ?_)
  refine bT a ?_
  exact Lk w
def Qv{w x v t:ce}{a q:ce}{u n:Nat}{o r p s:cS}:vX [.Tuple [.Subscript w a p,.Subscript x q s] u o] (.Tuple [v,t] n r) c=ej b1:=by
 unfold vX
 dsimp only
 split
 ·rfl
 split
 ·rfl
 rfl
def Lm(Y:kc b){u P L R T w:cv}(aq:e4 b h i u)(aR:e4 b h i P)(a5:e4 b h i L)(aU:e4 b h i R)(aP:e4 b h i T)(av:e4 b h i w):lW b h i (.oW u P L R T w):=fun {g f aX d l j e c k} aE s K aw=>by
 apply lq (d:=fun y n r=>lr y fun A=>i9 A fun p r r=>fO p fun v p=>lr p fun t=>gW v fun I G r=>gW t fun F aH r=>i9 n fun o r r=>fO o fun z o=>lr o fun Q=>!jy z&& !jy Q&&(mE b.T g f u I&&mE b.T g f P G&&mE b.T g f L F&&mE b.T g f R aH&&mE b.T g f T z&&mE b.T g f w Q)) aE
 intro y n q a
 refine qi (b:=fun y=>Wp b d (f9 (.Assign y n q) c) _ e) a fun A a=>lA (b:=fun A=>Wp b d (f9 (.Assign [A] n q) c) _ e) a fun p x C a=>d3 (e:=fun p=>Wp b d (f9 (.Assign [.Tuple p x C] n q) c) _ e) a fun v p a=>qi (b:=fun p=>Wp b d (f9 (.Assign [.Tuple (v::p) x C] n q) c) _ e) a fun t a=>kS (b:=fun v=>Wp b d (f9 (.Assign [.Tuple [v,t] x C] n q) c) _ e) a fun I G aO a=>kS (b:=fun t=>Wp b d (f9 (.Assign [.Tuple [_,t] x C] n q) c) _ e) a fun aS aI aA a=>
  lA (b:=fun n=>Wp b d (f9 (.Assign _ n q) c) _ e) a fun o ag F a=>d3 (e:=fun o=>Wp b d (f9 (.Assign _ (.Tuple o ag F) q) c) _ e) a fun z o a=>qi (b:=fun o=>Wp b d (f9 (.Assign _ (.Tuple (z::o) ag F) q) c) _ e) a fun Q a=>g7 a fun aC aW a=>Zo a fun aL a a6 au an aD=>?_
 refine Gz (Ml (jh (eC aC) (((aP an s).d8 _ aw).vp fun am bg bc bj bh ae aZ ao aQ=>jh (eC aW) (((av aD (s.cc ae ao)).d8 _ aQ).vp fun ak af a9 aN aT ac aF az a4=>G0 ⟨qU (show 2≤100000 by decide),?_⟩)))) rfl Qv
 refine Mm (x1:=x) (items:=[am,ak].toArray) s.a.f8 ⟨_,oz _ rfl,rfl,0,rfl⟩ rfl rfl fun aK aY=>?_
 have ay:c7 b aT aN {af with heap:=aK,toks:=af.toks}:=(az.d0 _).iO _ fun w u ah=>aY w u (kW (nV ah)) ah
 refine bU fun al=>?_
 obtain ⟨aX,rfl,aJ⟩:=td a4
 obtain ⟨bk,rfl,aG⟩:=td aJ
 refine al ?_;try clear al
 show Wp b d (qF [fun n=>lk (.Subscript I G aO) c n,fun n=>lk (.Subscript aS aI aA) c n] [am,ak]) _ _
 rw [qF]
 have X:=ae.ci ac
 refine c5 (iH ((vk Y aq aR aL a (s.cc X ay) (aZ.cO ac) aG).ve fun r be a7 a8 aa aV aB=>?_))
 rw [qF]
 have W:=X.ci aa
 refine c5 (iH ((vk Y a5 aU a6 au (s.cc W aV) (aF.cO aa) aB).ve fun r ba bb bf ai ab aM=>?_))
 exact Mk (.cc (W.ci ai).vd (s.cc (W.ci ai) ab).E ab aM)
end
noncomputable def nF(d:List ce)(b:du):gl Bool:=forIn d ar fun a c=>if c=ar then do let e ← Cq a b (fk a b);ej (zq e) else ej (zq c)
noncomputable def k9(g f:ce)(h:List jV)(d:Nat)(e:cj)(a:du):gl Unit:=h[d+1]?.elim (do let _ ← gg (.builtin "list.append") [e,← fk f a]) fun c=>do
 let b ← fk c.iter a
 qJ c.iter.pos
 let b ← vV c.iter a b
 let i ← pK [b] (kh b)
 let _ ← runOwn (.compStart g (d+1) i e a) a
 ej ()
def Br(a:jV)(d:cj)(c:du)(e g:gl Fin):gl Fin:=do
 qJ a.iter.pos
 match ← pM d with
 |none=>ej (.done .next)
 |some b=>
  vW a.target d b
  lk a.target c b
  let f ← nF a.ifs c
  if f then e else g
section
variable{a:Wd}{e:d9}{m:tZ→cM→Prop}{d:cM}{h:ce}{b:List jV}{j:ji}{k:cS}{f:Nat}{g l:cj}{c:du}{i:jV}
def Ln(r:b[f]? =O i)(q:∀(s:Nat)(o:jV),b[s]? =O o→o.is_async=0):compTurn (.ListComp h b j k) f g l c=Br i g c (do
   k9 (.ListComp h b j k) h b f l c
   again (.compLoop (.ListComp h b j k) f g l c)) (again (.compLoop (.ListComp h b j k) f g l c)):=by
 have p:=q _ _ r
 refine bU fun n=>?_
 obtain ⟨z,u,x,A⟩:=i
 refine n ?_;try clear n
 subst p
 unfold compTurn Br k9
 dsimp only
 refine bT r ?_
 cases t:b[f+1]? with
 |none=>rfl
 |some o=>
  have p:=q _ _ t
  refine bU fun n=>?_
  obtain ⟨y,w,v,C⟩:=o
  refine n ?_;try clear n
  subst p
  simp only [Option.elim_some,LawfulMonad.bind_assoc,LawfulMonad.pure_bind]
  rfl
def Iq{s:cM→Prop}{y:gl Unit}{r:PySem.Code}
  (G:Wp a e (pM g) (fun u n=>u.elim (m (.ok .next) n) fun q=>Wp a e (vW i.target g q) (fun o n=>Wp a e (lk i.target c q) (fun o C=>
   Wp a e (nF i.ifs c) (fun t v=>cond t (Wp a e y (fun o x=>s x) v) (s v)) C) n) n) d):
  Wp a e (Br i g c (do y;again r) (again r)) (fun w z=>(w=.again r∧s z)∨(w=.done .next∧m (.ok .next) z)) d:=by
 unfold Br
 refine c5 (oy (c5 (G.cO fun u n p=>?_)))
 induction u with
 |none=>exact fR (.inr ⟨rfl,p⟩)
 |some q=>
  refine c5 (Wp.cO p fun o n p=>c5 (Wp.cO p fun o C F=>c5 (Wp.cO F fun t v A=>?_)))
  induction t with
  |false=>exact fR (.inl ⟨rfl,A⟩)
  |true=>exact c5 (Wp.cO A fun o x I=>fR (.inl ⟨rfl,I⟩))
def Lo(z:b[f]? =O i)(A:∀(w:Nat)(s:jV),b[w]? =O s→s.is_async=0)(q:Nat→cM→Prop)
  (x:∀o d,q o d→Wp a e (pM g) (fun G r=>G.elim (m (.ok .next) r) fun v=>Wp a e (vW i.target g v) (fun u r=>Wp a e (lk i.target c v) (fun u P=>
   Wp a e (nF i.ifs c) (fun K t=>cond K (Wp a e (k9 (.ListComp h b j k) h b f l c) (fun u I=>∃n,n<o∧q n I) t) (∃n,n<o∧q n t)) P) r) r) d)
  (o:Nat) (L:q o d):mA (i5 a.dP a.w) e (.compLoop (.ListComp h b j k) f g l c) m d:=by
 refine codeAny_loop rfl q (fun o d C=>?_) o L
 show n9 _ e ((compTurn (.ListComp h b j k) f g l c).onRaise (fun p=>do noteFrame p c;theTreesLotGoes p)) _ _ d
 refine bT (Ln z A) ?_
 refine wpAny_noted ((Iq (s:=fun d=>∃n,n<o∧q n d) (x o d C)).mQ fun R Q p=>?_)
 rcases p with ⟨rfl,n,F,y⟩|⟨rfl,p⟩
 ·exact ⟨rfl,n,F,y⟩
 ·exact p
def yx(x:b[f]? =O i)(s:i.is_async=0)
  (q:mA (i5 a.dP a.w) e (.compLoop (.ListComp h b j k) f g l c) m d)
  (u:Wp a e (kh g) (fun n o=>mA (i5 a.dP a.w) e (.compLoop (.ListComp h b j k) f n l c) m o) d):
  mA (i5 a.dP a.w) e (.compStart (.ListComp h b j k) f g l c) m d:=by
 refine codeAny_of_tree ?_
 show n9 _ _ ((compStart (.ListComp h b j k) f g l c).onRaise (fun w=>do noteFrame w c;qJ theWindowsPlace)) _ _ d
 refine wpAny_notedAt ?_
 refine bU fun p=>?_
 obtain ⟨v,n,t,y⟩:=i
 refine p ?_;try clear p
 subst s
 unfold compStart
 refine bT (show (clausesOf (.ListComp h b j k))[f]? =O ⟨v,n,t,0⟩ from x) ?_
 show n9 _ _ (ask>>=_) _ _ d
 refine c5 (wpAny_askSetting (wpAny_ite ?_))
 split
 ·first
   |exact c5 (fR (fR (And.intro rfl q)))
   |exact wpAny_pure (And.intro rfl q)
 ·refine c5 (Mw ?_)
  show n9 _ _ (qJ n.pos>>=_) _ _ d
  exact c5 (oy (c5 (u.mQ fun n o r=>fR (And.intro rfl r))))
end
def Bs(a:Wd)(l:Nat)(m:cK)(g:dS):Prop:=∀{b:Sc}{c:fF}{i:List ce}{k:d9}{e:dQ}{h:bS}{j:cM}{f:du}{d:cV},ti a.T b c g i=ar→At a l k e h j f b c d→∀K:Bool→bS→Prop,mn ⟨a.T,m⟩ g d h K→Wp a k (nF i f) (TP a e K) j
inductive CP(W:Wd)(env:du)(sc:Sc)(e9:fF)(D:cz)(g:dQ)(ρ:cV)(lim:Nat→Prop)(K:KL)(s':cM):Prop
 |mk (acc:List bl) (AO:bS) (g':dQ) (us:List cj) (n:Nat) (le:Le (fun a=>a=env.locals∨a=D) g g') (E:eU W g' env sc e9 ρ) (S:c7 W g' AO s') (hT:g'.T D=O (dl "list" us n)) (r:dB W g'.F acc us) (hl:lim acc.length) (k:K acc AO)
def HA(c:Wd)(n:d9)(s:Nat)(l:du)(i:Sc)(f:fF)(k:cz)(o:List Nat)(g:Bool)(r:cV→bS→List bl→KL→Prop)(q:gl Unit):Prop:=∀{a:dQ}{m:bS}{h:cM}{d:cV}{b:List bl}{j:List cj}{e:Nat}(K:KL),
 At c s n a m h l i f d→a.T k=O (dl "list" j e)→dB c a.F b j→(∀p∈o,d[p]?.join=b1)→(g=ar→b.length≤2000000)→r d m b K→Wp c n q (fun t=>CP c l i f k a d (fun e=>g=ar→e≤b.length+1) K) h
section
variable{b:Wd}{t:d9}{u:Nat}{s:cK}{f v:dQ}{g:bS}{q:cM}{e:du}{o:Sc}{j:fF}{c:cV}{d:cz}
def Lp{a:List ce}{i:Bool→cM→Prop}(m:i b2 q):Wp b t (forIn a b2 fun h k=>if k=ar then do let n ← Cq h e (fk h e);ej (zq n) else ej (zq k)) i q:=by
 induction a with
 |nil=>refine bT Gu ?_;exact fR m
 |cons p a l=>rw [Gs];exact c5 (fR l)
def abk:Bs b u s .N:=fun {o j a t f g q e c} h k K i=>by
 refine iq (b:=fun a=>Wp b t (nF a e) _ q) h ?_
 unfold nF
 refine bT Gu ?_
 exact fR ⟨_,_,.cy _,k.S,i⟩
def N8{l:cv}{i:dS}(z:e4 b u s l)(C:Bs b u s i):Bs b u s (.J l i):=fun {o j a t f g q e c} h r K x=>by
 refine d3 (e:=fun a=>Wp b t (nF a e) _ q) h fun P a h=>g7 h fun m y F=>?_
 unfold nF
 rw [Gs]
 refine c5 (c5 (((z y r).m4 (fun A g=>pT A (mn ⟨b.T,s⟩ i c g K) (K b2 g)) (fun m m L=>L) x).ve fun G Q w I k p n=>fR ?_))
 induction G with
 |false=>exact Lp ⟨w,I,k,p,n⟩
 |true=>exact (C F (r.cc k p) K n).ux k
def Ir(n:c7 b f g q){a:List cj}{m:Nat}(k:f.T d=O (dl "list" a m))(w:a.length≤2000000)(h:cj):
  Wp b t (gg (.builtin "list.append") [.ref d,h]) (fun z x=>∃p,c7 b ⟨f.F,f.T.d7 d (dl "list" (a++[h]) p),f.α⟩ g x) q:=by
 have i:=n.hN _ _ k
 have r:a.toArray.size≤lP:=by refine bT iy ?_;exact cu w (by decide)
 have l:=U7 (h:=q.heap) (l:=d) i (fun y=>y.push h)
 rw [Uc] at l
 exact zh ME ⟨_,i,rfl⟩ UQ (UP _ _) (Up d a.toArray m h r) ⟨i,_,n.QZ (u:=q.toks) k (U6 ..) l⟩
def eU.off(m:eU b f e o j c)(k:¬cY e d)(i:eb):eU b ⟨f.F,f.T.d7 d i,f.α⟩ e o j c:=
 m.cO (u:=fun h=>h=d) ⟨k4.cy _,jU _,fun h a=>di.fe _ _ a⟩ fun h a l=>k (a▸l)
def YQ{h:cv}(I:e4 b u s h){m:ce}(Q:mE b.T o j h m=ar)(T:¬cY e d){y:List Nat}:HA b t u e o j d y ar (JH (vE ⟨b.T,s⟩ h)) (do let _ ← gg (.builtin "list.append") [.ref d,← fk m e]):=fun {f g q c L n ag} K x G w _ W A=>by
 refine c5 (((I Q x).d8 _ A).vp fun k ae ac z i a P p X=>?_)
 refine bU fun r=>?_
 obtain ⟨F,rfl,R⟩:=td X
 refine r ?_;try clear r
 refine c5 ((Ir p ((a.T d id).trans G) (w.cC.symm▸W rfl) k).cO fun _ ah ⟨l,C⟩=>fR ?_)
 exact ⟨L++[F],z,⟨i.F,i.T.d7 d (dl "list" (n++[k]) l),i.α⟩,n++[k],l,a.vd.ci ⟨k4.cy _,jU _,fun af Y=>di.fe _ _ fun aa=>Y (.inr aa)⟩,(x.cc a p).E.off T _,C,di.eF _ _ _,(w.cO a.F).NY (.o9 P),fun ab=>jH dZ,R⟩
theorem Jz{K k:cV→Prop}:∀{c:cV}{a:Nat}{h:bZ},wf c a h K→(K (c.set a (O h))→k (c.set a (O h)))→wf c a h k
 |_::_,0,_,l,m=>m l
 |n::i,a+1,h,l,m=>Jz (K:=fun i=>K (n::i)) (k:=fun i=>k (n::i)) (c:=i) (a:=a) l m
def EF{K r:cV→Prop}:∀{i:List Nat}{a:List bl}{c:cV},qL i a c K→(∀l,(∀k,k∉i→l[k]? =c[k]?)→K l→r l)→qL i a c r:=by
 intro i
 induction i with
 |nil=>
  intro a
  rcases a with _|⟨_,_⟩
  ·intro c h m
   exact m c (fun w w=>rfl) h
  ·intro _ h _
   exact h.elim
 |cons A i x=>
  intro a
  rcases a with _|⟨C,a⟩
  ·intro _ h _
   exact h.elim
  ·intro c h m
   exact Jz h fun z=>x z fun l y=>m l fun k p=>(y k fun n=>p (ia _ n)).trans (pi (show A≠k from fun n=>p (n▸fD ..)))
def Td{K m:cV→Prop}{i:List Nat}{l:bl}(p:∀h,(∀k,k∉i→h[k]? =c[k]?)→K h→m h):∀{n:Bool},jP c i n l K→jP c i n l m
 |true,a=>by
  obtain ⟨r,rfl,a⟩:=Qk a
  exact EF a p
 |false,a=>EF (a:=[l]) a p
def eU.fw{h:cV}(i:eU b f e o j h)(r:∀(l:Nat)(a:bZ),c[l]?.join=O a→h[l]?.join=O a):eU b f e o j c:=
 {i with mT:=fun p m=>(i.mT p m).imp fun w k=>⟨k.1,fun a n=>k.2 a (r _ _ n)⟩}
inductive LI(b:Wd)(t:d9)(u:Nat)(s:cK)(e:du)(o:Sc)(j:fF)(c:cV)(d:cz)(own:cz→Prop)(P:Nat→dQ→Prop)(acA:dQ)(xs:List bl)(el:Bool)(k:List bl→bS→List bl→Prop)(m:Nat)(q:cM):Prop
 |mk (i:Nat) (r:List bl) (f:dQ) (g:bS) (acc:List bl) (us:List cj) (n:Nat) (hr:xs.drop i=r) (hi:i+r.length=xs.length) (hm:m=r.length+1) (l:Le (fun a=>own a∨a=e.locals∨a=d) acA f) (h:At b u t f g q e o j c) (p:P i f) (hT:f.T d=O (dl "list" us n)) (hus:dB b f.F acc us) (ha:el=ar→acc.length≤1000000+i) (k:k r g acc)
def JA{aH:cz}{y:cz→Prop}{af:Nat→dQ→Prop}{z:Bool}{r:List bl}(aA:It b t aH z r y af)(a9:r.length≤1000000){X:dQ}(aW:∀a,y a→X.T a=b1)(az:∀a,y a→¬cY e a)(aB:¬y d)(bB:¬cY e d)
  {n:List Nat} {au:ce} {P:List jV} {aG:ji} {aT:cS} {L:Nat} {ao:jV} (aV:P[L]? =O ao) (bC:∀(L:Nat)(v:jV),P[L]? =O v→v.is_async=0) (bk:nE e (fun a=>a=e.locals) j n) (bf:yZ n z j ao.target=ar)
  {w:dS} (bq:Bs b u s w) (bg:ti b.T o j w ao.ifs=ar) {A:cV→bS→List bl→KL→Prop} {aE:List Nat} {ah:Bool} (bo:HA b t u e o j d aE ah A (k9 (.ListComp au P aG aT) au P L (.ref d) e)) (bv:∀h∈n,c[h]?.join=b1) (aL:∀h∈aE,h∉n∧c[h]?.join=b1) {K:KL}
  {aS:tZ→cM→Prop} (bu:∀aI,CP b e o j d X c (fun C=>True) K aI→aS (.ok .next) aI) {f:dQ} {g:bS} {q:cM} {l:List bl} {I:List cj} {Y:Nat} (G:At b u t f g q e o j c) (al:af 0 f) (ae:Le (fun a=>y a∨a=e.locals∨a=d) X f)
  (aa:f.T d=O (dl "list" I Y)) (k:dB b f.F l I) (ak:l.length≤1000000) (ac:og (Af (mn ⟨b.T,s⟩ w) A) c n z r g l K):mA (i5 b.dP b.w) t (.compLoop (.ListComp au P aG aT) L (.ref aH) (.ref d) e) aS q:=by
 refine Lo aV bC (LI b t u s e o j c d y af X r ah fun k g l=>og (Af (mn ⟨b.T,s⟩ w) A) c n z k g l K) ?_ (r.length+1) ⟨0,r,f,g,l,I,Y,rfl,kU _,rfl,ae,G,al,aa,k,fun C=>ak,ac⟩
 rintro aw q ⟨aN,k,f,g,l,I,Y,Q,aO,rfl,ae,G,al,aa,ay,ak,ac⟩
 induction k with
 |nil=>
  obtain rfl:aN=r.length:=aO
  refine (aA.nz al G.S).cO fun k bh ⟨Q,aY⟩=>?_
  subst Q
  exact bu _ ⟨l,g,_,I,Y,mi aW ae,G.E.h3 az,aY,(ot aB).trans aa,ay,trivial,ac⟩
 |cons h k=>
  obtain ⟨W,Q⟩:=vj Q
  have bn:=(fJ.mp W).1
  refine (yw aA az (fun a i=>.inl i) G al W bk bf (Td (m:=fun av=>(∀aC,aC∉n→av[aC]? =c[aC]?)∧Af (mn ⟨b.T,s⟩ w) A av g l (Vt (og (Af (mn ⟨b.T,s⟩ w) A) c n z k) K)) (fun av p aZ=>⟨p,aZ⟩) ac)).cO fun bN bh R=>?_
  refine bU fun x=>?_
  obtain ⟨ag,bp,a4⟩:=R
  refine x ?_;try clear x
  subst bp
  refine a4.cO fun C bK bD=>bD.cO fun C bH R=>?_
  refine bU fun x=>?_
  obtain ⟨aK,aQ,ab,aD,bb,aM,bm⟩:=R
  refine x ?_;try clear x
  have bx:=ae.ci (ab.up fun a i=>i.imp id .inl)
  have aP:aK.T d=O (dl "list" I Y):=(ab.T d fun i=>i.elim aB fun i=>bB (.inl i)).trans aa
  have a7:∀(h:Nat)(ag:bZ),c[h]?.join=O ag→aQ[h]?.join=O ag:=fun h ag p=>(congrArg Tq (aM h fun i=>by rw [bv h i] at p;exact cG p)).trans p
  have aR:∀{F:dQ}{am:bS}{an:cM}{aq:List bl}{aJ:List cj}{be:Nat},Le (fun a=>a=e.locals∨a=d) aK F→eU b F e o j aQ→c7 b F am an→F.T d=O (dl "list" aJ be)→dB b F.F aq aJ→(ah=ar→aq.length≤l.length+1)→og (Af (mn ⟨b.T,s⟩ w) A) c n z k am aq K→
    ∃aw,aw<(h::k).length+1∧LI b t u s e o j c d y af X r ah (fun k g l=>og (Af (mn ⟨b.T,s⟩ w) A) c n z k g l K) aw an:=fun m bc T bA bw bz ai=>
   ⟨k.length+1,h9 _,aN+1,k,_,_,_,_,_,Q,(y4 ..).trans aO,rfl,bx.ci (m.up fun C=>.inr),G.Bo (bc.fw a7) T,aA.cO bb m fun a aF i=>i.elim (fun i=>az a aF (.inl i)) fun i=>aB (i▸aF),bA,bw,fun p=>cu (bz p) (iF (ak p)),ai⟩
  refine (bq bg aD _ bm).ve fun a5 an am F m T ai=>?_
  induction a5 with
  |false=>exact aR m.vd (aD.cc m T).E T ((m.T d id).trans aP) (ay.cO (ab.F.ci m.F)) (fun C=>fM _) ai
  |true=>
   refine (bo _ (aD.cc m T) ((m.T d id).trans aP) (ay.cO (ab.F.ci m.F)) (fun h W=>(congrArg Tq (aM h (aL h W).1)).trans (aL h W).2) (fun p=>cu (ak p) (jq (cu (iG bn) a9) _)) ai).cO fun C bF R=>?_
   refine bU fun x=>?_
   obtain ⟨bG,bI,bJ,bL,bM,bE,bj,a8,aU,a6,aX,ba⟩:=R
   refine x ?_;try clear x
   exact aR (m.vd.ci bE) bj a8 aU a6 aX ba
end
def Lr(e:du)(d:Sc)(c:List (b4×cz)):Prop:=(∀a b,c.lookup a=O b→e.cells.lookup a=O b)∧(∀a,(a,pP)∈d→∃b,c.lookup a=O b)
section
variable{d:du}{c:Sc}{a:List (b4×cz)}(b:Lr d c a)
include b
def Lr.fw:∀f e,a.lookup f=O e→d.cells.lookup f=O e:=b.1
def Lr.all:∀e,(e,pP)∈c→∃f,a.lookup e=O f:=b.2
end
def mj(b:ji)(c:Sc):Prop:=(b.kind=.function)∧(∀a∈b.names,a.2≠ .cell)∧(∀a∈b.names,a.2=.local→b.names.lookup a.1=O .local)∧(∀a∈b.names,a.2=.free→c.lookup a.1=O .cell∧b.names.lookup a.1=O .free∧(a.1==("__classdict__":b4))=b2)
section
variable{a:ji}{c:Sc}(b:mj a c)
include b
def mj.dm:a.kind=.function:=b.1
def mj.N9:∀d∈a.names,d.2≠ .cell:=b.2.1
def mj.bW:∀d∈a.names,d.2=.local→a.names.lookup d.1=O .local:=b.2.2.1
def mj.jx:∀d∈a.names,d.2=.free→c.lookup d.1=O .cell∧a.names.lookup d.1=O .free∧(d.1==("__classdict__":b4))=b2:=b.2.2.2
end
def rK{d:Type}{a b:b4}{e:d}{g:List (b4×d)}{c:Option d→Prop}(h:a=b→c (O e))(i:a≠b→c (g.lookup a)):c (((b,e)::g).lookup a):=by
 refine bT Ci ?_
 cases f:a==b with
 |true=>exact h (dr f)
 |false=>exact i (beq_eq_false_iff_ne.mp f)
def V8{b a:tV}{c:Bool}(e:(b !=a||c)=ar)(d:b=a):c=ar:=(nR.mp e).resolve_left (by (refine bT d ?_;rw [bne_self_eq_false]);exact kx)
def Qw{c:ji}{f:Sc}(l:Jo c f=ar):mj c f:=f4 l fun i j=>
 have h:∀b∈c.names,N4 c f b=ar:=lD.mp j
 ⟨dr i,fun b e=>g7 (h b e) fun a d d=>bne_iff_ne.mp a,fun b e g=>g7 (h b e) fun d a d=>dr (V8 a g),fun b e g=>g7 (h b e) fun d d a=>g7 (V8 a g) fun a k c=>⟨dr a,dr k,eC c⟩⟩
def Qx(g:du){y:b4×tV→List (b4×cz)→gl (ForInStep (List (b4×cz)))}(I:∀l d,y l d=if l.2== .free then (do let a ← cellOf g l.1;ej (.yield ((l.1,a)::d))) else ej (.yield d)):
  ∀{i:Sc}{d:List (b4×cz)},(∀f∈i,f.2=.free→∃a,g.cells.lookup f.1=O a)→(∀b a,d.lookup b=O a→g.cells.lookup b=O a)→
   ∃e,forIn i d y=ej e∧(∀b a,e.lookup b=O a→g.cells.lookup b=O a)∧∀b,((b,pP)∈i∨∃a,d.lookup b=O a)→∃a,e.lookup b=O a:=by
 intro i
 induction i with
 |nil=>
  intro d _ m
  exact ⟨d,Gu,m,fun b n=>n.elim (fun c=>absurd c gD) id⟩
 |cons C F t=>
  obtain ⟨f,v⟩:=C
  intro d n m
  have x:∀o∈F,o.2=.free→∃a,g.cells.lookup o.1=O a:=fun o z=>n o (ia _ z)
  rw [Gs,I]
  by_cases k:v=.free
  ·obtain ⟨a,u⟩:=n (f,v) (fD ..) k
   rw [if_pos (beq_iff_eq.mpr k),show cellOf g f=ej a by unfold cellOf;(refine bT u ?_;rfl)]
   refine bU fun j=>?_
   obtain ⟨e,q,r,p⟩:=t (d:=(f,a)::d) x fun b w=>rK (c:=fun s=>s=O w→_) (fun h c=>by (refine bT h ?_;refine bT u ?_);exact c) fun A=>m b w
   refine j ?_;try clear j
   refine ⟨e,q,r,fun b c=>p b ?_⟩
   refine rK (c:=fun s=>_∨∃a,s=O a) (fun A=>.inr ⟨_,rfl⟩) fun G=>c.imp (fun c=>(eP.mp c).elim (fun h=>absurd (congrArg Prod.fst h) G) id) id
  ·refine bT (if_neg fun c=>k (beq_iff_eq.mp c)) ?_
   refine bU fun j=>?_
   obtain ⟨e,q,r,p⟩:=t x m
   refine j ?_;try clear j
   exact ⟨e,q,r,fun b c=>p b (c.imp (fun c=>(eP.mp c).elim (fun h=>absurd (congrArg Prod.snd h).symm k) id) id)⟩
def Iu{a:ji}{b:du}(m:∀d∈a.names,d.2=.free→∃n,b.cells.lookup d.1=O n):∃e,closureFor a b=ej e∧Lr b a.names e:=by
 obtain ⟨e,i,k,j⟩:=Qx b (y:=fun d c=>match d with
  |(h,l)=>if (l==pP)=ar then (do let a ← cellOf b h;ej (zq ((h,a)::c))) else ej (zq c)) (fun o p=>rfl) (d:=[]) m fun g a f=>nomatch (show b1=O a from f)
 refine ⟨e,?_,k,fun g f=>j g (.inl f)⟩
 show (forIn a.names [] _>>=fun c=>ej c)=_
 refine bT i ?_;rfl
def uB{b:du}{h:Sc}{g:b4}:∀{c:tV},h.lookup g=O c→(h.map fun (a,c)=>if (c==pP&&b.scope.kind== .function&&b.kindOf a==O .cell) then (a,zo) else (a,c)).lookup g=O (cond (c==pP&&b.scope.kind== .function&&b.kindOf g==O .cell) .cell c):=by
 induction h with
 |nil=>exact fun d=>e0 d
 |cons k m j=>
  obtain ⟨a,e⟩:=k
  intro c d
  have l:(if (e==pP&&b.scope.kind== .function&&b.kindOf a==O .cell)=ar then (a,zo) else (a,e))=(a,cond (e==pP&&b.scope.kind== .function&&b.kindOf a==O .cell) .cell e):=by split<;>(rename_i f;simp only [f];rfl)
  refine bT Cj ?_
  show List.lookup g ((if (e==pP&&b.scope.kind== .function&&b.kindOf a==O .cell)=ar then (a,zo) else (a,e))::_)=_
  refine bT l ?_
  rw [Ci] at d⊢
  cases f:g==a with
  |true=>
   rw [f] at d
   refine bU fun i=>?_
   obtain rfl:=dr f
   obtain rfl:=dg d
   refine i ?_;try clear i
   rfl
  |false=>
   rw [f] at d
   exact j d
section
variable{f:Wd}{m:d9}{k:Nat}{l:cK}{c h:dQ}{i:bS}{j:cM}{a:du}{g:Sc}{d:fF}{e:cV}{b:cz}
def rL{o:ji}{s:List (b4×cz)}{p:b4}{n:tV}(r:o.names.lookup p=O n)(q:n≠ .free):(qI o s b a).kindOf p=O n:=by
 refine (uB r).trans ?_
 refine bT (beq_eq_false_iff_ne.mpr q) ?_;rfl
def Ls{o:ji}{s:List (b4×cz)}{n:b4}(t:o.names.lookup n=O .free):(qI o s b a).kindOf n=O .cell∨(qI o s b a).kindOf n=O .free:=by
 have q:=uB (b:=a) t
 cases r:(pP==pP&&a.scope.kind== .function&&a.kindOf n==O .cell)
 ·exact .inr (q.trans (congrArg (fun p=>O (cond p zo .free)) r))
 ·exact .inl (q.trans (congrArg (fun p=>O (cond p zo .free)) r))
def Qy(s:eU f c a g d e){w:ji}{C:fF}{Q:List (b4×cz)}{F:List Nat}(A:mj w g)(al:C.all (v7 w.names F d)=ar)(X:Bc C=ar)(ak:∀ac∈F,e[ac]?.join=b1)(ag:c.T b=b1){v:eb}(W:jp v fun ao=>b1)(r:Lr a w.names Q):
  eU f ⟨c.F,c.T.d7 b v,c.α⟩ (qI w Q b a) w.names C e:=by
 have G:∀{q o},a.cells.lookup q=O o→o≠b:=fun {q o} n t=>by
  obtain ⟨v,p⟩:=s.Ex q o n
  rw [t,ag] at p;exact cG p
 refine {
  dm:=A.dm
  mR:=s.mR
  m6:=s.m6
  b5:=fun R n=>rL n (fun t=>nomatch t)
  ir:=fun R n=>absurd rfl (A.N9 _ (jg _ n))
  bW:=fun R n=>rL n (fun t=>nomatch t)
  inj:=fun q aa o n ae=>s.inj q aa o (r.fw _ _ n) (r.fw _ _ ae)
  hF:=fun q o n=>G (r.fw _ _ n)
  Jp:=⟨v,di.eF _ _ _,_,W⟩
  Ex:=fun q o n=>by obtain ⟨y,p⟩:=s.Ex q o (r.fw _ _ n);exact ⟨y,(di.fe _ _ (G (r.fw _ _ n))).trans p⟩
  Yn:=of_decide_eq_true (gu X).1
  Yo:=of_decide_eq_true (gu X).2
  mT:=fun x ah=>?_}
 have u:=lD.mp al x ah
 unfold v7 at u
 cases I:F.contains x.1 with
 |true=>
  rw [I] at u
  refine ⟨b1,.bW (rL (dr u) (fun t=>nomatch t)) v _ (di.eF _ _ _) W rfl,fun aq p=>?_⟩
  rw [ak x.1 (rb.mp I)] at p;exact cG p
 |false=>
  rw [I] at u
  have K:=dr (gu u).2
  refine bU fun T=>?_
  obtain ⟨af,av,Y⟩:=A.jx _ (jg _ K) rfl
  obtain ⟨an,ab,ai⟩:=s.mT x (rb.mp (gu u).1)
  refine T ?_;try clear T
  refine ⟨an,?_,ai⟩
  induction ab with
  |bW z y aw p ay n=>rw [(s.ir _ af).1] at z;cases z
  |ir z az o y L p am=>
   obtain ⟨au,P⟩:=r.all _ (jg _ K)
   have:=r.fw _ _ P
   rw [L] at this;obtain rfl:=dg this
   exact .ir (Ls K) Y o y P ((di.fe _ _ (G L)).trans p) am
def Qz{q:ji}{v:List (b4×cz)}{w:fF}{u s:List Nat}(y:w.all (v7 q.names u d)=ar)(A:∀p∈s,p∈u):nE (qI q v b a) (fun t=>t=b) w s:=fun p x F o t z=>by
 have o:=lD.mp y _ o
 unfold v7 at o
 rw [rb.mpr (A p x)] at o
 have r:=rL (s:=v) (b:=b) (a:=a) (dr o) (fun C=>nomatch C)
 rcases z with ⟨_,n⟩|⟨n|n,_⟩
 ·exact n
 ·rw [r] at n;cases n
 ·rw [r] at n;cases n
end
noncomputable def wL(a:Wd)(b:Nat)(c:cK):kG→Prop
 |.N=>True
 |.J _ _ e d f=>Ld a b c e∧Bs a b c d∧wL a b c f
def sB(d:rg)(f:Sc)(e:fF)(i:cv)(c:kG)(h:ce)(g:List jV)(a:ji)(b:fF):Prop:=((h5 c).Nodup)∧(mj a f)∧(b.all (v7 a.names (h5 c) e)=ar)∧(Bc b=ar)∧(zH d f e a.names b c g=ar)∧(mE d a.names b i h=ar)
section
variable{e:rg}{g:Sc}{f:fF}{j:cv}{d:kG}{i:ce}{h:List jV}{b:ji}{c:fF}(a:sB e g f j d i h b c)
include a
def sB.nd:(h5 d).Nodup:=a.1
def sB.so:mj b g:=a.2.1
def sB.vo:c.all (v7 b.names (h5 d) f)=ar:=a.2.2.1
def sB.nn:Bc c=ar:=a.2.2.2.1
def sB.WJ:zH e g f b.names c d h=ar:=a.2.2.2.2.1
def sB.me:mE e b.names c j i=ar:=a.2.2.2.2.2
end
section
variable{a:Wd}{m:d9}{k:Nat}{h:cK}{j d:dQ}{i:bS}{l:cM}{b:du}{f:Sc}{c:fF}{g:cV}{e:cz}
def CP.rQ{K:KL}{n:Nat}(u:CP a b f c e j g (fun A=>True) K l):CP a b f c e j g (fun z=>b2=ar→z≤n) K l:=by
 obtain ⟨v,q,d,s,n,o,r,w,p,y,_,t⟩:=u
 exact ⟨v,q,d,s,n,o,r,w,p,y,(fun x=>dy x),t⟩
def Te(aD:¬cY b e){t F:List Nat}{C:Bool}{L:ub}{R:dS}{s:ce}{o:List jV}{Q:ji}{W:cS}{q:Nat}{u:jV}(y:o[q+1]? =O u)(ag:∀(az:Nat)(d:jV),o[az]? =O d→d.is_async=0)(aO:Ld a k h L)(aM:Ym a.T f c L u.iter=ar)
  (aQ:nE b (fun p=>p=b.locals) c t) (aC:yZ t C c u.target=ar) (aI:Bs a k h R) (aG:ti a.T f c R u.ifs=ar) {z:cV→bS→List bl→KL→Prop} (aH:(t++F).Nodup) {aA:Bool} (aB:HA a m k b f c e F aA z (k9 (.ListComp s o Q W) s o (q+1) (.ref e) b)):
  HA a m k b f c e (t++F) b2 (fun g i aa K=>Y8 ⟨a.T,h⟩ C L g i (No (Af (mn ⟨a.T,h⟩ R) z) g t C aa K)) (k9 (.ListComp s o Q W) s o q (.ref e) b):=fun {j i l g aa aU aV} K A Y aJ ae _ q=>by
 unfold k9
 refine bT y ?_
 obtain ⟨aN,av⟩:=aO aM A C _ q
 refine c5 (m:=fk u.iter b) (av.cO fun aw aW aP=>c5 (oy (c5 (GH (aN aw) (c5 (iH (aP.cO fun aR aq aE=>?_)))))))
 obtain ⟨aS,aT,d,am,ah,w,au,G,v,T,ai,I,an,ab⟩:=aE
 refine bT I ?_
 obtain ⟨aF,G⟩:=tj G
 have al:∀p,ah p→¬cY b p:=fun p P z=>A.E.h8 z (T p P)
 have ao:¬ah e:=fun P=>by
  have:=T e P
  rw [Y] at this;exact cG this.symm
 have ac:∀{af:tZ→cM→Prop},(∀n,CP a b f c e j g (fun ay=>True) K n→af (.ok .next) n)→mA (i5 a.dP a.w) m (.compLoop (.ListComp s o Q W) _ (.ref am) (.ref e) b) af aq:=fun aK=>
  JA an au T al ao aD y ag aQ aC aI aG aB (fun r x=>ae r (ow _ x)) (fun r x=>⟨fun aL=>(zb.mp aH).2.2 r aL r x rfl,ae r (nU _ x)⟩) aK (A.Bo (A.E.cO v al) ai) ab (v.up fun ay=>.inl) ((v.T e ao).trans Y) (aJ.cO v.F) aF G
 refine c5 (wpAny_runOwn (yx y (ag _ _ y) (ac fun n w=>fR w.rQ) ((an.iQ (k:=fun X n=>X=.ref am∧n=aq) ab ai ⟨rfl,rfl⟩).cO fun X n I=>?_)))
 refine bU fun ak=>?_
 obtain ⟨rfl,rfl⟩:=I
 refine ak ?_;try clear ak
 exact ac fun n w=>fR w.rQ
theorem JB(w:¬cY b e){s:cv}{r:ce}(z:e4 a k h s)(T:mE a.T f c s r=ar){p:List jV}{G:ji}{Q:cS}(I:∀(ae:Nat)(d:jV),p[ae]? =O d→d.is_async=0){L:List Nat}(C:∀A:List Nat,(∀q∈A,q∈L)→nE b (fun ai=>ai=b.locals) c A):
  ∀(n:kG)(o:Nat),wL a k h n→zH a.T f c f c n (p.drop (o+1))=ar→(h5 n).Nodup→(∀q∈h5 n,q∈L)→
   HA a m k b f c e (h5 n) (Yk n) (fun g i u K=>CJ ⟨a.T,h⟩ n (JH (vE ⟨a.T,h⟩ s)) g i u K) (k9 (.ListComp r p G Q) r p o (.ref e) b)
 |.N,o,_,v,_,_=>by
  have X:p[o+1]? =b1:=Gl (List.drop_eq_nil_iff.mp (l0.mp v))
  unfold k9
  refine bT X ?_
  exact YQ z T w
 |.J x al Y ag n,o,y,v,P,R=>d3 (e:=fun aa=>p.drop (o+1)=aa→HA a m k b f c e (x++h5 n) b2 (fun g i u K=>CJ ⟨a.T,h⟩ (.J x al Y ag n) (JH (vE ⟨a.T,h⟩ s)) g i u K) (k9 (.ListComp r p G Q) r p o (.ref e) b)) v (fun an am af ak=>Dw af fun ao W ah ac ab=>
  have F:=vj ak
  Te w F.1 I y.1 W (C x fun q t=>R q (ow _ t)) ah y.2.1 ac P (JB w z T I C n (o+1) y.2.2 (F.2▸ab) (zb.mp P).2.1 fun q t=>R q (nU _ t))) rfl
theorem vm{v:Sc}{t:fF}:∀{w:kG}{o:List jV}{f:Sc}{c:fF},zH a.T f c v t w o=ar→∀(n:Nat)(d:jV),o[n]? =O d→d.is_async=0
 |.N,o,_,_,q,n,d,p=>by rw [l0.mp q] at p;exact e0 p
 |.J A G y z C,o,f,c,q,n,d,p=>by
  refine d3 (e:=fun o=>o[n]? =O d→d.is_async=0) q (fun F o u p=>Dw u fun x r r r s=>?_) p
  induction n with
  |zero=>exact dg p▸of_decide_eq_true x
  |succ n=>exact vm s n d p
def c7.wx(q:c7 a j i l){r:cz}{v:eb}{s:eu}(x:Nat)(w:∀n o,l.heap.get? n=O o→s.get? n=O o)(t:s.get? r=O v)(z:@zs Nat instLENat l.heap.objs.size r):c7 a ⟨j.F,j.T.d7 r v,j.α⟩ i {l with heap:=s,toks:=x}:=by
 refine q.KN (fun u=>False) x (fun u A=>A.elim) (fun n o u t=>w n o t) fun n o p=>?_
 by_cases y:n=r
 ·subst y
  rw [di.eF] at p
  exact ⟨dg p▸t,q.yY z,q.fY z⟩
 ·rw [di.fe _ _ y] at p
  exact ⟨w n o (q.hN n o p),q.qo p⟩
end
section
variable{c:Wd}{g:d9}{j:Nat}{i:cK}{f d:dQ}{n:bS}{o:cM}{e:du}{l:Sc}{m:fF}{h:cV}{b:cz}
def ls(c:Wd)(f:dQ)(K:KL)(b a:cz)(u:cM)(q:List bl)(p:List cj)(v:Nat)(r:eb)(t:b4→Option cj)(k:bS)(d:dQ):Prop:=(Le (fun s=>s=a∨s=b) f d)∧(c7 c d k u)∧(f.T b=b1)∧(f.T a=b1)∧(b≠a)∧(d.T b=O (dl "list" p v))∧(d.T a=O r)∧(jp r t)∧(dB c d.F q p)∧(K q k)
section
variable{u:Wd}{t:dQ}{K:KL}{s q:cz}{A:cM}{x:List bl}{w:List cj}{C:Nat}{y:eb}{z:b4→Option cj}{v:bS}{p:dQ}(a:ls u t K s q A x w C y z v p)
include a
def ls.gm:Le (fun b=>b=q∨b=s) t p:=a.1
def ls.S:c7 u p v A:=a.2.1
def ls.D0:t.T s=b1:=a.2.2.1
def ls.B0:t.T q=b1:=a.2.2.2.1
def ls.ne:s≠q:=a.2.2.2.2.1
def ls.D1:p.T s=O (dl "list" w C):=a.2.2.2.2.2.1
def ls.B1:p.T q=O y:=a.2.2.2.2.2.2.1
def ls.Q1:jp y z:=a.2.2.2.2.2.2.2.1
def ls.r:dB u p.F x w:=a.2.2.2.2.2.2.2.2.1
def ls.k:K x v:=a.2.2.2.2.2.2.2.2.2
end
def Iv{a:jV}{k:List jV}:Mz (a::k) e=fk a.iter e:=by cases a;rfl
def EG{ak:cv}{P:kG}{Y:ce}{y:List jV}{v:ji}{aa:cS}{aT:fF}(bC:e4 c j i ak)(ah:wL c j i P)(r:sB c.T l m ak P Y y v aT)(be:(!y.isEmpty)=ar)(Q:At c j g f n o e l m h)(bJ:Vo h (h5 P)=ar){K:KL}(bc:CJ ⟨c.T,i⟩ P (JH (vE ⟨c.T,i⟩ ak)) h n [] K)
  {ac:Option (cj→gl Unit)} {aq:cj→cM→Prop} (ay:cS) (a5:∀(b q:cz)(A:cM)(al:List bl)(an:List cj)(z:Nat)(aA:eb)(bg:b4→Option cj)(aF:bS)(d:dQ),ls c f K b q A al an z aA bg aF d→compPost (i5 c.dP c.w) g (fun F F=>False) ac aq (.ref b) q (.ok .next) A):
  Wp c g (comprehension (.ListComp Y y v aa) v e ay (newList []) b2 (Mz y e) ac) aq o:=by
 cases y with
 |nil=>exact dy be
 |cons aw y=>
 cases P with
 |N=>cases r.WJ
 |J ao bq bK bQ aC=>
 have aB:=vm r.WJ
 refine Dw r.WJ fun bR ba a7 bh bv=>?_
 refine bU fun x=>?_
 obtain ⟨bp,bu⟩:=ah.1 ba Q bq _ bc
 have au:∀s∈ao++h5 aC,h[s]?.join=b1:=fun s t=>B4.mp (lD.mp bJ s t)
 obtain ⟨C,bE,aJ⟩:=Iu (b:=e) fun s t w=>(Q.E.ir _ (r.so.jx s t w).1).2
 refine x ?_;try clear x
 refine wpAny_comprehension_free (cl:=C) (g:=aw) (gs:=y) rfl bp bE r.so.dm r.so.bW ?_
 refine bT Iv ?_
 refine bu.cO fun bM bO a8=>a8.cO fun bP p bz=>?_
 refine bU fun x=>?_
 obtain ⟨bN,aF,G,ag,R,bL,bf,ai,W,aG,L,w,I,X⟩:=bz
 refine x ?_;try clear x
 refine bT w ?_
 obtain ⟨_,ai⟩:=tj ai
 have aV:∀k,R k→¬cY e k:=fun k u az=>Q.E.h8 az (aG k u)
 have aU:=Q.E.cO W aV
 refine UB (wpAny_newFunctionEnv r.so.N9 (fun F a=>absurd a gD) (fun aR bA bn=>?_) r.so.dm)
 have aL:=L.Dy (l:={cls:=.type "list",data:=.seq ([] :List cj).toArray}) rfl
 have aO:=dX p.heap.objs.size
 have av:@Cw Nat instLTNat p.heap.objs.size (p.heap.push {cls:=.type "list",data:=.seq ([] :List cj).toArray}).objs.size:=by rw [GR];exact h9 _
 refine bU fun x=>?_
 obtain ⟨aA,aZ,bx⟩:=jp.eI bA
 refine x ?_;try clear x
 have am:R p.heap.objs.size→False:=fun a=>by
  obtain ⟨u,w⟩:=I.y1 X a
  rw [L.pC aO] at w;exact cG w
 have af:R (p.heap.push {cls:=.type "list",data:=.seq ([] :List cj).toArray}).objs.size→False:=fun a=>by
  obtain ⟨u,w⟩:=I.y1 X a
  rw [L.pC (iG av)] at w;exact cG w
 have aI:G.T p.heap.objs.size=b1:=L.pC aO
 have aW:G.T (p.heap.push {cls:=.type "list",data:=.seq ([] :List cj).toArray}).objs.size=b1:=L.pC (iG av)
 have aK:¬cY e p.heap.objs.size:=fun az=>aU.h8 az aI
 have a4:=aU.off aK {cls:=.type "list",data:=.seq ([] :List cj).toArray}
 have aD:(p.heap.objs.size:cz)≠(p.heap.push {cls:=.type "list",data:=.seq ([] :List cj).toArray}).objs.size:=kW av
 have bb:=aL.pC (dX _)
 have aM:=aL.wx (p.toks+([] :List (b4×cj)).length) (fun bF ay T=>bn.extBut bF ay (kW (nV T)) (ng _ T)) aZ (dX _)
 have bH:=Qy a4 r.so r.vo r.nn au bb bx aJ
 generalize (p.heap.push {cls:=.type "list",data:=.seq ([] :List cj).toArray}).objs.size=q at*
 generalize p.heap.objs.size=b at*
 have bm:f.T b=b1:=(W.T b am).symm.trans aI
 have bw:f.T q=b1:=(W.T q af).symm.trans aW
 have aP:∀k,cY (qI v C q e) k→k=q∨cY e k:=fun k a=>a.imp id fun ⟨z,a⟩=>.inr ⟨z,aJ.fw _ _ a⟩
 have ae:Le (fun k=>k=q∨k=b) G ⟨G.F,(G.T.d7 b (dl "list" [] 0)).d7 q aA,G.α⟩:=⟨k4.cy _,jU _,fun k z=>(di.fe _ _ fun a=>z (.inl a)).trans (di.fe _ _ fun a=>z (.inr a))⟩
 have aQ:∀k,R k→¬(k=q∨k=b):=fun k u a=>a.elim (fun a=>af (a▸u)) fun a=>am (a▸u)
 have aH:¬cY (qI v C q e) b:=fun a=>(aP b a).elim aD aK
 have aN:∀ab:List Nat,(∀s∈ab,s∈ao++h5 aC)→nE (qI v C q e) (fun k=>k=q) aT ab:=fun ab t=>Qz r.vo t
 have aE:mA (i5 c.dP c.w) g (.compLoop (.ListComp Y (aw::y) v aa) 0 (.ref ag) (.ref b) (qI v C q e)) (compPost (i5 c.dP c.w) g (fun F F=>False) ac aq (.ref b) q) {p with heap:=aR,toks:=p.toks+([] :List (b4×cj)).length}:=
  JA I bf aG (fun k u a=>(aP k a).elim (fun a=>af (a▸u)) (aV k u)) am aH rfl aB (aN ao fun s t=>ow _ t) a7 ah.2.1 bh (JB (m:=g) (Q:=aa) (G:=v) aH bC r.me aB aN aC 0 ah.2.2 bv (zb.mp r.nd).2.1 fun s t=>nU _ t) (fun s t=>au s (ow _ t)) (fun s t=>⟨fun T=>(zb.mp r.nd).2.2 s T s t rfl,au s (nU _ t)⟩)
   (fun A ⟨al,aX,aY,an,z,a6,bk,bD,bG,bB,_,bo⟩=>let ⟨u,bj,bI,a9⟩:=bk.Jp;a5 b q A al an z u bI aX aY ⟨a6,bD,bm,bw,aD,bG,bj,a9,bB,bo⟩)
   ⟨Q.a,aM,bH⟩ (I.cO X ae aQ) ((W.up fun F=>.inl).ci (ae.up fun F=>.inr)) ((di.fe _ _ aD).trans (di.eF _ _ _)) (l:=[]) (I:=[]) rfl (fy _) ai
 show mA (i5 c.dP c.w) g (.compStart (.ListComp Y (aw::y) v aa) 0 (.ref ag) (.ref b) (qI v C q e)) _ _
 refine yx rfl (aB 0 _ rfl) aE ((I.iQ (k:=fun aS A=>aS=.ref ag∧A={p with heap:=aR,toks:=p.toks+([] :List (b4×cj)).length}) (I.cO X ae aQ) aM ⟨rfl,rfl⟩).cO fun aS A w=>?_)
 refine bU fun x=>?_
 obtain ⟨rfl,rfl⟩:=w
 refine x ?_;try clear x
 exact aE
end
section
variable{a:Wd}{i:d9}{n:Nat}{l:cK}{h o:dQ}{t:bS}{j:cM}{b:du}{g:Sc}{c:fF}{p:cV}{f e:cz}
variable{K:KE}{fz:Bool}{d:cM}{w:List bl}{u:List cj}{m:Nat}{q:eb}{s:b4→Option cj}{v:bS}
def EH{fz:Bool}{C:cv}{I:kG}{z:ce}{A:ce→Prop}(W:mE a.T g c (.ei fz C I) z=ar)(L:∀r k x y T,sB a.T g c C I r k x T→(!k.isEmpty)=ar→firstAsync k=b2→A (.ListComp r k x y)):A z:=
 Fg W fun r k x y X=>Zp X fun ab K Y Q P F ac=>by
  refine L r k x y _ ⟨of_decide_eq_true K,Qw Y,Q,P,F,ac⟩ ab ?_
  have aa:=vm F
  induction k with
  |nil=>rfl
  |cons R k=>
   have:=aa 0 _ rfl
   refine bU fun G=>?_
   obtain ⟨af,ae,ah,ag⟩:=R
   refine G ?_;try clear G
   subst this
   rfl
def ls.d8(r:ls a h (MT K fz) f e d w u m q s v o){z:eu}(Q:t5 e d.heap z):VP a h K (.ref f) {d with heap:=z}:=by
 have F:=r.S.h3 (fun k=>k=e) (o:=z) d.toks (fun k x=>⟨q,x▸r.B1⟩) fun I L m y=>(Q.2 I m).trans y
 have P:=mi (n:=fun k=>k=e) (r:=fun k=>k=f) (fun k x=>x▸r.B0) r.gm
 have C:(o.T.h3 fun k=>k=e) f=O (dl "list" u m):=(ot (c:=fun k=>k=e) r.ne).trans r.D1
 have G:=F.qo C
 have R:=F.h3 (fun k=>k=f) (o:=z) d.toks (fun k x=>⟨_,x▸C⟩) fun I L m y=>y
 have T:=mi (n:=fun k=>k=f) (r:=fun A=>False) (fun k x=>x▸r.D0) (P.up fun A=>.inl)
 exact (tg R d.toks (fun A A y=>y) G.1 (o8 rfl) G.2 (F.hN _ _ C) r.r r.k).hZ T
def ls.YR(r:ls a h (MT K fz) f e d w u m q s v o):VP a ⟨o.F,o.T.h3 fun k=>k=f,o.α⟩ K (.ref f) d∧Le (fun k=>k=e) h ⟨o.F,o.T.h3 fun k=>k=f,o.α⟩:=by
 have z:=r.S.qo r.D1
 have C:=r.S.h3 (fun k=>k=f) (o:=d.heap) d.toks (fun k x=>⟨_,x▸r.D1⟩) fun G F m y=>y
 exact ⟨tg C d.toks (fun A A y=>y) z.1 (o8 rfl) z.2 (r.S.hN _ _ r.D1) r.r r.k,mi (n:=fun k=>k=f) (fun k x=>x▸r.D0) (r.gm.up fun k x=>x.symm)⟩
def YS(fz:Bool){y:cv}{z:kG}(A:e4 a n l y)(P:wL a n l z):e4 a n l (.ei fz y z):=fun {g c x i h t j b p} G R=>
 EH (A:=fun x=>rH a i h j x b _) G fun W Y aa ab X I L F=>.eI (fun K r=>by
  obtain ⟨C,r⟩:=qT r
  (rewrite [eval_ListComp];refine bT F ?_)
  exact EG A P I L R C r _ fun f e d w u m q s v o k=>⟨s,k.Q1.eH (k.S.hN _ _ k.B1),fun T Q=>k.d8 Q⟩) rfl
def abl{k:cv}{r:cv→Prop}(A:B2 k=ar)(z:∀fz y x,r (.ei fz y x)):r k:=by
 cases k<;>first|exact z _ _ _|exact dy A
def Fl{ae:Nat}{T:cv}{X:kG}(ai:e4 a n l T)(aH:wL a n l X){z:ce}(az:mE a.T g c (.ei fz T X) z=ar)(Y:At a n i h t j b g c p){k:b4}{x F:cS}(au:(ae,k)∈c){K:KS}(C:vE ⟨a.T,l⟩ (.ei fz T X) p t (Ws K p ae)):
  (Cn z (O (.Name k x)) F.line b=ej b2→Wp a i (f9 (.Assign [.Name k x] z F) b) (mV a b g c h K) j)→Wp a i (f9 (.Assign [.Name k x] z F) b) (mV a b g c h K) j:=
 EH (A:=fun z=>(Cn z (O (.Name k x)) F.line b=ej b2→Wp a i (f9 (.Assign [.Name k x] z F) b) (mV a b g c h K) j)→Wp a i (f9 (.Assign [.Name k x] z F) b) (mV a b g c h K) j) az fun af G P Q aN aF aG av aJ=>by
  cases ab:(b.blockKind== .function&&b.kindOf k==O .local&&x.line==(Expr.ListComp af G P Q).pos.line&& !(P.names.any fun (m,C)=>m==k&&(C== .local||C== .cell))) with
  |false=>exact aJ (congrArg ej ab)
  |true=>
  refine bT (exec_Assign_Name_used _ _ _ _ (congrArg ej ab)) ?_
  refine c5 (oy (c5 ?_))
  show Wp a i (do let _ ← comprehension (.ListComp af G P Q) P b (firstIterPos G Q) (newList []) (firstAsync G) (Mz G b) (O (lk (.Name k x) b))) _ j
  refine bT av ?_
  obtain ⟨aq,C⟩:=qT C
  refine c5 (Wp.cO (EG (aq:=fun L d=>mV a b g c h K .next d) ai aH aF aG Y aq C _ fun f e d w u m q s v o A=>?_) fun L d ao=>fR (fR ao))
  refine bU fun I=>?_
  obtain ⟨⟨aM,aO,aQ,W,aD,al,aB⟩,ah⟩:=A.YR
  refine I ?_;try clear I
  have R:∀r,r=e→¬cY b r:=fun r y aC=>Y.E.h8 aC (y▸A.B0)
  show Wp a i (lk (.Name k x) b (.ref f)) _ d
  refine (sM al (Y.E.cO (ah.ci W.vd) R) (h:=cY b) (fun r y=>y.h8) au aD aB).cO fun L an aA=>?_
  refine bU fun I=>?_
  obtain ⟨aE,aL,ag,ay,ac,am⟩:=aA
  refine I ?_;try clear I
  have aa:aE.T e=O q:=(ag.T e (R e rfl)).trans ((W.T e fun y=>y).trans ((ot (c:=fun r=>r=f) A.ne.symm).trans A.B1))
  refine ⟨s,A.Q1.eH (ac.hN _ _ aa),fun aK aI=>?_⟩
  exact .cc (mi (n:=fun r=>r=e) (fun r y=>y▸A.B0) (((ah.ci W.vd).up fun L=>.inl).ci (ag.up fun L=>.inr))) (ay.h3 R) (ac.h3 _ an.toks (fun r y=>⟨q,y▸aa⟩) fun aw aP m ak=>(aI.2 aw m).trans ak) am
def QA{R:Nat}{k:cv}(ag:e4 a n l k)(G:∀fz x y,k=.ei fz x y→e4 a n l x∧wL a n l y):lW a n l (.ch R k):=fun {g c ae i h t j b p} al W K I=>by
 apply lq (d:=fun Q r X=>lr Q fun L=>r0 L fun A X=>c.contains (R,A)&&(!mx r||B2 k)&&mE a.T g c k r) al
 intro Q r F C
 refine qi (b:=fun Q=>Wp a i (f9 (.Assign Q r F) b) _ j) C fun L C=>k7 (a:=fun L=>Wp a i (f9 (.Assign [L] r F) b) _ j) C fun A T C=>g7 C fun ao z P=>?_
 have Y:=rb.mp ao
 have ac:Cn r (O (.Name A T)) F.line b=ej b2→Wp a i (f9 (.Assign [.Name A T] r F) b) (mV a b g c h K) j:=fun an=>
  wpAny_Assign_Name (((ag P W).d8 _ I).vp fun az av au aq ay ab ah aa am=>q6 aa (W.cc ab aa).E Y ah fun aw aA ai ak af=>.cc (ab.vd.ci (ai.up fun X ae=>ae.h8)) ak af (tK am)) an
 rcases nR.mp z with z|z
 ·exact ac (x4 (eC z) _ _)
 ·exact abl (r:=fun k=>(∀fz x y,k=.ei fz x y→e4 a n l x∧wL a n l y)→mE a.T g c k r=ar→vE ⟨a.T,l⟩ k p t (Ws K p R)→Wp a i (f9 (.Assign [.Name A T] r F) b) (mV a b g c h K) j) z (fun fz x y G P I=>Fl (G _ _ _ rfl).1 (G _ _ _ rfl).2 P W Y I ac) G P I
end
def tN(a:Wd)(b:Nat)(c:cK)(d:dS):Prop:=(vh a b c d)∧(v8 a b c d)∧(Dx a b c d)∧(y0 a b c d)∧(∀e,e4 a b c e→y0 a b c (.J e d))∧(Bs a b c d)
section
variable{a:Wd}{b:Nat}{c:cK}{d:dS}(e:tN a b c d)
include e
def tN.Dz:vh a b c d:=e.1
def tN.ev:v8 a b c d:=e.2.1
def tN.hK:Dx a b c d:=e.2.2.1
def tN.kv:y0 a b c d:=e.2.2.2.1
def tN.kv1:∀f,e4 a b c f→y0 a b c (.J f d):=e.2.2.2.2.1
def tN.Kn:Bs a b c d:=e.2.2.2.2.2
end
section
variable{d:Wd}{c:Nat}{b:cK}
def Tf:v8 d c b .N:=fun f i=>⟨fun h K e=>e.elim,fun K g e=>e.elim⟩
def YT:Dx d c b .N:=fun f i=>⟨fun h K e=>e.elim,fun K g e=>e.elim⟩
def YU:Bg d c b .N:=fun f h i=>⟨fun K e=>e.elim,fun K g e=>e.elim⟩
variable(a:zL d c b)
include a
theorem Tg{g:cv}(e:e4 d c b g):∀{i:dS},tN d c b i→tN d c b (.J g i)
 |.N,f=>⟨Jq e f.Dz,SX e,Yt e,f.kv1 g e,fun j h=>Jt h e f.kv,N8 e f.Kn⟩
 |.J _ _,f=>⟨Jq e f.Dz,P3 e f.ev,SY e f.hK,f.kv1 g e,fun j h=>Jt h e f.kv,N8 e f.Kn⟩
theorem YV{i:Fo}{e:cv}(f:e4 d c b e):∀{g:se},Bg d c b g→Bg d c b (.J i e g)
 |.N,_=>Yv a.cF f
 |.J _ _ _,h=>SZ a.cF f h
def V9(d:Wd)(c:Nat)(b:cK):cv→Prop
 |.cQ g=>tN d c b g
 |.ei _ f e=>e4 d c b f∧wL d c b e
 |_=>True
theorem F6:∀f:cv,e4 d c b f∧V9 d c b f:=@cv.rec (fun f=>e4 d c b f∧V9 d c b f) (tN d c b) (Bg d c b) (wL d c b) (Ld d c b)
 ⟨Yz,trivial⟩ (fun i=>⟨YA i,trivial⟩) (fun m=>⟨abf m,trivial⟩) (fun r=>⟨abg r,trivial⟩) (fun g=>⟨aa2 g,trivial⟩) (fun l=>⟨Yq a.cF l,trivial⟩)
 (fun fz s e e h i=>⟨aa3 fz s h.1 i.1,trivial⟩) (fun e h=>⟨aa4 h.1,trivial⟩) (fun e h=>⟨aa5 h.1,trivial⟩) (fun e g=>⟨aa9 g.ev,trivial⟩) (fun e g=>⟨acx g.hK,trivial⟩)
 (fun e e h n=>⟨abb h.1 n,trivial⟩) (fun e e e n h i=>⟨aa6 n.1 h.1 i.1,trivial⟩) (fun fz e e t g=>⟨YC a fz t.1 g.Dz,trivial⟩) (fun e o e j g=>⟨YD a o j.1 g.Dz,trivial⟩)
 (fun e o j=>⟨Yr a.cF o j.1,trivial⟩) (fun e e j m=>⟨abc a.cF j.1 m.1,trivial⟩) (fun fz e e e j q v=>⟨S0 fz j.1 q.1 v.1,trivial⟩) (fun e g=>⟨abd g.Dz,g⟩) (fun fz e g=>⟨Yx fz g.Dz,trivial⟩)
 (fun e e g k=>⟨Yy g.1 k.1,trivial⟩) (fun e g=>⟨YG a.cF g.kv,trivial⟩) (fun fz e e f l=>⟨YS fz f.1 l,f.1,l⟩) (fun e f=>⟨aa7 f.1,trivial⟩) ⟨abe,trivial⟩
 ⟨Ys,Tf,YT,YE,fun e e=>YF,abk⟩ (fun e e f k=>Tg a f.1 k) YU (fun e e e f k=>YV a f.1 k) trivial (fun e e e e e p u k=>⟨p,u.Kn,k⟩)
 (fun e f=>Qe f.1) (fun e f=>Qg a.cF f.1) (fun e f=>S8 a.cF f.1) fun e e h i=>YI a.cF h.1 i.1
theorem xo(e:cv):e4 d c b e:=(F6 a e).1
def acB(e:dS):tN d c b e:=(F6 a (.cQ e)).2
def gok(e:kG):wL d c b e:=(F6 a (.ei ar .bX e)).2.2
def iok(e:ub):Ld d c b e:=(gok a (.J [] ar e .N .N)).1
def acC:∀e:cW,tL d c b e:=@cW.rec (lW d c b) (tL d c b)
 (fun f=>YL (xo a f)) (fun u f=>QA (xo a f) fun fz p t v=>⟨xo a p,gok a t⟩) (fun l n=>Ll (acB a n).Dz) (fun l f=>Qp (xo a f)) (fun i h f=>Qq a.cF (xo a i) (xo a h) (xo a f))
 (fun i h r o j e=>Lm a.cF (xo a i) (xo a h) (xo a r) (xo a o) (xo a j) (xo a e)) (fun f=>abi (xo a f)) (fun k g g j e=>abj (xo a k) j e) (fun w k g e=>Qn (xo a k) e) (fun l x m g e=>YN (iok a m) e)
 YK (fun g e=>Tc e) abh YM fun g g q s=>Tb q s
end
def EI:∀{e:List b4}{d:List cj}{f:b4},e.length≤d.length→f∈e→((e.zip d).lookup f).isNone=b2:=by
 intro e
 induction e with
 |nil=>
  intro d
  rcases d with _|⟨_,_⟩
  ·intro a c b
   first|exact cG b|exact dy b|exact oa b|exact pG b|(cases b;done)|exact cG c|exact Bool.noConfusion c|exact False.elim c|exact Nat.noConfusion c|(cases c;done)|exact cG a|exact Bool.noConfusion a|exact False.elim a|exact Nat.noConfusion a|(cases a;done)
  ·intro a c b
   first|exact cG b|exact dy b|exact oa b|exact pG b|(cases b;done)|exact cG c|exact Bool.noConfusion c|exact False.elim c|exact Nat.noConfusion c|(cases c;done)|exact cG a|exact Bool.noConfusion a|exact False.elim a|exact Nat.noConfusion a|(cases a;done)
 |cons n e g=>
  intro d
  rcases d with _|⟨m,d⟩
  ·intro a c b
   first|exact cG b|exact dy b|exact oa b|exact pG b|(cases b;done)|exact cG c|exact dy c|exact oa c|exact pG c|(cases c;done)|exact cG a|exact Bool.noConfusion a|exact False.elim a|exact Nat.noConfusion a|(cases a;done)
  ·intro f j k
   exact rK (c:=fun h=>h.isNone=b2) (fun l=>rfl) fun i=>g (yz j) ((eP.mp k).resolve_left i)
def Lu{b:Type}{a d:b4}{e:b}{c:List (b4×b)}(f:a≠d):((d,e)::c).lookup a=c.lookup a:=by (refine bT Ci ?_;refine bT (beq_eq_false_iff_ne.mpr f) ?_;rfl)
def Fm{c:b4}{e:cj}{d:List (b4×cj)}:∀{b:List b4},c∉b→b.filterMap (fun a=>(((c,e)::d).lookup a).map (a,·))=b.filterMap fun a=>(d.lookup a).map (a,·):=by
 intro b
 induction b with
 |nil=>
  intro _
  exact rfl
 |cons a b f=>
  intro i
  obtain ⟨g,h⟩:=not_or.mp (mt eP.mpr i)
  (refine bT Ce ?_;refine bT Ce ?_;refine bT (f h) ?_;refine bT (Lu (Cv g)) ?_;rfl)
def Iw:∀{b:List b4}{a:List cj},b.Nodup→b.length≤a.length→b.filterMap (fun e=>((b.zip a).lookup e).map (e,·))=b.zip a:=by
 intro b
 induction b with
 |nil=>
  intro a
  rcases a with _|⟨_,_⟩
  ·intro _ _
   exact rfl
  ·intro _ _
   exact rfl
 |cons l b f=>
  intro a
  rcases a with _|⟨k,a⟩
  ·intro c d
   first|exact cG d|exact absurd d (tP _)|exact Bool.noConfusion d|exact False.elim d|exact cG c|exact nomatch c|exact Bool.noConfusion c|exact False.elim c
  ·intro g j
   obtain ⟨h,i⟩:=vU.mp g
   (refine bT List.zip_cons_cons ?_;refine bT Ce ?_;refine bT List.lookup_cons_self ?_;refine bT (Fm h) ?_;refine bT (f i (yz j)) ?_)
   rfl
def Ix{e c:Type}{f:e→c→gl (ForInStep c)}(b:c):∀{a:List e},(∀d∈a,f d b=ej (.yield b))→forIn a b f=ej b:=by
 intro a
 induction a with
 |nil=>
  intro _
  exact Gu
 |cons d a h=>
  intro g
  (rewrite [Gs];refine bT (g d (fD ..)) ?_)
  exact h fun j i=>g j (ia _ i)
structure iw(p:MA)(names:List b4):Prop where
 v2:p.posonlyargs=[]
 mT:p.vararg=b1
 kwo:p.kwonlyargs=[]
 acK:p.kwarg=b1
 nms:p.args.map (·.arg)=names
 nd:names.Nodup
def Oa{b d:Type}(a:b)(c:b→Sem d):(pure a>>=c)=c a:=rfl
def Lv{d:nL}{f:List b4}(q:iw d.params f){a:List cj}(c:a.length=f.length):
  GP d ⟨a,[]⟩=(do let _ ← GJ d.defaults;ej (f.zip a)):=by
 refine bU fun p=>?_
 obtain ⟨Q,F,⟨R,g,A,W,P,G,Y⟩,T,L,w,K,x,X,y,C,e,i,I,h⟩:=d
 obtain ⟨m,j,o,n,l,v⟩:=q
 refine p ?_;try clear p
 dsimp only at m j o n l
 subst m j o n l
 unfold GP
 dsimp only [List.forIn_nil,Oa]
 refine bind_congr fun z=>?_
 have s:¬a.length >(g.map (·.arg)).length:=jI.mpr (jH c)
 refine (if_neg fun b=>s (of_decide_eq_true (iX.mp b).1)).trans ?_
 have t:∀e,((g.map (·.arg)).take e).filter (fun h=>(((g.map (·.arg)).zip a).lookup h).isNone)=[] :=fun e=>
  TZ.mpr fun h u=>by refine bT (EI (jH c.symm) (L4 u)) ?_;exact kx
 refine (if_neg fun b=>kx ((congrArg (fun i=>!List.isEmpty i) (t _)).symm.trans b)).trans ?_
 refine (congrArg (· >>=_) (Ix _ fun k r=>?_)).trans ?_
 ·exact if_neg fun b=>kx ((EI (jH c.symm) (T6 (Uj (show (k.1,k.2)∈_ from r)).1)).symm.trans b)
 ·refine congrArg (ej:_→gl (List (b4×cj))) (Eq.trans ?_ (Iw v (jH c.symm)))
  show Ul _ (_++[])=_
  rw [kX]
  rfl
def Lw{a:nL}(k:iw a.params ["code","outer"]){e c:cj}:∃b,GP a ⟨[e],[]⟩=GJ a.defaults>>=b∧b (O #[c])=ej [(("code":b4),e),(("outer":b4),c)] :=by
 refine bU fun j=>?_
 obtain ⟨w,r,⟨y,x,p,A,v,s,G⟩,z,c,l,u,m,C,n,q,b,o,t,F⟩:=a
 obtain ⟨g,d,i,h,f,I⟩:=k
 refine j ?_;try clear j
 dsimp only at g d i h f
 subst g d i h
 unfold GP
 dsimp only [List.forIn_nil,Oa]
 refine ⟨_,rfl,?_⟩
 refine bT f ?_
 rfl
def hG(c:Sc)(d:List b4)(e:Nat)(b:fF):Prop:=((b.map (·.1)).Nodup)∧((b.map (·.2)).Nodup)∧(∀a∈b,d[a.1]? =O a.2)∧(∀a∈b,c.lookup a.2=O .local∨(c.lookup a.2=O .cell∧(a.2==("__classdict__":b4))=b2))∧(∀f∈d.take e,c.lookup f=O .local∨c.lookup f=O .cell)∧((d.take e).Nodup)∧(e≤d.length)
section
variable{c:Sc}{d:List b4}{e:Nat}{b:fF}(a:hG c d e b)
include a
def hG.Yn:(b.map (·.1)).Nodup:=a.1
def hG.Yo:(b.map (·.2)).Nodup:=a.2.1
def hG.eH:∀f∈b,d[f.1]? =O f.2:=a.2.2.1
def hG.abm:∀f∈b,c.lookup f.2=O .local∨(c.lookup f.2=O .cell∧(f.2==("__classdict__":b4))=b2):=a.2.2.2.1
def hG.par:∀f∈d.take e,c.lookup f=O .local∨c.lookup f=O .cell:=a.2.2.2.2.1
def hG.ndp:(d.take e).Nodup:=a.2.2.2.2.2.1
def hG.cC:e≤d.length:=a.2.2.2.2.2.2
end
abbrev HB:=b4→Option cj
section
variable{f:List (b4×cj)→HB→HB}{b:b4}(i:∀a,f [] a b=a b)(j:∀c d a,∃e,f ((b,c)::d) a=f d e∧e b=O c)(h:∀g c d a,g≠b→∃e,f ((g,c)::d) a=f d e∧e b=a b)
include i h
def Iy:∀{k:List (b4×cj)}{a:HB},b∉k.map (·.1)→f k a b=a b:=by
 intro k
 induction k with
 |nil=>
  intro a _
  exact i a
 |cons m d l=>
  obtain ⟨g,c⟩:=m
  intro a o
  obtain ⟨p,n⟩:=not_or.mp (mt eP.mpr o)
  obtain ⟨e,q,r⟩:=h g c d a (Cv p)
  (refine bT q ?_;refine bT (l n) ?_;refine bT r ?_;rfl)
include j
def EJ{c:cj}:∀{k:List (b4×cj)}{a:HB},(k.map (·.1)).Nodup→(b,c)∈k→f k a b=O c:=by
 intro k
 induction k with
 |nil=>
  intro o m n
  first|exact cG n|exact absurd n gD|exact Bool.noConfusion n|exact False.elim n|exact cG m|exact nomatch m|exact Bool.noConfusion m|exact False.elim m|exact cG o|exact nomatch o|exact Bool.noConfusion o|exact False.elim o
 |cons w d s=>
  obtain ⟨g,v⟩:=w
  intro a y p
  obtain ⟨r,x⟩:=vU.mp y
  rcases eP.mp p with t|p
  ·refine bU fun l=>?_
   obtain ⟨rfl,rfl⟩:=Vc t
   obtain ⟨e,q,u⟩:=j c d a
   refine l ?_;try clear l
   (refine bT q ?_;refine bT (Iy i h r) ?_;refine bT u ?_;rfl)
  ·refine bU fun l=>?_
   obtain ⟨e,q,_⟩:=h g v d a fun z=>r (z▸Cf (f:=(·.1)) p)
   refine l ?_;try clear l
   (refine bT q ?_;refine bT (s x p) ?_;rfl)
end
def Lx{c:b4→Option tV}{b:b4}{a:cj}(f:c b=O .local){d:List (b4×cj)}{e:HB}:(d.map (·.1)).Nodup→(b,a)∈d→bindL c d e b=O a:=
 EJ (f:=bindL c) (fun i=>rfl) (fun a h e=>⟨_,rfl,by refine bT (if_pos f) ?_;exact if_pos rfl⟩) fun j a h e g=>⟨_,rfl,by
  split
  ·exact if_neg g.symm
  ·rfl⟩
def Ly{c:b4→Option tV}{b:b4}{a:cj}(f:¬c b=O .local){d:List (b4×cj)}{e:HB}:(d.map (·.1)).Nodup→(b,a)∈d→bindC c d e b=O a:=
 EJ (f:=bindC c) (fun i=>rfl) (fun a h e=>⟨_,rfl,by refine bT (if_neg f) ?_;exact if_pos rfl⟩) fun j a h e g=>⟨_,rfl,by
  split
  ·rfl
  ·exact if_neg g.symm⟩
def Bt{f:b4}:∀{c:Sc}{h:Nat}{e:List (b4×cz)},((f,zo)∈c∨∃a,e.lookup f=O a)→∃a,(MB h c e).lookup f=O a:=by
 intro c
 induction c with
 |nil=>
  intro h e d
  exact d.elim (fun b=>absurd b gD) id
 |cons m q i=>
  obtain ⟨p,o⟩:=m
  intro h e d
  unfold MB
  split
  ·refine i (rK (c:=fun j=>_∨∃a,j=O a) (fun n=>.inr ⟨_,rfl⟩) fun l=>d.imp (fun b=>(eP.mp b).elim (fun g=>absurd (congrArg Prod.fst g) l) id) id)
  ·rename_i k
   exact i (d.imp (fun b=>(eP.mp b).elim (fun g=>absurd (beq_iff_eq.mpr (congrArg Prod.snd g).symm) k) id) id)
section
variable{c:Wd}{k:d9}{i:Nat}{j:cK}{b h:dQ}{e:bS}{f g:cM}{a:du}{d:fF}
def c7.YW(o:c7 c b e f)(s:cz→Prop){r:eu}(v:Nat)(u:∀q m,f.heap.get? q=O m→r.get? q=O m)(w:∀l,s l→@zs Nat instLENat f.heap.objs.size l):c7 c ⟨b.F,b.T.iu s r,b.α⟩ e {f with heap:=r,toks:=v}:=by
 refine o.KN (fun t=>False) v (fun t x=>x.elim) (fun q m t=>u q m) fun l m n=>?_
 by_cases p:s l
 ·rw [nD p] at n
  exact ⟨n,o.yY (w l p),o.fY (w l p)⟩
 ·rw [ou p] at n
  exact ⟨u l m (o.hN l m n),o.qo n⟩
def jF(c:Wd)(b:dQ)(e:bS)(a:du)(q:Sc)(d:fF)(p:List cj)(r:cV)(l:dQ)(g:cM):Prop:=(c7 c l e g)∧(eU c l a q d r)∧(Le (cY a) b l)∧(∀o,cY a o→b.T o=b1)∧(∀m∈d,∀n,p[m.1]? =O n→oq a l.T m.2 (O n))
section
variable{o:Wd}{q:dQ}{u:bS}{n:du}{s:Sc}{p:fF}{r:List cj}{t:cV}{m:dQ}{v:cM}(l:jF o q u n s p r t m v)
include l
def jF.S:c7 o m u v:=l.1
def jF.E:eU o m n s p t:=l.2.1
def jF.gm:Le (cY n) q m:=l.2.2.1
def jF.mN:∀a,cY n a→q.T a=b1:=l.2.2.2.1
def jF.mT:∀b∈p,∀a,r[b.1]? =O a→oq n m.T b.2 (O a):=l.2.2.2.2
end
def Lz(ae:c7 c b e f){Q:Sc}{F:List b4}{y:Nat}{o:List cj}{P:List (Option bZ)}(aw:a.scope.names=Q)(L:hG Q F y d)(au:a.scope.kind=.function)(aG:a.globals=pJ)(aA:a.builtins=qH){q:Nat}
  (az:a.cells=MB q Q []) (v:InCallC f a.locals (bindL a.kindOf ((F.take y).zip o) fun aC=>b1) a.cells (bindC a.kindOf ((F.take y).zip o) fun aC=>b1) g) (aI:o.length=P.length) (aD:∀(Y:Nat)(A:cj)(ai:bZ),o[Y]? =O A→P[Y]? =O (O ai)→dU c b ai A) (ao:o.length=y) {aB:Nat}:
  ∃aK,jF c b e a Q d o (P++ky aB b1) aK g:=by
 subst aw
 refine bU fun w=>?_
 obtain ⟨C,aL,rfl,aE⟩:=v.done
 have al:=v.toInCall.fresh
 have ah:∀{q p},a.cells.lookup q=O p→@Cw Nat instLTNat a.locals p:=fun l=>v.above _ _ (Ms l)
 have ak:∀s,cY a s→@zs Nat instLENat f.heap.objs.size s:=fun s l=>l.elim (fun r=>r▸al) fun ⟨q,l⟩=>cu al (iG (ah l))
 have aH:=ae.YW (cY a) aL aE ak
 have R:∀{s},cY a s→b.T.iu (cY a) C s=C.get? s:=fun l=>nD l
 obtain ⟨an,ay,aa⟩:=jp.eI v.toInCall.ns
 refine w ?_;try clear w
 have am:=(R (.inl rfl)).trans ay
 have aF:(F.take y).length≤o.length:=ao.symm▸Ch _ _
 have ab:(((F.take y).zip o).map (·.1)).Nodup:=by refine bT (Ug aF) ?_;exact L.ndp
 have ag:∀m∈d,∀n,o[m.1]? =O n→(m.2,n)∈(F.take y).zip o:=fun m t n u=>
  gj (i:=m.1) (TV.mpr ⟨(Gi (ao▸(fJ.mp u).1)).trans (L.eH m t),u⟩)
 have z:∀{I},a.scope.names.lookup I=O .cell→∃p,a.cells.lookup I=O p:=fun l=>by refine bT az ?_;exact Bt (.inl (jg _ l))
 have af:∀m∈d,∃K,oq a (b.T.iu (cY a) C) m.2 K∧∀n,o[m.1]? =O n→K=O n:=fun m t=>by
  rcases L.abm m t with G|⟨G,av⟩
  ·exact ⟨_,.bW G an _ am aa rfl,fun n u=>Lx G ab (ag m t n u)⟩
  ·refine bU fun w=>?_
   obtain ⟨p,z⟩:=z G
   obtain ⟨x,r,aJ⟩:=v.cell m.2 p z
   refine w ?_;try clear w
   exact ⟨_,.ir (.inl G) av p x z ((R (.inr ⟨_,z⟩)).trans r) aJ,fun n u=>Ly (fun aq=>by rw [show a.kindOf m.2=O .cell from G] at aq;cases aq) ab (ag m t n u)⟩
 refine ⟨⟨b.F,b.T.iu (cY a) C,b.α⟩,aH,?_,⟨k4.cy _,jU _,fun s q=>ou q⟩,fun s l=>ae.pC (ak s l),fun m t n u=>by obtain ⟨K,T,W⟩:=af m t;exact W n u▸T⟩
 refine {
  dm:=au
  mR:=aG
  m6:=aA
  b5:=fun I l=>l
  ir:=fun I l=>⟨l,z l⟩
  bW:=fun I l=>l
  inj:=fun q aN p l C=>name_of_addr v.apart (Ms l) (Ms C)
  hF:=fun q p l=>(kW (ah l)).symm
  Jp:=⟨an,am,_,aa⟩
  Ex:=fun q p l=>by obtain ⟨x,r,_⟩:=v.cell q p l;exact ⟨x,(R (.inr ⟨q,l⟩)).trans r⟩
  Yn:=L.Yn
  Yo:=L.Yo
  mT:=fun m t=>?_}
 refine bU fun w=>?_
 obtain ⟨K,T,W⟩:=af m t
 refine w ?_;try clear w
 refine ⟨K,T,fun A r=>?_⟩
 by_cases X:m.1<P.length
 ·rw [ph X] at r
  have ac:=gS (aI.symm▸X)
  exact ⟨_,W _ ac,aD _ _ _ ac (EK r)⟩
 ·rw [la (ra X)] at r
  have:=List.eq_of_mem_replicate (gj (EK r))
  exact cG this.symm
where
 EK {x:Option (Option bZ)} {A:bZ} (l:x.join=O A):x=O (O A):=match x,l with
  |some (O v),l=>congrArg (fun aM=>O (O aM)) (dg l)
end
end
section
open PySem PySem.W PySem.Spec PyProof.Rows PySem.Calls SeqAt
set_option backward.match.sparseCases true
noncomputable def abn:Flow→cj
 |.ret a=>a
 |_=>.none
def xq(a:Wd)(e:nL)(b:List bl):Prop:=(e.defaults=.none∧b=[])∨∃(f:cz)(c:eb)(d:Array cj)(g:Nat),e.defaults=.ref f∧a.eG.get? f=O c∧c.data=.seq d g∧(b≠ [] →dB a a.eG.get? b d.toList)
def nr(c:Wd)(f:Nat)(b:dz)(d:eb)(a:nL)(e:List dn):Prop:=(c.eG.get? (c.jT f)=O d)∧(d.data=.func a)∧(a.scope.isCoroutine=b2)∧(a.scope.isGenerator=b2)∧(a.scope.kind=.function)∧(a.body=.stmts e)∧(a.closure=[])∧(a.globals=pJ)∧(a.builtins=qH)∧(c.eG.CodeRec a.code a.qualname)∧(xq c a b.c3)∧(b.c3≠ [] →b.b9=2∧b.c3.length=1∧b.cn.take 2=[("code":b4),("outer":b4)])
section
variable{d:Wd}{g:Nat}{c:dz}{e:eb}{b:nL}{f:List dn}(a:nr d g c e b f)
include a
def nr.gJ:d.eG.get? (d.jT g)=O e:=a.1
def nr.Ob:e.data=.func b:=a.2.1
def nr.co:b.scope.isCoroutine=b2:=a.2.2.1
def nr.gen:b.scope.isGenerator=b2:=a.2.2.2.1
def nr.dm:b.scope.kind=.function:=a.2.2.2.2.1
def nr.cA:b.body=.stmts f:=a.2.2.2.2.2.1
def nr.clo:b.closure=[] :=a.2.2.2.2.2.2.1
def nr.pS:b.globals=pJ:=a.2.2.2.2.2.2.2.1
def nr.YX:b.builtins=qH:=a.2.2.2.2.2.2.2.2.1
def nr.jv:d.eG.CodeRec b.code b.qualname:=a.2.2.2.2.2.2.2.2.2.1
def nr.c3:xq d b c.c3:=a.2.2.2.2.2.2.2.2.2.2.1
def nr.abo:c.c3≠ [] →c.b9=2∧c.c3.length=1∧c.cn.take 2=[("code":b4),("outer":b4)] :=a.2.2.2.2.2.2.2.2.2.2.2
end
def Q2(c:Wd)(g:Nat)(a:dz)(h:cW):Prop:=∃f b e d,nr c g a f b e∧iw b.params (a.cn.take a.b9)∧hG b.scope.names a.cn a.b9 d∧xn c.T b.scope.names d h e=ar
def Bu(b:Wd)(o:d9)(j:dQ)(m:bS)(e:Sc)(f:fF)(d:List cj)(g:cV)(h:List dn)(l:tZ→cM→Prop):Prop:=∀a i c,jF b j m a e f d g i c→Wp b (o.deeper a) (execs h a) (fun k n=>l (.ok (.ret (abn k))) n) c
section
variable{a:Wd}{g:d9}{q:Nat}{s:cK}{b r:dQ}{n:bS}{h:cM}{j:Nat}{c:dz}{k:eb}{d:nL}{l:List dn}{i:Nat}{o:fF}{m:tZ→cM→Prop}{e:List cj}{p:List (Option bZ)}
def xi.QB(f:xi g (q+1))(t:du):xi (g.deeper t) q:=⟨f.f8,by have:=f.dG;show g.depth+1+4*q<_;exact WR this,WS f.BT⟩
def Bv(T:a.eG.NoLimit)(f:nr a j c k d l)(K:hG d.scope.names c.cn i o)(z:c7 a b n h)(W:e.length=p.length)(Q:∀(x:Nat)(C:cj)(F:bZ),e[x]? =O C→p[x]? =O (O F)→dU a b F C)(ab:e.length=i)
  (u:Bu a g b n d.scope.names o e (p++ky (c.cn.length-i) b1) l m):
  n9 (i5 a.dP a.w) g.in1 (newFunctionEnv d.scope d.globals d.closure ((c.cn.take i).zip e) (d.qualname++".<locals>.") (O (a.jT j)) d.code b1 d.builtins)
   (fun w I=>I.heap.NoLimit∧mA (i5 a.dP a.w) g (.func l w) m I) (fun v y=>m (.error v) y) h:=by
 refine bT f.clo ?_
 refine wpAny_newFunctionEnv_cells f.dm (fun G P=>(K.par _ (Uj (show (G.1,G.2)∈_ from P)).1).imp id fun u=>⟨u,F7.mpr (Bt (.inl (jg _ u)))⟩) fun w t af A=>?_
 have L:h.heap.NoLimit:=by obtain ⟨aa,ac,ae⟩:=T;exact ⟨aa,ac.keeps fun ag k v=>z.kR v,ae⟩
 obtain ⟨X,R⟩:=Lz (aB:=c.cn.length-i) z (by refine bT t ?_;rfl) K (by refine bT t ?_;exact f.dm) (by refine bT t ?_;exact f.pS) (by refine bT t ?_;exact f.YX) (by refine bT t ?_;rfl) A W Q ab
 exact ⟨L.keeps A.toInCall.keep,codeAny_func ((u w X af R).mQ fun ah y Y=>Y)⟩
def Fn{C:Model}{I:cj→cM→Prop}{v:List bl}(K:xq a d v)(x:c7 a b n h){y:Option (Array cj)→cM→Prop}(w:∀z,(v≠ [] →∃f,z=O f∧dB a b.F v f.toList)→y z h):n9 C g (GJ d.defaults) y I h:=by
 rcases K with ⟨t,rfl⟩|⟨P,k,f,L,t,G,A,F⟩
 ·refine bT t ?_
  exact GH (show GJ Value.none=ej b1 from rfl) (w b1 fun u=>absurd rfl u)
 ·refine bT t ?_
  exact wpAny_seqItems (x.kR G) A (w _ fun u=>⟨f,rfl,(F u).cO x.kQ⟩)
def Bw(I:a.eG.NoLimit)(F:g.depth<zf)(f:nr a j c k d l)(z:iw d.params (c.cn.take i))(v:hG d.scope.names c.cn i o)(t:c7 a b n h)(K:e.length=p.length)
  (C:∀(w:Nat)(u:cj)(y:bZ),e[w]? =O u→p[w]? =O (O y)→dU a b y u) (x:e.length=i) (G:Bu a g b n d.scope.names o e (p++ky (c.cn.length-i) b1) l m):mA (i5 a.dP a.w) g (.call (.ref (a.jT j)) ⟨e,[]⟩) m h:=by
 refine Us F (t.kR f.gJ) f.Ob f.co f.gen f.cA (f.jv.keeps fun P k A=>t.kR A) ?_
 rw [Lv z (by (refine bT zd ?_;refine bT (y6 v.cC) ?_;refine bT x ?_;rfl))]
 exact c5 (Fn f.c3 t fun Q L=>fR (Bv I f v t K C x G))
def ef.xh{x:bZ}{w:List bZ}{v:List cj}{u:List cj→Prop}(z:ef a b (x::w) v)(j:∀f t,dU a b x f→ef a b w t→u (f::t)):u v:=by
 obtain ⟨f,t,rfl,A,y⟩:=z
 exact j f t A y
def ef.oU{x:List bZ}:∀{v:List cj},ef a b x v→∀(f:Nat)(t:cj)(u:bZ),v[f]? =O t→(x.map O)[f]? =O (O u)→dU a b u t:=by
 induction x with
 |nil=>exact fun w w w w w C=>cG C
 |cons L F A=>
  intro v I f t u
  refine I.xh (u:=fun v=>v[f]? =O t→((L::F).map O)[f]? =O (O u)→dU a b u t) fun P Q K G y z=>?_
  induction f with
  |zero=>exact dg (dg z)▸dg y▸K
  |succ f=>exact A G f t u y z
def ef.NY{u:List bZ}{v:List cj}(w:ef a b u v){t:List bZ}:∀{f:List cj},ef a b t f→ef a b (t++u) (f++v):=by
 induction t with
 |nil=>intro f z;refine bT (show f=[] from z) ?_;exact w
 |cons G t y=>exact fun C=>C.xh (u:=fun f=>ef a b (G::(t++u)) (f++v)) fun x f F A=>⟨x,_,rfl,F,y A⟩
def Iz(ae:a.eG.NoLimit)(W:g.depth<zf)(f:nr a j c k d l)(A:iw d.params (c.cn.take c.b9))(al:hG d.scope.names c.cn c.b9 o)(u:c7 a b n h){w:List bZ}(P:ef a b w e)(z:c.c3≠ [])(F:w.length+c.c3.length=c.b9)
  (ai:∀af,Bu a g b n d.scope.names o af ((w++c.c3.map bZ.f).map O++ky (c.cn.length-c.b9) b1) l m):mA (i5 a.dP a.w) g (.call (.ref (a.jT j)) ⟨e,[]⟩) m h:=by
 refine Us W (u.kR f.gJ) f.Ob f.co f.gen f.cA (f.jv.keeps fun am k T=>u.kR T) ?_
 refine bU fun x=>?_
 obtain ⟨C,G,L⟩:=f.abo z
 rw [C] at A F
 have ag:e.length=1:=by refine bT P.cC ?_;rw [G] at F;exact mB F
 obtain ⟨v,rfl⟩:=T1.mp ag
 refine x ?_;try clear x
 rw [L] at A
 rcases f.c3 with ⟨_,ak⟩|⟨ao,an,y,aq,X,ac,R,Y⟩
 ·exact absurd ak z
 have I:=(Y z).cO u.kQ
 refine bU fun x=>?_
 obtain ⟨y⟩:=y
 obtain ⟨t,aa⟩:=T1.mp (I.cC.trans G)
 obtain rfl:y=[t] :=aa
 obtain ⟨K,ah,ab⟩:=Lw (e:=v) (c:=t) A
 refine x ?_;try clear x
 (refine bT ah ?_;refine bT X ?_)
 refine c5 (wpAny_seqItems (u.kR ac) R ?_)
 refine bT ab ?_
 refine fR ?_
 have Q:ef a b (w++c.c3.map bZ.f) ([v] ++[t]):=I.Zg.NY P
 have:=Bv (e:=[v,t]) (p:=(w++c.c3.map bZ.f).map O) ae f al u (by rw [et];exact Q.cC) (ef.oU (v:=[v,t]) Q) C.symm (ai [v,t])
 rw [C,L] at this
 exact this
end
def Wa(c:cj→cM→Prop)(d:tZ)(b:cM):Prop:=match d with
 |.ok (.ret a)=>c a b
 |.ok _=>False
 |.error e=>False
section
variable{a:Wd}{k:d9}{q:Nat}{o:cK}{d c:dQ}{g:bS}{n:cM}{b:Nat}{e:dz}{j:cW}{p:Sc}{m:fF}{r:List dn}{i:cV}{l:List cj}{h:KE}
def QC:∀{f:Nat}{K:cV→Prop},Wq f K→K (ky f b1):=by
 intro f
 induction f with
 |zero=>
  intro _ b
  exact b
 |succ f s=>
  intro K b
  exact s (K:=fun i=>K (b1::i)) b
def x5{s:Nat}:∀{f:List bZ}{K:cV→Prop},QQ f s K→K (f.map O++ky s b1):=by
 intro f
 induction f with
 |nil=>
  intro _ b
  exact QC b
 |cons u v t=>
  intro K b
  exact t (K:=fun i=>K (O u::i)) b
def Th{f w:List bZ}{u:List bZ→Prop}(s:l5 e f=O w)(x:f.length=e.b9→u f)(y:e.c3≠ [] →f.length+e.c3.length=e.b9→u (f++e.c3.map .f)):u w:=by
 unfold l5 at s
 by_cases t:f.length=e.b9
 ·rw [if_pos t] at s
  exact dg s▸x t
 ·rw [if_neg t] at s
  obtain ⟨v,z⟩:=eB s
  exact dg z▸y (fun A=>t (by rw [A] at v;exact v)) v
def jF.acD{f:du}{w:dQ}{L u:cM}{x:bS}{C:cV}(z:jF a d g f p m l i w L)(G:Le (cY f) w c)(y:eU a c f p m C)(I:c7 a c x u):pY d ⟨c.F,c.T.h3 (cY f),c.α⟩∧c7 a ⟨c.F,c.T.h3 (cY f),c.α⟩ x u:=
 ⟨mi (n:=cY f) (r:=fun s=>False) z.mN ((z.gm.ci G).up fun s=>.inl),I.h3 (cY f) u.toks (fun K v=>v.elim (fun t=>let ⟨A,P,_⟩:=y.Jp;⟨A,t▸P⟩) fun ⟨F,v⟩=>y.Ex F K v) fun s s s t=>t⟩
def c7.Zu{t:bS}(v:c7 a c t n)(s:pY d c){f:Nat}(u:d.α.length=f):c7 a ⟨c.F,c.T,d.α⟩ (t.take f) n∧pY d ⟨c.F,c.T,d.α⟩:=by
 obtain ⟨x,w⟩:=s.α
 have:=v.x6 f
 rw [← w,← u,ze] at this
 exact ⟨u▸this,s.F,jU _,s.T⟩
def JC(K:tL a q o j)(L:xn a.T p m j r=ar)(I:xi k (q+1)){C:Bool}(W:d.α.length=g.length)(b:fG ⟨a.T,o⟩ j i g (lG C g.length h)):Bu a k d g p m l i r (Wa (VP a d h)):=fun R ab ac u=>
 (K L _ ⟨I.QB R,u.S,u.E⟩ b).xp fun P Y Q aa v c F T s G b=>by
  refine bU fun f=>?_
  obtain ⟨y,x⟩:=u.acD F T G
  obtain ⟨z,A⟩:=x.Zu y W
  refine f ?_;try clear f
  induction Q with
  |cc=>
   refine bT (show P=.next from s) ?_
   exact ⟨.f .bX,_,_,A,(rfl:g5 a c.F .bX .none),z,b⟩
  |gX=>exact b.elim
  |cw w=>
   refine bU fun f=>?_
   obtain ⟨X,rfl,s⟩:=s
   refine f ?_;try clear f
   induction C with
   |true=>
    have b:h w v:=b
    exact ⟨w,v,_,y,s.cO (Le.h3 _),x,b⟩
   |false=>
    refine bU fun f=>?_
    obtain ⟨t,rfl,b⟩:=td (K:=fun t=>h (.f t) (v.take g.length)) b
    refine f ?_;try clear f
    exact ⟨.f t,_,_,A,s,z,b⟩
def Ti(F:a.eG.NoLimit)(L:Q2 a b e j)(C:tL a q o j)(v:xi k (q+1))(s:c7 a d g n){A t:List bZ}(u:ef a d A l)(Q:l5 e A=O t)(f:Ag ⟨a.T,o⟩ e j t g h):Wp a k (gg (.ref (a.jT b)) l) (VP a d h) n:=by
 refine bU fun I=>?_
 obtain ⟨R,W,r,m,x,z,K,G⟩:=L
 refine I ?_;try clear I
 have y:k.depth<zf:=kT (fg _ _) v.dG
 refine wpAny_call (Th (u:=fun t=>Ag ⟨a.T,o⟩ e j t g h→mA (i5 a.dP a.w) k (.call (.ref (a.jT b)) ⟨l,[]⟩) (Wa (VP a d h)) n) Q (fun w f=>?_) (fun P w f=>?_) f)
 ·exact Bw F y x z K s (by (rewrite [et];refine bT u.cC ?_;rfl)) u.oU (u.cC.trans w) (JC C G v s.cC (x5 f))
 ·exact Iz F y x z K s u P w fun T=>JC C G v s.cC (x5 f)
end
end
section
open PySem PySem.W PySem.Spec PyProof.Rows PySem.Calls SeqAt Builtin Builtin.ObjectAttr
set_option backward.match.sparseCases true
def ke(c:eb)(e:b4→Option cj):Prop:=∃a d,c.data=.dict a d∧StrKeys a∧UniqKeys a∧∀b,tX a b=e b
def ke.Q1{a:eb}{b:b4→Option cj}(h:ke a b):jp a b:=by obtain ⟨f,d,g,e,_,c⟩:=h;exact ⟨f,d,g,e,c⟩
def ke.eH{b:eu}{c:cz}{a:eb}{d:b4→Option cj}(h:ke a d)(e:b.get? c=O a):b.Ns1 c d:=by obtain ⟨g,f,i⟩:=h;exact ⟨a,g,f,e,i⟩
def ke.eI{b:eu}{c:cz}{d:b4→Option cj}(h:b.Ns1 c d):∃a,b.get? c=O a∧ke a d:=by obtain ⟨a,g,f,e,i⟩:=h;exact ⟨a,e,g,f,i⟩
def ke.abp:ke t7 fun a=>b1:=⟨#[],_,rfl,fun b c=>absurd c (Array.not_mem_empty b),by unfold UniqKeys;exact .nil,fun a=>rfl⟩
inductive abq(W:Wd)(g:dQ)(dx:cz)(m:b4→Option cj)(ns:List b4)(K:List bZ→bS→Prop)(s':cM):Prop
 |mk (ms:List bZ) (us:List cj) (AO:bS) (g':dQ) (od:eb) (m':b4→Option cj) (le:Le (fun a=>a=dx) g g') (S:c7 W g' AO s') (D1:g'.T dx=O od) (hns:ke od m') (r:ef W g' ms us) (hl:ms.length=ns.length) (no:∀nm,nm∉ns→m' nm=m nm) (at_:∀(j:Nat)(nm:b4)(v:cj),ns[j]? =O nm→us[j]? =O v→m' nm=O v) (k:K ms AO)
section
variable{b:Wd}{f:d9}{k:Nat}{l:cK}{e m:dQ}{g:bS}{c:cM}{d:du}{i:Sc}{h:fF}{j:cV}
def LA{t o n:cz}{r:b4}{u:cj}{v:b4→Option cj}{w:eb}{z:List b4}{A:Unit→cM→Prop}(p:b.K.In c.heap)(y:c.heap.get? t=O (ki n o))(C:c.heap.get? o=O w)(Y:ke w v)
  (W:GW b.K n=ar) (ai:jj b.K (.ref n) r=O b1) (L:GV b.K n=ar) (ah:jj b.K (.ref n) "__setattr__"=O (O (.builtin "object.__setattr__"))) (K:Within v z) (aa:z.length≤1000)
  (ag:∀q s af,t5 o c.heap q→q.get? o=O s→ke s (fun I=>if I=r then O u else v I)→A () {c with heap:=q,toks:=af}):Wp b f (setAttr (.ref t) r u) A c:=by
 refine bU fun a=>?_
 obtain ⟨x,e,av,an,al⟩:=c
 refine a ?_;try clear a
 have p:b.K.In x:=p
 have F:PySem.W.InstAt x t (ki n o) n (O w):=⟨y,rfl,rfl,C⟩
 refine set_plain p F ah (osa_open p F W (show takerIn b.K n r=O b1 by unfold takerIn;refine bT ai ?_;rfl) fun am=>?_)
 refine bU fun a=>?_
 obtain ⟨ak,P,ab⟩:=any_some (show (clsIn b.K n).any (·.hasDict)=ar from L)
 refine a ?_;try clear a
 refine c5 (fR (c5 (c5 (wpAny_loadPart y (c5 ((looks_clsIn p P).here ?_))))))
 refine bT ab ?_
 refine fR (a:=O o) (c5 (fR (c5 (wpAny_nsSet1 (Y.eH C) fun q G ac=>?_))))
 refine bU fun a=>?_
 obtain ⟨ao,aq,au,ae,X,T⟩:=G.count (Within.cons r u K)
 refine a ?_;try clear a
 refine c5 (wpAny_lookBehind ae (by refine bT X ?_;exact pastItsLine_dict (cu T (cu (iF aa) (by decide)))) ?_)
 refine bU fun a=>?_
 obtain ⟨s,R,Q⟩:=ke.eI G
 refine a ?_;try clear a
 exact fR (ag q s _ ac R Q)
def IA(r:c7 b e g c)(p:eU b e d i h j){t:b4}{w:cj}{v:cj→cM→Prop}(y:oq d e.T t (O w))(q:v w c):Wp b f (loadName d t) v c:=by
 induction y with
 |bW a o F n x z=>exact Ut p.dm a (x.eH (r.hN _ _ n)) z q
 |ir a A C o u n s=>
  rcases a with a|a
  ·exact Uu p.dm a u ⟨o,r.hN _ _ n,s⟩ q
  ·exact Uv p.dm a u ⟨o,r.hN _ _ n,s⟩ q A
def QD(aJ:∀y,e4 b k l y){G q:cz}{ao:Nat}{w:lb}(R:kn b ao w)(aT:b.K.In b.eG)(az:¬cY d q)(bx:G≠q)(aH:w.dj.length≤1000):∀{s:List (b4×cv)}{r:List dn},Dh b.T i h s r=ar→
  ∀{e:dQ}{g:bS}{c:cM}{u:b4→Option cj}{C:eb}{K:List bZ→bS→Prop},At b k f e g c d i h j→(∀a,(0,a)∈h→oq d e.T a (O (.ref G)))→e.T G=O (ki (b.eS ao) q)→e.T q=O C→ke C u→Within u w.dj→
  (s.map (·.1)).Nodup→(∀a∈s.map (·.1),a∈w.dj)→G6 ⟨b.T,l⟩ s j g K→Wp b f (execs r d) (fun bu aO=>bu=.next∧abq b e q u (s.map (·.1)) K aO) c:=by
 intro s
 induction s with
 |nil=>
  intro r A e g c u C K z _ _ ae ac _ _ _ aa
  exact iq (b:=fun r=>Wp b f (execs r d) _ c) A (Cl ⟨rfl,[],[],g,e,C,u,.cy _,z.S,ae,ac,rfl,rfl,fun ag ag=>rfl,fun P a x n T=>e0 n,aa⟩)
 |cons I bF aD=>
  intro r A e g c u C K z aX bp ae ac al aY ay aa
  obtain ⟨bw,aR⟩:=vU.mp aY
  have aq:=ay I.1 (fD ..)
  refine d3 (e:=fun r=>Wp b f (execs r d) _ c) A fun F r A=>f4 A fun bz bm=>UE ?_
  refine lq (b:=fun F=>Wp b f (f9 F d) _ c) bz fun ak x af t=>qi (b:=fun ak=>Wp b f (f9 (.Assign ak x af) d) _ c) t fun aB t=>p1 (b:=fun aB=>Wp b f (f9 (.Assign [aB] x af) d) _ c) t fun Y n aw t=>k7 (a:=fun Y=>Wp b f (f9 (.Assign [.Attribute Y n aw] x af) d) _ c) t fun a aQ t=>Dw t fun bA aL aI aS bb=>?_
  obtain rfl:=dr aS
  refine Gz (((aJ I.2 bb z).d8 _ aa).vp fun W a8 aV bj p ab bq v bf=>?_) (B3 (eC aI) _ _) rfl
  show Wp b f (lk (.Attribute (.Name a aQ) I.1 aw) d W) _ a8
  rw [arm_assign_Attribute]
  have aA:=z.cc ab v
  have X:∀n,p.T n=e.T n:=fun n=>ab.T n fun o=>o
  have av:∀a,(0,a)∈h→oq d p.T a (O (.ref G)):=fun a o=>(aX a o).BV fun n ag=>X n
  have F:=(X G).trans bp
  have ai:=(X q).trans ae
  refine c5 (iH (wpAny_Name (IA v aA.E (av a (rb.mp bA)) (c5 (oy (c5 (iH ?_))))) (eC aL)))
  refine LA (b:=b) (z:=w.dj) (aT.keeps fun T Y y=>v.kR y) (v.hN _ _ F) (v.hN _ _ ai) ac R.cE (R.dj _ aq) R.A3 R.SR al aH fun bE Q aK aZ aE a4=>GF ?_
  have bv:∀n,cY d n→(p.T.d7 q Q) n=p.T n:=fun n be=>di.fe _ _ fun o=>az (o▸be)
  have bh:Within (fun L=>if L=I.1 then O W else u L) w.dj:=fun L aN=>by
   by_cases y:L=I.1
   ·refine bT y ?_;exact aq
   ·exact al L fun o=>aN ((if_neg y).trans o)
  refine (aD bm (⟨z.a,v.QZ (u:=aK) ai aZ aE,aA.E.off az Q⟩:At b k f ⟨p.F,p.T.d7 q Q,p.α⟩ bj _ d i h j) (fun a o=>(av a o).BV bv) ((di.fe _ _ bx).trans F) (di.eF _ _ _) a4 bh aR (fun a o=>ay a (ia _ o)) bf).cO fun bD bC bc=>?_
  refine bU fun aC=>?_
  obtain ⟨bk,aF,an,aM,a6,aW,a7,ah,aP,aG,bn,aU,bg,au,bo,ba⟩:=bc
  refine aC ?_;try clear aC
  have am:Le (fun n=>n=q) p ⟨p.F,p.T.d7 q Q,p.α⟩:=⟨k4.cy _,jU _,fun n bB=>di.fe _ _ bB⟩
  refine ⟨bk,aV::aF,W::an,aM,a6,aW,a7,ab.vd.ci (am.ci ah),aP,aG,bn,⟨W,an,rfl,bq.cO (am.ci ah),aU⟩,congrArg pI bg,fun a o=>?_,fun P a x n T=>?_,ba⟩
  ·obtain ⟨a5,a9⟩:=not_or.mp (mt eP.mpr o)
   exact (au a a9).trans (if_neg a5)
  ·induction P with
   |zero=>
    (refine gT (dg n) ?_;refine gT (dg T) ?_)
    exact (au _ bw).trans (if_pos rfl)
   |succ P=>exact bo P a x n T
end
end
section
open PySem PySem.W PySem.Spec PyProof.Rows PySem.Calls SeqAt
set_option backward.match.sparseCases true
def Bx(c:Wd)(h:Nat)(a:dz)(f:List (b4×cv)):Prop:=∃g b e d,nr c h a g b e∧iw b.params (a.cn.take (a.b9+1))∧hG b.scope.names a.cn (a.b9+1) d∧a.cn.length=a.b9+1∧Dh c.T b.scope.names d f e=ar
section
variable{a:Wd}{e:d9}{j:Nat}{l:cK}{c b:dQ}{h:bS}{i:cM}{d:du}{n:Sc}{m:fF}{o:cV}{g:List cj}{k:KE}
def Tj{q:Nat}{t:lb}(al:a.T.e7[q]? =O t){u:cz→Prop}{p f:cz}{r:eb}{F:b4→Option cj}{x:List bZ}{w:List cj}{ak:Nat}{fz:Bool}(aA:∀y,u y→c.T y=b1)(au:Le u c b)(s:c7 a b h i)(aw:∀y,u y→∃az,b.T y=O az)(Y:u p)(aE:u f)(af:p≠f)
  (Q:b.T p=O (ki (a.eS q) f)) (ag:b.T f=O r) (aF:jp r F) (aC:ef a b x w) (ai:x.length=t.dj.length) (av:∀A,A∉t.dj→F A=b1) (am:∀(X:Nat)(A:b4)(T:cj),t.dj[X]? =O A→w[X]? =O T→F A=O T) (aB:c.α.length=ak) (C:Wt fz q ak k x h):VP a c k (.ref p) i:=by
 have aD:=s.h3 u i.toks aw fun v v v an=>an
 have aG:=mi (r:=fun v=>False) aA (au.up fun v=>.inl)
 have aa:=s.qo ag
 have I:=s.qo Q
 refine bU fun z=>?_
 obtain ⟨aq,ab⟩:=aD.uw (s.hN _ _ ag) aa.1 (o8 aE) fun ao L=>absurd (gj L) aa.2
 obtain ⟨R,ac⟩:=aq.uw (s.hN _ _ Q) ((di.fe _ _ af).trans I.1) (o8 Y) fun ao L=>absurd (gj L) I.2
 refine z ?_;try clear z
 have ah:v6 a ((b.F.d7 f r).d7 p (ki (a.eS q) f)) p q t w:=⟨al,f,r,F,di.eF _ _ _,(di.fe _ _ af.symm).trans (di.eF _ _ _),aF,am,av⟩
 have W:=aG.ci (ab.ci ac)
 have P:ef a ⟨(b.F.d7 f r).d7 p (ki (a.eS q) f),(b.F.d7 f r).d7 p (ki (a.eS q) f),b.α⟩ x w:=aC.cO (j:=fun v=>True) (b:=b) (e:=⟨(b.F.d7 f r).d7 p (ki (a.eS q) f),(b.F.d7 f r).d7 p (ki (a.eS q) f),b.α⟩) ⟨(ab.ci ac).F,jU _,fun v aH=>(aH trivial).elim⟩
 induction fz with
 |true=>
  refine bU fun z=>?_
  obtain ⟨ay,ae,C⟩:=P.uP C
  obtain ⟨G,K⟩:=R.Zu W aB
  refine z ?_;try clear z
  exact ⟨.f (.gJ q ay),_,_,K,⟨p,t,w,rfl,ah,ae.cC.symm.trans (P.cC.trans ai),ae⟩,G,C⟩
 |false=>
  obtain ⟨G,K⟩:=R.FZ (p:=.jW q x) I.2 (o8 Y) ⟨_,s.hN _ _ Q⟩ ⟨t,w,ah,ai,P⟩
  exact ⟨.fK h.length,_,_,W.ci K,⟨p,rfl,by refine gT s.cC ?_;exact TR⟩,G,C⟩
def QE{e f:d9}{j:Nat}(p:xi e (j+1))(t:f.handled=e.handled)(q:f.depth=e.depth+1)(v:f.units≤e.units+4)(d:du):f.depth<zf∧xi (f.deeper d) j:=by
 have s:=p.f8
 have r:=p.dG
 have u:=p.BT
 exact ⟨Oi q r,t.trans s,IF q r,IE v u⟩
def Tk{q:Nat}{w:lb}{I:dz}{G:List (b4×cv)}(R:kc a)(aw:a.eG.NoLimit)(ah:a.T.e7[q]? =O w)(aY:Bx a w.gx I G)(az:∀y,e4 a j l y)(aL:xi e (j+1))(A:c7 a c h i){C:List bZ}(ae:ef a c C g)(aS:C.length=I.b9)(W:G.map (·.1)=w.dj)(ay:w.dj.length≤1000)
  (x:Y9 ⟨a.T,l⟩ w q G C h k):Wp a e (gg (.ref (a.eS q)) g) (VP a c k) i:=by
 refine bU fun u=>?_
 obtain ⟨af,be,bb,m,aD,aJ,aa,aT,aM⟩:=aY
 refine u ?_;try clear u
 have z:=R.e7 q w ah
 have T:=A.F0 R
 have x:=x5 x
 refine wpAny_call ?_
 refine bU fun u=>?_
 obtain ⟨p,a6,bh,aU,a4⟩:=i
 refine u ?_;try clear u
 refine make_core (makes_of T z.aa0) (looks_findIn T z.gx) (fun aX=>bind_fn T aX z.X9) (.inl rfl) ?_
 have aO:=dX p.objs.size
 have L:(p.objs.size+1:Nat)≠p.objs.size:=Nat.succ_ne_self _
 have aq:((p.push t7).objs.size:Nat)=p.objs.size+1:=GR ..
 have aA:=A.Dy (l:=t7) rfl
 have aI:=aA.wx (r:=p.objs.size+1) (v:=ki (a.eS q) p.objs.size) (s:=(p.push t7).push (ki (a.eS q) p.objs.size)) aU (fun F F y=>ng _ y) (aq▸oz _ rfl) (jH aq)
 have aW:c.T p.objs.size=b1:=A.pC aO
 have aF:c.T (p.objs.size+1)=b1:=A.pC (fM _)
 have ao:((c.T.d7 p.objs.size t7).d7 (p.objs.size+1) (ki (a.eS q) p.objs.size)) p.objs.size=O t7:=(di.fe _ _ L.symm).trans (di.eF _ _ _)
 have Y:((c.T.d7 p.objs.size t7).d7 (p.objs.size+1) (ki (a.eS q) p.objs.size)) (p.objs.size+1)=O (ki (a.eS q) p.objs.size):=di.eF _ _ _
 have X:Le (fun r=>r=p.objs.size∨r=p.objs.size+1) c ⟨c.F,(c.T.d7 p.objs.size t7).d7 (p.objs.size+1) (ki (a.eS q) p.objs.size),c.α⟩:=⟨k4.cy _,jU _,fun r P=>(di.fe _ _ fun f=>P (.inr f)).trans (di.fe _ _ fun f=>P (.inl f))⟩
 have av:∀d,(e.under (.builtin "type.__call__" ⟨.ref (a.eS q)::g,[]⟩)).depth<zf∧xi ((e.under (.builtin "type.__call__" ⟨.ref (a.eS q)::g,[]⟩)).deeper d) j:=fun d=>QE (f:=e.under (.builtin "type.__call__" ⟨.ref (a.eS q)::g,[]⟩)) aL rfl rfl (jq (show (PySem.Code.builtin "type.__call__" ⟨.ref (a.eS q)::g,[]⟩).cUnits≤4 from (by decide:1≤4)) _) d
 have x:G6 ⟨a.T,l⟩ G ((b1::C.map O)++ky (I.cn.length-(I.b9+1)) b1) h (Wt w.ey q h.length k):=by (refine bT aT ?_;rw [pg]);exact x
 generalize p.objs.size=t at*
 refine Bw aw (av default).1 aD aJ aa aI (e:=.ref (t+1)::g) (p:=b1::C.map O) (congrArg pI (by rw [et];exact ae.cC)) (fun ab aK aV aQ am=>?_) (congrArg pI (ae.cC.trans aS)) fun d bc a9 s=>?_
 ·induction ab with
  |zero=>cases am
  |succ ab=>exact (ae.oU ab aK aV aQ am).cO X
 have K:¬cY d t:=fun f=>by
  have:=ao.symm.trans (s.mN t f)
  exact cG this.symm
 have ac:¬cY d (t+1):=fun f=>by
  have:=Y.symm.trans (s.mN _ f)
  exact cG this.symm
 refine (QD az z R.F0 K L ay aM ⟨(av d).2,s.S,s.E⟩ (fun aB f=>s.mT _ f _ rfl) ((s.gm.T _ ac).trans Y) ((s.gm.T _ K).trans ao) ke.abp (fun v aE=>absurd rfl aE) (W▸z.pZ) (fun aB f=>W▸f) x).cO fun bg ba aR=>?_
 refine bU fun u=>?_
 obtain ⟨aa,aZ,a7,a5,b,a8,bf,Q,aH,ag,aN,aP,an,al,ai,aG⟩:=aR
 refine u ?_;try clear u
 subst aa
 have ak:b.T (t+1)=O (ki (a.eS q) t):=(Q.T _ L).trans ((s.gm.T _ ac).trans Y)
 have au:=s.E.cO Q fun r f=>f▸K
 rw [W] at an al ai
 exact ⟨rfl,Tj (u:=fun r=>cY d r∨r=t∨r=t+1) ah (fun r f=>f.elim (fun f=>(X.T r fun v=>v.elim (fun v=>K (v▸f)) fun v=>ac (v▸f)).symm.trans (s.mN r f)) fun f=>f.elim (fun f=>f▸aW) fun f=>f▸aF) ((X.up fun F=>.inr).ci ((s.gm.up fun F=>.inl).ci (Q.up fun F f=>.inr (.inl f)))) aH
  (fun r f=>f.elim (fun f=>f.elim (fun y=>let ⟨af,v,_⟩:=au.Jp;⟨af,y▸v⟩) fun ⟨P,aC⟩=>au.Ex P r aC) fun f=>f.elim (fun f=>⟨_,f▸ag⟩) fun f=>⟨_,f▸ak⟩) (.inr (.inr rfl)) (.inr (.inl rfl)) L ak ag aN.Q1 aP an al ai A.cC aG⟩
end
def p3(a:Wd):Prop:=(kc a)∧(a.yo=p0)∧(a.eG.NoLimit)∧(∀(b:Nat)(c:dz)(g:cW),a.T.p9[b]? =O c→c.cN=.cA g→Q2 a b c g)∧(∀b,(a.T.p9[b]?).isSome=ar→lR a.K (.ref (a.jT b))=ar)∧(∀b,(a.T.p9[b]?).isSome=ar→jJ b 1000=ar)∧(∀(d:Nat)(b:lb),a.T.e7[d]? =O b→∀h∈b.kH,lR a.K (.ref (a.jT h.2))=ar)∧(∀(d:Nat)(e:lb)(c:dz)(f:List (b4×cv)),a.T.e7[d]? =O e→a.T.p9[e.gx]? =O c→c.cN=.tu d f→Bx a e.gx c f∧e.dj.length≤1000)
section
variable{a:Wd}(b:p3 a)
include b
def p3.cF:kc a:=b.1
def p3.bi:a.yo=p0:=b.2.1
def p3.JD:a.eG.NoLimit:=b.2.2.1
def p3.p9:∀(d:Nat)(c:dz)(e:cW),a.T.p9[d]? =O c→c.cN=.cA e→Q2 a d c e:=b.2.2.2.1
def p3.cR:∀c,(a.T.p9[c]?).isSome=ar→lR a.K (.ref (a.jT c))=ar:=b.2.2.2.2.1
def p3.C8:∀c,(a.T.p9[c]?).isSome=ar→jJ c 1000=ar:=b.2.2.2.2.2.1
def p3.Nf:∀(d:Nat)(c:lb),a.T.e7[d]? =O c→∀e∈c.kH,lR a.K (.ref (a.jT e.2))=ar:=b.2.2.2.2.2.2.1
def p3.abr:∀(e:Nat)(c:lb)(d:dz)(f:List (b4×cv)),a.T.e7[e]? =O c→a.T.p9[c.gx]? =O d→d.cN=.tu e f→Bx a c.gx d f∧c.dj.length≤1000:=b.2.2.2.2.2.2.2
end
def QF{g:Wd}(c:p3 g):∀e,BW g e (vC g.T e):=by
 intro e
 induction e with
 |zero=>
  exact fun f u F z a=>a.elim
 |succ e r=>
  exact fun f u F z a K P L T p m q=>by
   have l:zL g e (vC g.T e):=⟨c.cF,c.bi,c.cR,c.C8,c.Nf,r⟩
   have a:pT (jJ f 1000) _ _:=a
   unfold o7
   cases k:jJ f 1000 with
   |true=>
    rw [k] at a
    refine bU fun b=>?_
    obtain ⟨h,j,a⟩:=fj a
    refine b ?_;try clear b
    cases d:h.cN with
    |tu C n=>rw [d] at a;exact a.elim
    |cA i=>
    rw [d] at a
    refine bU fun b=>?_
    obtain ⟨Q,v,a⟩:=fj a
    refine b ?_;try clear b
    exact Ti c.JD (c.p9 f h i j d) (acC l i) p m q v a
   |false=>
    rw [k] at a
    generalize f-1000=R at a⊢
    refine bU fun b=>?_
    obtain ⟨G,o,a⟩:=fj a
    obtain ⟨h,j,a⟩:=fj a
    refine b ?_;try clear b
    cases d:h.cN with
    |cA i=>rw [d] at a;exact a.elim
    |tu C n=>
    rw [d] at a
    refine bU fun b=>?_
    obtain ⟨A,y⟩:=qT a
    obtain ⟨s,w,I⟩:=of_decide_eq_true A
    subst s
    obtain ⟨t,x⟩:=c.abr _ G h n o j d
    refine b ?_;try clear b
    exact Tk c.cF c.JD o t (xo l) p m q w I x y
def dD{b:List Bool}(e:b.all id=ar)(d:Nat){a:Bool}(c:b[d]? =O a):a=ar:=lD.mp e a (gj c)
structure qj where
 fn:List cz
 sk:List cz
 kE:List cz
 d4:List cz
noncomputable def qj.jT(b:qj)(a:Nat):cz:=if a<900 then b.fn.getD a 0 else b.sk.getD (a-900) 0
noncomputable def qj.eS(b:qj)(a:Nat):cz:=b.kE.getD a 0
noncomputable def qj.kP(b:qj)(a:Nat):cz:=b.d4.getD a 0
def qp(d:r9)(c:t3)(K:gI)(e:eu)(f:Co)(b:rg)(a:qj):Wd:=⟨d,c,K,e,f,b,a.jT,a.eS,a.kP,p0⟩
noncomputable def acE:(b:cj)→Option {a:Int×kD // b=.int a.1 a.2}
 |.int d c=>O ⟨(d,c),rfl⟩
 |_=>b1
noncomputable def Q3:(b:cj)→Option {a:b4×kD // b=.str a.1 a.2}
 |.str d c=>O ⟨(d,c),rfl⟩
 |_=>b1
noncomputable def acF:(b:cj)→Option {a:cz // b=.ref a}
 |.ref a=>O ⟨a,rfl⟩
 |_=>b1
noncomputable def WK:(c:Data)→Option {a:Array cj×Nat // c=.seq a.1 a.2}
 |.seq b d=>O ⟨(b,d),rfl⟩
 |_=>b1
noncomputable def Wb:(c:Data)→Option {a:Array nJ×Nat // c=.dict a.1 a.2}
 |.dict b d=>O ⟨(b,d),rfl⟩
 |_=>b1
noncomputable def abs:(b:Data)→Option {a:nL // b=.func a}
 |.func a=>O ⟨a,rfl⟩
 |_=>b1
noncomputable def YY:(b:FuncBody)→Option {a:List dn // b=.stmts a}
 |.stmts a=>O ⟨a,rfl⟩
 |_=>b1
noncomputable def Ni(a:eb)(b:String):Bool:=a.cls== .type b&&a.dict.isNone&&a.slots.toList.isEmpty
def JE{a:eb}{b:String}(i:Ni a b=ar):a={cls:=.type b,data:=a.data}:=g7 i fun e f h=>by
 refine bU fun c=>?_
 obtain ⟨d,j,k,⟨g⟩⟩:=a
 obtain rfl:d=.type b:=dr e
 obtain rfl:j=b1:=B4.mp f
 obtain rfl:g=[] :=l0.mp h
 refine c ?_;try clear c
 rfl
def Q4(K:gI)(b:cj)(c:cz→eb→Bool):Bool:=(acF b).any fun a=>(K.lookup a.1).any (c a.1)
def WM(K:gI)(e:String)(b:cj)(d:List cj→Bool):Bool:=Q4 K b fun f a=>Ni a e&&(WK a.data).any fun c=>d c.1.1.toList
mutual
noncomputable def LB(K:gI)(L:qj):bl→cj→Bool
 |.bX,v=>v== .none
 |.b3 b,v=>v== .bool b
 |.Z i,v=>(acE v).any fun p=>p.1.1==i
 |.ad x,v=>(Q3 v).any fun p=>p.1.1==x
 |.cQ xs,v=>WM K "tuple" v (zI K L xs)
 |.a3 xs,v=>WM K "list" v (zI K L xs)
 |.gJ _ _,_=>b2
 |.fn k,v=>v== .ref (L.jT k)
 |.kE c,v=>v== .ref (L.eS c)
 |.bi k,v=>v==p0 k
 |.ob d,v=>v== .ref (L.kP d)
noncomputable def zI(K:gI)(L:qj):List bl→List cj→Bool
 |[],vs=>vs.isEmpty
 |x::xs,vs=>fO vs fun v vs=>LB K L x v&&zI K L xs vs
end
section
variable{h:r9}{g:t3}{K:gI}{d:eu}{j:Co}{f:rg}{c:qj}
def Oc{e:cj}{l:cz→eb→Bool}{i:cj→Prop}(k:Q4 K e l=ar)(p:∀a b,K.lookup a=O b→l a b=ar→i (.ref a)):i e:=
 d2 (d:=i e) k fun a o k=>by obtain ⟨b,m,n⟩:=jC k;exact o▸p a b m n
def Od(p:K.In d){m:String}{i:cj}{k:List cj→Bool}(e:WM K m i k=ar):∃a b l,i=.ref a∧d.get? a=O (dl m b l)∧k b=ar:=
 Oc (i:=fun i=>∃a b l,i=.ref a∧d.get? a=O (dl m b l)∧k b=ar) e fun a o q e=>f4 e fun s t=>d2 t fun n r e=>by
  refine ⟨a,n.1.toList,n.2,rfl,(p a o q).trans (congrArg O ((JE s).trans ?_)),e⟩
  refine bT r ?_;rfl
mutual
theorem wM(X:K.In d):∀(x:bl){v:cj},LB K c x v=ar→g5 (qp h g K d j f c) d.get? x v
 |.bX,_,e=>dr e
 |.b3 b,_,e=>dr e
 |.Z i,_,e=>d2 (d:=g5 (qp h g K d j f c) d.get? (.Z i) _) e fun p q e=>⟨p.2,dr e▸q⟩
 |.ad i,_,e=>d2 (d:=g5 (qp h g K d j f c) d.get? (.ad i) _) e fun p q e=>⟨p.2,dr e▸q⟩
 |.cQ xs,_,e=>by obtain ⟨a,vs,n,e1,e2,e3⟩:=Od X e;exact ⟨a,vs,n,e1,e2,tO X xs e3⟩
 |.a3 xs,_,e=>by obtain ⟨a,vs,n,e1,e2,e3⟩:=Od X e;exact ⟨a,vs,n,e1,e2,tO X xs e3⟩
 |.gJ _ _,_,e=>dy e
 |.fn _,_,e=>dr e
 |.kE _,_,e=>dr e
 |.bi _,_,e=>dr e
 |.ob _,_,e=>dr e
theorem tO(X:K.In d):∀(xs:List bl){vs:List cj},zI K c xs vs=ar→dB (qp h g K d j f c) d.get? xs vs
 |[],_,e=>l0.mp e
 |x::xs,_,e=>d3 (e:=fun vs=>dB (qp h g K d j f c) d.get? (x::xs) vs) e fun v vs e=>f4 e fun e1 e2=>⟨v,vs,rfl,wM X x e1,tO X xs e2⟩
end
def YZ(a:nJ):Bool:=(Q3 a.key).isSome
def Zv(K:gI)(e:cz):Option (Array nJ):=(K.lookup e).bind fun b=>(Wb b.data).bind fun a=>if a.1.1.toList.all YZ then O a.1.1 else b1
def Oe(o:K.In d){k:cz}{e:Array nJ}(a:Zv K k=O e):d.Ns k (fun t=>tX e t):=by
 refine bU fun i=>?_
 obtain ⟨n,p,a⟩:=cH a
 obtain ⟨⟨b,q⟩,_,a⟩:=cH a
 obtain ⟨m,a⟩:=eB a
 obtain rfl:=dg a
 refine i ?_;try clear i
 refine ⟨n,b.1,b.2,o _ _ p,q,fun r l=>?_,fun u=>rfl⟩
 obtain ⟨s,_⟩:=k8 (lD.mp m r (UZ.mpr l))
 exact ⟨_,_,s.2⟩
def Wc(K:gI)(c:qj)(b:Array nJ)(a:b4×bl):Bool:=(tX b a.1).elim ((Mt a.1).any fun e=>LB K c a.2 e&& !(a.1==("__name__":b4))) (LB K c a.2)
noncomputable def abt(b:Array nJ)(a:String):Bool:=tX b (oA a)==b1&&Mt (oA a)==O (.type a)&& !(oA a==("__name__":b4))
def We(K:gI)(c:qj)(b:Nat)(e:lb)(a:b4×Nat):Bool:=[jj K (.ref (c.eS b)) a.1==O (O (.ref (c.jT a.2))),!e.dj.contains a.1,zp K (.ref (c.jT a.2))==O (.type "function"),dY (a.2<1000),lR K (.ref (c.jT a.2))].all id
def Zw(K:gI)(c:qj)(a:Nat)(b:lb):Bool:=
 [jj K (.ref (c.eS a)) "__getattribute__"==O (O (.builtin "object.__getattribute__")),jj K (.ref (c.eS a)) "__getattr__"==O b1,GV K (c.eS a),b.dj.all fun e=>jj K (.ref (c.eS a)) e==O b1,
 jj K (.ref (c.eS a)) "__setattr__"==O (O (.builtin "object.__setattr__")),GW K (c.eS a),makesIn K (c.eS a),jj K (.ref (c.eS a)) "__init__"==O (O (.ref (c.jT b.gx))),zp K (.ref (c.jT b.gx))==O (.type "function"),
 b.kH.all (We K c a b),lR K (.ref (c.eS a)),dY b.dj.Nodup,dY (b.dj.length≤1000)].all id
def Tl{l:Nat}{i:lb}(a:Zw K c l i=ar):kn (qp h g K d j f c) l i:=by
 have k:∀b∈i.kH,We K c l i b=ar:=fun b e=>lD.mp (dD a 9 rfl) b e
 exact ⟨dr (dD a 0 rfl),dr (dD a 1 rfl),dD a 2 rfl,fun m o=>dr (lD.mp (dD a 3 rfl) m o),dr (dD a 4 rfl),dD a 5 rfl,dD a 6 rfl,dr (dD a 7 rfl),dr (dD a 8 rfl),
  fun b e=>⟨dr (dD (k b e) 0 rfl),fun n=>kx ((eC (dD (k b e) 1 rfl)).symm.trans (rb.mpr n)),dr (dD (k b e) 2 rfl)⟩,fun b e=>of_decide_eq_true (dD (k b e) 3 rfl),dD a 10 rfl,of_decide_eq_true (dD a 11 rfl)⟩
end
def HC(K:gI)(c:cz):Option (Array nJ):=(K.lookup c).bind fun a=>if Ni a "dict"=ar then (Wb a.data).map fun b=>b.1.1 else b1
noncomputable def Q5(K:gI)(d:qj):List nJ→List (b4×bl)→Bool
 |[],a=>a.isEmpty
 |c::f,a=>fO a fun b a=>(Q3 c.key).any (fun e=>e.1.1==b.1)&&LB K d b.2 c.val&&Q5 K d f a
def Wf(a:cj):b4:=(Q3 a).elim ⟨#[]⟩ fun b=>b.1.1
def HashOk(b:t0)(a:List nJ):Prop:=a.map (·.hash)=a.map fun c=>U9 b (Wf c.key)
def Y0(K:gI)(a:qj)(b:Nat)(d:List (b4×bl)):Bool:=(HC K (a.kP b)).any fun c=>Q5 K a c.toList d&& !(a.kP b==qG)
def entsOf(K:gI)(a:cz):List nJ:=(HC K a).elim [] MI
section
variable{e:r9}{d:t3}{K:gI}{a:eu}{f:Co}{c:rg}{b:qj}
def QG{l:cz}{i:Array nJ}(g:HC K l=O i):∃p,K.lookup l=O ⟨.type "dict",b1,.dict i p,#[]⟩:=by
 refine bU fun k=>?_
 obtain ⟨n,o,g⟩:=cH g
 obtain ⟨m,g⟩:=eB g
 obtain ⟨⟨j,h⟩,_,g⟩:=dC g
 refine k ?_;try clear k
 have h:n.data=.dict i j.2:=g▸h
 exact ⟨j.2,o.trans (congrArg O ((JE m).trans (by (refine bT h ?_;rfl))))⟩
def IB{h:t0}:∀{g:List nJ}{i:List (b4×bl)},Q5 K b g i=ar→HashOk h g→KeysLit h g:=by
 intro g
 induction g with
 |nil=>
  intro _ _ _
  exact trivial
 |cons k g n=>
  intro i a q
  obtain ⟨p,r⟩:=GY q
  refine d3 (e:=fun j=>KeysLit h (k::g)) a fun t i a=>g7 a fun s j o=>d2 s fun l m j=>⟨⟨l.1,l.2,m,p.trans ?_⟩,n o r⟩
  show U9 h (Wf k.key)=_
  refine bT m ?_;rfl
def QH(r:K.In a)(h:b4):∀{j:List nJ}{i:List (b4×bl)},Q5 K b j i=ar→
  (i.lookup h=b1→(j.find? fun g=>zr h g.key).map (·.val)=b1)∧∀l,i.lookup h=O l→∃m,(j.find? fun g=>zr h g.key).map (·.val)=O m∧g5 (qp e d K a f c b) a.get? l m:=by
 intro j
 induction j with
 |nil=>
  intro i g
  refine bT (l0.mp g) ?_
  exact ⟨fun x=>rfl,fun l k=>e0 k⟩
 |cons g j q=>
  intro i n
  exact d3 (e:=fun i=>(i.lookup h=b1→((g::j).find? fun g=>zr h g.key).map (·.val)=b1)∧∀l,i.lookup h=O l→∃m,((g::j).find? fun g=>zr h g.key).map (·.val)=O m∧g5 (qp e d K a f c b) a.get? l m) n fun p i n=>g7 n fun o v w=>d2 o fun y k o=>by
   obtain ⟨s,t⟩:=q w
   have u:zr h g.key=(h==p.1):=by (refine bT k ?_;refine gT (dr o) ?_);exact ML
   (refine bT Ci ?_;rewrite [tT];refine bT u ?_)
   cases h==p.1 with
   |true=>exact ⟨fun k=>e0 k.symm,fun l k=>⟨g.val,rfl,dg k▸wM r _ v⟩⟩
   |false=>exact ⟨s,t⟩
end
def Zx(K:gI)(e:cz)(c:nL→List dn→Bool):Bool:=(K.lookup e).any fun b=>(abs b.data).any fun a=>(YY a.1.body).any fun d=>[!a.1.scope.isCoroutine,!a.1.scope.isGenerator,a.1.scope.kind== .function,a.1.closure.isEmpty,dY (a.1.globals=pJ),dY (a.1.builtins=qH),codeIn K a.1.code a.1.qualname,c a.1 d.1].all id
def Nj(K:gI)(e:qj)(b:cj)(a:List bl):Bool:=cond (b== .none) a.isEmpty (Q4 K b fun f c=>(WK c.data).any fun d=>a.isEmpty||zI K e a d.1.1.toList)
noncomputable def JF(a:MA)(b:List b4):Bool:=[a.posonlyargs.isEmpty,a.vararg.isNone,a.kwonlyargs.isEmpty,a.kwarg.isNone,dY (a.args.map (·.arg)=b),dY b.Nodup].all id
noncomputable def wN(b:Sc)(a:b4):Bool:=b.lookup a==O .local||(b.lookup a==O .cell&& !(a==("__classdict__":b4)))
def sC(c:Sc)(b:List b4):fF:=(b.zipIdx.filter fun a=>b.idxOf a.1==a.2&&wN c a.1).map fun a=>(a.2,a.1)
def Of(b:Sc)(a:List b4)(c:Nat):Bool:=[dY (a.take c).Nodup,dY (c≤a.length),(a.take c).all (wN b),dY ((sC b a).map (·.1)).Nodup,dY ((sC b a).map (·.2)).Nodup].all id
noncomputable def Y1(a:dz):Bool:=a.c3.isEmpty||decide (a.b9=2∧a.c3.length=1∧a.cn.take 2=[("code":b4),("outer":b4)])
def WN(K:gI)(d:qj)(a:dz)(c:Nat)(b:nL)(e:Bool):Bool:=[Nj K d b.defaults a.c3,Y1 a,JF b.params (a.cn.take c),Of b.scope.names a.cn c,e].all id
def abu(K:gI)(d:rg)(e:qj)(a:dz):Vf→nL→List dn→Bool
 |.cA g,b,c=>WN K e a a.b9 b (xn d b.scope.names (sC b.scope.names a.cn) g c)
 |.tu _ f,b,c=>WN K e a (a.b9+1) b (dY (a.cn.length=a.b9+1)&&Dh d b.scope.names (sC b.scope.names a.cn) f c)
def fnK(K:gI)(d:rg)(a:qj)(c:Nat)(b:dz):Bool:=lR K (.ref (a.jT c))&&Zx K (a.jT c) (abu K d a b b.cN)
noncomputable def zJ{a:Type}(b:Nat→a→Bool):Nat→List a→Bool
 |_,[] =>ar
 |c,e::d=>b c e&&zJ b (c+1) d
noncomputable def acG(K:gI)(a:cz):Bool:=(K.lookup a).isSome&&dY (qG<a)
def WO(K:gI)(a:rg)(b:qj):Bool:=[(Zv K pJ).any fun c=>a.pS.all (Wc K b c)&& ["range","enumerate","zip"].all (abt c),zJ (Zw K b) 0 a.e7,zJ (Y0 K b) 0 a.ll,zJ (fnK K a b) 0 a.p9,acG K (b.jT 0),dY (a.p9.length≤1000)].all id
section
variable{e:r9}{d:t3}{K:gI}{a:eu}{f:Co}{b:rg}{c:qj}
def yy{h:Sc}{g:b4}(a:wN h g=ar):h.lookup g=O .local∨(h.lookup g=O .cell∧(g==("__classdict__":b4))=b2):=
 (nR.mp a).imp dr fun a=>f4 a fun j i=>⟨dr j,eC i⟩
def LC{h:Sc}{i:List b4}{l:Nat}(a:Of h i l=ar):hG h i l (sC h i):=by
 have m:∀g∈sC h i,i[g.1]? =O g.2∧wN h g.2=ar:=fun g j=>by
  obtain ⟨q,k,rfl⟩:=hJ.mp j
  obtain ⟨k,o⟩:=l3.mp k
  exact ⟨List.mem_zipIdx_iff_getElem?.mp k,(gu o).2⟩
 exact ⟨of_decide_eq_true (dD a 3 rfl),of_decide_eq_true (dD a 4 rfl),fun g j=>(m g j).1,fun g j=>yy (m g j).2,fun p n=>(yy (lD.mp (dD a 2 rfl) p n)).imp id (·.1),of_decide_eq_true (dD a 0 rfl),of_decide_eq_true (dD a 1 rfl)⟩
def IC{h:MA}{g:List b4}(a:JF h g=ar):iw h g:=
 ⟨l0.mp (dD a 0 rfl),B4.mp (dD a 1 rfl),l0.mp (dD a 2 rfl),B4.mp (dD a 3 rfl),of_decide_eq_true (dD a 4 rfl),of_decide_eq_true (dD a 5 rfl)⟩
def QI(o:K.In a){n:nL}{h:List bl}(g:Nj K c n.defaults h=ar):xq (qp e d K a f b c) n h:=by
 unfold Nj at g
 unfold xq
 generalize n.defaults=j at g⊢
 cases k:j== .none with
 |true=>
  rw [k] at g
  exact .inl ⟨dr k,l0.mp g⟩
 |false=>
  rw [k] at g
  have g:Q4 K j (fun u i=>(WK i.data).any fun l=>h.isEmpty||zI K c h l.1.1.toList)=ar:=g
  refine Oc (i:=fun j=>(j=.none∧h=[])∨∃(m:cz)(i:eb)(p:Array cj)(s:Nat),j=.ref m∧a.get? m=O i∧i.data=.seq p s∧(h≠ [] →dB (qp e d K a f b c) a.get? h p.toList)) g fun m i q g=>d2 g fun l k g=>.inr ⟨m,i,l.1,l.2,rfl,o _ _ q,k,fun r=>?_⟩
  exact tO o _ ((nR.mp g).resolve_left fun t=>r (l0.mp t))
def Wg(l:K.In a){o:Nat}{k:dz}{r:nL→List dn→Bool}{p:Prop}{n:Nat}{q:nL→List dn→Bool}(y:∀h i,r h i=ar→WN K c k n h (q h i)=ar)(g:Zx K (c.jT o) r=ar)
  (s:∀m h i,nr (qp e d K a f b c) o k m h i→iw h.params (k.cn.take n)→hG h.scope.names k.cn n (sC h.scope.names k.cn)→q h i=ar→p):p:=by
 obtain ⟨m,w,g⟩:=jC g
 refine d2 g fun h v g=>d2 g fun i t g=>?_
 have j:=y _ _ (dD g 7 rfl)
 refine s m h i ⟨l _ _ w,v,eC (dD g 0 rfl),eC (dD g 1 rfl),dr (dD g 2 rfl),t,l0.mp (dD g 3 rfl),of_decide_eq_true (dD g 4 rfl),of_decide_eq_true (dD g 5 rfl),codeRec_of l (dD g 6 rfl),QI l (dD j 0 rfl),fun u=>?_⟩ (IC (dD j 2 rfl)) (LC (dD j 3 rfl)) (dD j 4 rfl)
 exact of_decide_eq_true ((nR.mp (dD j 1 rfl)).resolve_left fun x=>u (l0.mp x))
def abv(o:K.In a){l:Nat}{g:dz}{h:cW}(p:g.cN=.cA h)(k:fnK K b c l g=ar):Q2 (qp e d K a f b c) l g h:=
 Wg o (n:=g.b9) (q:=fun i j=>xn b i.scope.names (sC i.scope.names g.cn) h j) (fun i j k=>by rw [p] at k;exact k) (gu k).2 fun n i j r h m q=>⟨n,i,j,_,r,h,m,q⟩
def abw(p:K.In a){m l:Nat}{g:dz}{k:List (b4×cv)}(q:g.cN=.tu l k)(j:fnK K b c m g=ar):Bx (qp e d K a f b c) m g k:=
 Wg p (n:=g.b9+1) (q:=fun h i=>dY (g.cn.length=g.b9+1)&&Dh b h.scope.names (sC h.scope.names g.cn) k i) (fun h i j=>by rw [q] at j;exact j) (gu j).2 fun n h i u r l s=>f4 s fun o t=>⟨n,h,i,_,u,r,l,of_decide_eq_true o,t⟩
def LD{k:Type}{m:Nat→k→Bool}:∀{i:List k}{h g:Nat}{j:k},zJ m h i=ar→i[g]? =O j→m (h+g) j=ar:=by
 intro i
 induction i with
 |nil=>
  intro _ g
  rcases g with _|_
  ·intro _ _ a
   exact e0 a
  ·intro _ _ a
   exact e0 a
 |cons p o n=>
  intro h g
  rcases g with _|g
  ·intro j l a
   exact dg a▸(gu l).1
  ·intro j l a
   exact y4 h g▸n (gu l).2 a
def r4{g:Type}{i:Nat→g→Bool}{j:List g}{h:Nat}{k:g}(l:zJ i 0 j=ar)(a:j[h]? =O k):i h k=ar:=kU h▸LD l a
def Og{g:cj→Prop}[DecidablePred g](a:∀i∈A8,g i)(j:g (.type "tuple"))(h:Nat):g (p0 h):=EB a j h
def Nk(h:t0)(K:gI)(c:qj)(b:rg):Prop:=∀i<b.ll.length,∀g,HC K (c.kP i)=O g→HashOk h g.toList
def Tn(i:K.In a)(m:WO K b c=ar)(T:Nk d.params K c b){r:b4→Option cj}(C:a.Ns qH r)(P:∀o:b4,o≠"__name__"→r o=Mt o)(ah:a.NoLimit):p3 (qp e d K a f b c):=by
 refine bU fun h=>?_
 obtain ⟨W,au,F⟩:=jC (dD m 0 rfl)
 refine h ?_;try clear h
 have t:=dD m 1 rfl
 have ab:=dD m 2 rfl
 have u:=dD m 3 rfl
 have v:=Oe i au
 have Y:∀g,(b.p9[g]?).isSome=ar→jJ g 1000=ar:=fun g k=>by
  obtain ⟨x,l⟩:=k8 k
  exact LZ.mpr (hH (fJ.mp l).1 (of_decide_eq_true (dD m 5 rfl)))
 refine ⟨⟨i,?_,fun g=>Og (g:=fun q=>q≠ .none) (by decide) (by decide) g,fun av w q j=>?_,fun w al=>?_,fun g=>Og (g:=fun q=>Cs q=ar) (lD.mp (show A8.all Cs=ar from rfl)) rfl g,fun I g k=>Tl (r4 t k),fun am az G=>?_⟩,rfl,ah,
  fun g x ay l z=>abv i z (r4 u l),fun g k=>by obtain ⟨x,l⟩:=k8 k;exact (gu (r4 u l)).1,Y,fun I g k ak af=>dD (lD.mp (dD (r4 t k) 9 rfl) ak af) 4 rfl,
  fun I aA x aw ae l z=>⟨abw i z (r4 u l),of_decide_eq_true (dD (r4 t ae) 12 rfl)⟩⟩
 ·refine bU fun h=>?_
  obtain ⟨p,n⟩:=gu (dD m 4 rfl)
  obtain ⟨ai,ao⟩:=k8 p
  refine h ?_;try clear h
  exact ⟨_,ai,i _ _ ao,of_decide_eq_true n⟩
 ·have j:=lD.mp (gu F).1 _ (gj j)
  unfold Wc at j
  cases s:tX W w with
  |some A=>
   rw [s] at j
   exact ⟨_,A,v,wM i _ j,.inl s⟩
  |none=>
   rw [s] at j
   refine bU fun h=>?_
   obtain ⟨A,ac,j⟩:=jC j
   refine h ?_;try clear h
   refine f4 j fun p n=>⟨_,A,v,wM i _ p,.inr ⟨s,r,C,(P _ fun y=>?_).trans ac⟩⟩
   rw [y] at n
   exact dy n
 ·have an:=lD.mp (gu F).2 w al
  refine g7 an fun p n L=>⟨_,r,v,dr p,C,(P _ fun y=>?_).trans (dr n)⟩
  rw [y] at L
  exact dy L
 ·refine bU fun h=>?_
  obtain ⟨aa,R,ag⟩:=jC (r4 ab G)
  obtain ⟨Q,X⟩:=gu ag
  obtain ⟨aB,aq⟩:=QG R
  refine h ?_;try clear h
  refine ⟨_,mapOf_K i aq (IB Q (T am (fJ.mp G).1 aa R)),eC X,fun o=>?_⟩
  have:=QH (e:=e) (d:=d) (a:=a) (f:=f) (c:=b) i o Q
  rw [U0] at this
  exact this
end
def To{g:eu}{f:cz}{d b:b4→Option cj}(i:g.Ns f d)(n:g.Ns f b):d=b:=by
 refine bU fun e=>?_
 obtain ⟨p,o,s,l,j,_,m⟩:=i
 obtain ⟨r,q,t,a,c,_,k⟩:=n
 refine e ?_;try clear e
 rw [l] at a;obtain rfl:=dg a
 rw [j] at c;cases c
 exact funext fun h=>(m h).symm.trans (k h)
noncomputable def acH(a:t8):Option Int:=match a with
 |.int b=>O b
 |_=>b1
noncomputable def abx(a:t8):Option (List t8):=match a with
 |.list b=>O b
 |_=>b1
def Tp{e:t0}{f:eu}{a:cj}{d:t8}{c:Int}(h:Well e f a d)(b:acH d=O c):∃g,a=.int c g:=by
 cases h<;>first|exact cG b|(obtain rfl:=dg b;exact ⟨_,rfl⟩)
def QJ{b:t0}{a:eu}{c:cj}{g:t8}{f:List t8}(k:Well b a c g)(e:abx g=O f):∃h d,c=.ref h∧a.get? h=O {cls:=.type "list",data:=.seq (d:List cj).toArray}∧WellAll b a d f:=by
 cases k with
 |list i j=>obtain rfl:=dg e;exact ⟨_,_,rfl,i,j⟩
 |_=>exact cG e
def LF{h:Wd}{o:di}{e:t0}{l:eu}{b:List Int}:∀{a:List cj},WellAll e l a (b.map .int)→dB h o (b.map .Z) a:=by
 induction b with
 |nil=>intro a c;cases c;rfl
 |cons q b g=>
  intro a c
  refine bU fun d=>?_
  obtain ⟨f,j,i,n,k⟩:=wellAll_cons_inv c
  obtain ⟨m,p⟩:=Tp n rfl
  refine d ?_;try clear d
  exact ⟨f,j,i,⟨m,p⟩,g k⟩
def QK{b:Nat}{a:List t8}{d:WRecords}(c:(WTm.not (.lt (.lit (.int b)) (.len (.arg 0)))).holds d {args:=[.list a]}=ar):a.length≤b:=by
 have f:WTm.value d (WTm.not (.lt (.lit (.int b)) (.len (.arg 0)))) {args:=[.list a]}=O (.bool (!dY ((b:Int)<(a.length:Int)))):=by rfl
 unfold WTm.holds at c
 rw [f] at c
 cases e:dY ((b:Int)<(a.length:Int)) with
 |false=>exact jI.mp fun g=>of_decide_eq_false e (kY.mpr g)
 |true=>rw [e] at c;exact dy c
def QL{a:OpenLaw}(b:List t8):a.row.toRowW.claim.post b (.bool ar) b=ar:=
 postW_of (r:=a.row.toRowW) (d:=.bool ar) (X:=ar) rfl (show WTm.value _ (.eq .res (.lit (.bool ar))) _=_ by wtm_val) (by simp [PySem.W.same])
set_option tactic.hygienic true in
def QM{l:OpenLaw}{q:Program}{loose:List Str}{XP:(Str→Option Value)→Heap→Prop}{K:Params→Frag}{as:List Addr}{he:∀P,as=(K P).map (·.1)}{d:DefRec}{kwd:List (Str×PySem.Expr)}{T:rg}{L:qj}{k AS:Nat}
  (hk:Nat.blt k 1000=true) (acL:AS≤100) (aby:l.most=some 63) (top:∀P,WO (K P) T L=true) (hash:∀P,Nk P (K P) L T) (main:∀P,(Zv (K P) mainGlobals).bind (fun es=>nsFind es d.name)=some (.ref (L.jT k)))
  (law:∀is:List Int,is.length≤63→vC T AS k [.f (.a3 (is.map .Z))] [] fun v q9=>v=.f (.b3 true)):
  WalkO q loose XP (kHook K as he).says l.row.toRowW d kwd fun f vs=>PySem.call f vs:=by
 intro w s₀ s₁ mg mb G Y fa o pm cd doc dV kV ho hd hcd hD hmg hg args vals as' acI acM hrd hwl hlo
 have KX:(K w.params).In s₁.heap:=kIn_of Y
 refine bU fun kz=>?_
 obtain ⟨hsh,abz⟩:=pre_splitW acI
 obtain ⟨x,r,rfl,hx,hr⟩:=hasAllW_cons hsh
 obtain rfl:r=[] :=by cases r with
  |nil=>rfl
  |cons a b=>simp [WShape.hasAll] at hr
 obtain ⟨xs,rfl,hit⟩:=hasW_list hx
 obtain ⟨ns,rfl⟩:=items_int hit
 have hlen:ns.length≤63:=by
  have h0:l.pre.holds [] {args:=[.list (ns.map .int)]}=true:=abz
  unfold OpenLaw.pre at h0
  rw [aby] at h0
  have:=QK (b:=63) (holds_andW h0).1
  rw [List.length_map] at this
  exact this
 have hT:=Tn (e:=l.row.toRowW.prog) (d:=w) (f:=s₁.os) (b:=T) (c:=L) KX (top _) (hash _) G.T.b G.T.builtins G.T.nolimit
 obtain ⟨es,h1,h2⟩:=cH (main w.params)
 have:mg d.name=nsFind es d.name:=congrFun (To G.T.g (Oe KX h1)) d.name
 rw [hmg,h2] at this
 obtain rfl:fa=L.jT k:=by cases this;rfl
 refine kz ?_;try clear kz
 refine bU fun kz=>?_
 obtain ⟨v,us,rfl,hw1,hw2⟩:=wellAll_cons_inv hwl
 obtain rfl:us=[] :=by cases hw2;rfl
 obtain ⟨a,vs,rfl,g,hwi⟩:=QJ hw1 rfl
 refine kz ?_;try clear kz
 have S:c7 (qp l.row.toRowW.prog w (K w.params) s₁.heap s₁.os T L) ⟨s₁.heap.get?,fun q9=>none,[]⟩ [] s₁:={
  cC:=rfl
  pZ:=.nil
  uv:=fun a h=>absurd h List.not_mem_nil
  kQ:=k4.cy _
  ey:=fun a o e=>e
  hN:=fun a o e=>cG e
  hF:=fun a o e=>rfl
  jx:=fun a h=>absurd h List.not_mem_nil
  nB:=fun i a mo h=>cG h
  qg:=hg
  A1:=rfl}
 have hA:xi callerA AS:=⟨rfl,by show 1+claimMargin+4*AS<recursionLimit;simp [claimMargin,recursionLimit];lia,by show 4+20*AS+20<cLine;simp [cLine];lia⟩
 have:=QF hT AS k _ _ _ (law ns hlen) _ s₁ [.ref a] callerA hA S ⟨.ref a,[],rfl,⟨a,vs,_,rfl,g,LF hwi⟩,rfl⟩
 unfold o7 at this
 rw [hk] at this
 refine this.mQ fun u s' hz=>?_
 obtain ⟨m,AO,g',l',ru,S',e⟩:=hz
 refine GoodW.toG ⟨.inl ⟨u,.bool true,[],rfl,fun cls=>rfl,?_,QL _,fun q9=>⟨.nil,fun a h=>absurd h List.not_mem_nil⟩⟩,fun b o e=>S'.ey b o (l'.F _ _ e),S'.A1,S'.qg⟩
 subst e
 obtain rfl:u=.bool true:=ru
 exact .bool true
def QN{b:t0}{K:gI}{d:qj}{c:rg}(g:∀a<c.ll.length,HashOk b (entsOf K (d.kP a))):Nk b K d c:=fun a e h f=>by
 have:=g a e
 unfold entsOf at this
 rw [f] at this
 exact this
noncomputable def Zy:qj:=⟨[77,84,105,112,133,147,303,313,334,341,355,369,374,381,388,395,400,407,421,431,438,445,450,457,464,471,476,483,490,497,504,511,518,525,539,546,551,558,563,578,585,592,599,606,613,620,627,634,641,648,655,660,665,670,675,680,687,694,701,706,713,718,725,732,737],[52,39,21,224,231,161,320,327,182,168,196,238,203,189,175,217,210],[87,115,150,410],[239,304]⟩
def law_here{d:OpenLaw}{p:r9}{n:List b4}{f:(b4→Option cj)→eu→Prop}{K:t0→gI}{e:List cz}{l:∀a,e=(K a).map (·.1)}{b:DefRec}{q:List (b4×ce)}
  (r:d.most=O 63) (i:∀a,WO (K a) cr Zy=ar) (m:∀a,HashOk a (entsOf (K a) 239)) (k:∀a,HashOk a (entsOf (K a) 304)) (g:∀a,(Zv (K a) pJ).bind (fun h=>tX h b.name)=O (.ref (Zy.jT MR))):
  WalkO p n f (kHook K e l).says d.row.toRowW b q fun o j=>gg o j:=
 QM (T:=cr) (L:=Zy) (k:=MR) (AS:=40) rfl (by decide) r i (fun a=>QN fun b c=>by
  have c:b<2:=c
  exact oB (b:=fun b=>HashOk a (entsOf (K a) (Zy.kP b))) (m a) (oB (k a) Wh) b c) g SN
end
end Mine
end
namespace Mine.all
def tw17053130121481772103:=True
def tw10168888151487559394:=True
def tw6147308635103535561:=True
def tw10793401674749092046:=True
def tw16949009020806574942:=True
def tw12926644002878227130:=True
def tw3347175955162335329:=True
def tw16223638597430114740:=True
def tw4631590275013254457:=True
def tw13455461431897201640:=True
def tw16400751074865733910:=True
def tw10156424416328317940:=True
def tw15158558636265767147:=True
def tw13900070722340429276:=True
def tw8616835277999145119:=True
def tw11433317345382964763:=True
def tw17800948086707717751:=True
def tw5247617807198155932:=True
def tw397829171339713761:=True
def tw4818641064637329869:=True
def tw6742200501135914891:=True
def tw16644902639655322133:=True
def tw14057782590025463129:=True
def tw18441473437031201941:=True
def tw17393663094203119047:=True
def tw10407399669362838719:=True
def tw3357559941945735724:=True
def tw11223482586740685078:=True
def tw16424727738075169484:=True
def tw6686757251022233349:=True
def tw9385597778382524922:=True
def tw13505173894226300209:=True
def tw16382669320497122081:=True
def tw14549113301119539810:=True
def tw5002070824922625533:=True
def tw9807931448117422837:=True
def tw12512054102949984058:=True
def tw6360596673044215761:=True
def tw10971250334911043752:=True
def tw4244794441018138637:=True
def tw9600454056292803967:=True
def tw1750280776747563624:=True
def tw13282074430368766303:=True
def tw17360653242477243975:=True
def tw13492775673106092688:=True
def tw12248520049373816357:=True
def tw7546461858588002845:=True
def tw14229981574245695772:=True
def tw5044639097624668846:=True
def tw13233751423148406618:=True
def tw2995925781233325151:=True
def tw2362829445674453831:=True
def tw17523770736405063376:=True
def tw7317653850160689691:=True
def tw6946980451890315270:=True
def tw15612066896164977022:=True
def tw16183010546200382306:=True
def tw16526751206710464603:=True
def tw8486705261324164726:=True
def tw15618092478124507917:=True
def tw9301309066579124778:=True
def tw409914518651768084:=True
def tw8968355716326206664:=True
def tw13280447903547772812:=True
def tw1081408078033650336:=True
def tw15242674970999812785:=True
def tw2863937026978368667:=True
def tw3630066180865283129:=True
def tw18422150028754028023:=True
def tw11051373392699811023:=True
def tw3282140407130366615:=True
def tw5718967094426423161:=True
def tw15248031165874397040:=True
def tw17069222317715477625:=True
def tw6896591704953265671:=True
def tw10923070005692675132:=True
def tw4613487602407358717:=True
def tw4214497047443048748:=True
def tw4215066571649420964:=True
def tw2494268533263957097:=True
def tw13320810954380615167:=True
def tw6000898611042668290:=True
def tw16296590348105434372:=True
def tw11158953913317867288:=True
def tw9186790425516483314:=True
def tw16665526110328478529:=True
def tw17424916104665291489:=True
def tw4831860214510110302:=True
def tw16700318575013349798:=True
def tw14242173848286271349:=True
def tw6495733333828780514:=True
def tw5004987881651496831:=True
def tw3905375630023619888:=True
def tw3339628229899013760:=True
def tw10677670038743541358:=True
def tw17846619120630023766:=True
def tw10371379177274702309:=True
def tw3586251380002802234:=True
def tw9379264858417805688:=True
def tw13717024376598296668:=True
def tw888978351763286717:=True
def tw18058516629519361111:=True
def tw2997595627926355555:=True
def tw11925040711228000680:=True
def tw12381699962588209086:=True
def tw8076105961534405009:=True
def tw15849158762323818722:=True
def tw10912467617979834864:=True
def tw29985565223642888:=True
def tw5191467471856622273:=True
def tw9960083256741680508:=True
def tw4463848349969469772:=True
def tw11102767992079720913:=True
def tw10649901628825759099:=True
def tw14832718209330476552:=True
def tw1768962640154500726:=True
def tw14771985120617686802:=True
def tw14615947125993099273:=True
def tw16740921855470316824:=True
def tw1832691508475867565:=True
def tw9111709882147129655:=True
def tw10696458614491829572:=True
def tw6836359950869179439:=True
def tw1326175403826912198:=True
def tw16592893570014863828:=True
def tw16176830815697697194:=True
def tw9833964599435250050:=True
def tw11961059351148515626:=True
def tw13423135486485445016:=True
def tw8711421783369662179:=True
def tw8661065196793792047:=True
def tw13376464931078446103:=True
def tw16785538882571980543:=True
def tw11951307492845570281:=True
def tw16857469709051444266:=True
def tw7385006340035058783:=True
def tw5675193095830314289:=True
def tw10393596885623623503:=True
def tw5727973534668710794:=True
def tw12994552909553032409:=True
def tw8678582069086723682:=True
def tw2531900633515307401:=True
def tw5815207240830897808:=True
def tw10289937546816008636:=True
def tw14044709251442629906:=True
def tw11489409643829403841:=True
def tw4240545211757986076:=True
def tw7660858615051961871:=True
def tw11686026206685797588:=True
def tw8223707996358447380:=True
def tw13057232943065969744:=True
def tw201708328148552895:=True
def tw4302931102428780990:=True
def tw16339503202031470875:=True
def tw10307609814444822809:=True
def tw8749193726656077916:=True
def tw10389294372677164839:=True
def tw4338314545742005754:=True
def tw18120535436291149196:=True
def tw9496632788025766839:=True
def tw15585509438621463966:=True
def tw9609096358927944886:=True
def tw17818293817903590521:=True
def tw13509908655624090359:=True
def tw898707613593260451:=True
def tw3578222212851893600:=True
def tw12428716410969305734:=True
def tw11113120797386210373:=True
def tw17468886310826310451:=True
def tw9762715593372247759:=True
def tw11736780227944870738:=True
def tw3898467250045930460:=True
def tw225468126006155290:=True
def tw10131221437080536637:=True
def tw11230645906715702508:=True
def tw4719354141242184269:=True
def tw2638793534194840904:=True
def tw1172340538976468734:=True
def tw15651733941924773997:=True
def tw5463181917568680212:=True
def tw10127320685908719325:=True
def tw5362506446432344171:=True
def tw11091474679367250208:=True
def tw12447178028490564450:=True
def tw4950485280699123642:=True
def tw11877403491279123046:=True
def tw5439016543574858206:=True
def tw17447734377096445370:=True
def tw2842816785644039571:=True
def tw18107075240765231021:=True
def tw2000609977361463965:=True
def tw14721843458392949018:=True
def tw14832659646925512398:=True
def tw9642480246203547912:=True
def tw4154878040674242839:=True
def tw4765306392115962693:=True
def tw11931918283646908614:=True
def tw9397017562490477109:=True
def tw16739844878667351699:=True
def tw9107108562952019494:=True
def tw15059917014629022394:=True
def tw1752733083305661762:=True
def tw10479794009275464340:=True
def tw9570754706468278650:=True
def tw5657931515703916248:=True
def tw1095929389519559783:=True
def tw7205895575636617080:=True
def tw13135058765949404771:=True
def tw15968848678202421516:=True
def tw6651456455751515877:=True
def tw1088589479996732829:=True
def tw9022205114861038860:=True
def tw9764797518255496921:=True
def tw8316665608867782698:=True
def tw18048758015052009589:=True
def tw17408919567675379883:=True
def tw11051709101105081487:=True
def tw17711910997332876922:=True
def tw1323426155142419162:=True
def tw13370487131934946175:=True
def tw2557191316624668217:=True
def tw14421808642430287336:=True
def tw14940032972901115816:=True
def tw9327985806830046984:=True
def tw9285670843845949155:=True
def tw16171933092410999983:=True
def tw1885294564261713141:=True
def tw12724949091593755947:=True
def tw5884965284304258897:=True
def tw14003663102062188800:=True
def tw13663018214320142090:=True
def tw11084693905056812178:=True
def tw15670805634923389295:=True
def tw328508388705569248:=True
def tw4195489330254351329:=True
def tw15014361466247048854:=True
def tw4498182102138418894:=True
def tw9133701021851612117:=True
def tw525001674005675781:=True
def tw5377772837010204750:=True
def tw8111057081096800836:=True
def tw13172091369480311280:=True
def tw18168848097628341329:=True
def tw8474492796817999161:=True
def tw6853843781069519680:=True
def tw9441028803360468251:=True
def tw17411639873488161413:=True
def tw15389465554420088467:=True
def tw1352723322627576488:=True
def tw4982120401116994425:=True
def tw8700193116743927733:=True
def tw16573077582942348641:=True
def tw18291108133853008933:=True
def tw7957553974722075628:=True
def tw8108845850537571710:=True
def tw14076077854437140390:=True
def tw2412950195513398651:=True
def tw13431290835526063760:=True
def tw14822214895437561417:=True
def tw1644255569911684797:=True
def tw1238725946784135233:=True
def tw8203446524507428889:=True
def tw18369841484834026144:=True
def tw14883968960377749705:=True
def tw15145278206449419223:=True
def tw9448091282758670523:=True
def tw1734884918528286522:=True
def tw2597219025779639433:=True
def tw8706731066875689191:=True
def tw13283931332471535325:=True
def tw10600613889749566790:=True
def tw15575253945988166476:=True
def tw6223034424235540279:=True
def tw5747321363474778693:=True
def tw17740860788197283744:=True
def tw890751993682150155:=True
def tw4965207536615798822:=True
def tw5558808128744370633:=True
def tw12267468486907949403:=True
def tw3140866203998610647:=True
def tw5601264028959731896:=True
def tw8013882960148741844:=True
def tw4722931859811370693:=True
def tw4814944892674192296:=True
def tw9952970006915852218:=True
def tw1717485560449817402:=True
def tw12885334096101347146:=True
def tw7867681300357518899:=True
def tw4005113011885737416:=True
def tw7918374967389245632:=True
def tw8630030210275731936:=True
def tw7657994479303150727:=True
def tw9543871751676338751:=True
def tw3108443244893856389:=True
def tw3185962312253278316:=True
def tw3390864358609898268:=True
def tw1585303152785439333:=True
def tw15902913901339227234:=True
def tw17260577670642009320:=True
def tw16876236935048986776:=True
def tw9241353231930656577:=True
def tw3832104259330054055:=True
def tw11120492362615346026:=True
def tw5646740079091317433:=True
def tw16926426053830025025:=True
def tw14478419276589960357:=True
def tw11446199593928302625:=True
def tw9405301459192476718:=True
def tw1142058581544160548:=True
def tw9843424985483213050:=True
def tw14151137839513740329:=True
def tw4613981591765525805:=True
def tw6271033356711949733:=True
def tw11045270430615452010:=True
def tw15054863418237798948:=True
def tw4645612490112672357:=True
def tw335442867052375821:=True
def tw3702781205502781313:=True
def tw7492772011675989385:=True
def tw5715779271170130959:=True
def tw6635096433462372448:=True
def tw11273133048781285286:=True
def tw7848317997028865603:=True
def tw18111398738982083773:=True
def tw8096221689764760052:=True
def tw1075291646940621582:=True
def tw13132907815185506690:=True
def tw6347893289988391699:=True
def tw6189357195160471388:=True
def tw561872325786274548:=True
def tw12304872625307995750:=True
def tw8398887430952950212:=True
def tw15198316981687975854:=True
def tw11242623580682996947:=True
def tw7778630667622746703:=True
def tw8621771247159374411:=True
def tw4049413732980777947:=True
def tw9700507354520375304:=True
def tw12985212532813657682:=True
def tw7946034326556018432:=True
def tw14099800850047386279:=True
def tw8166991320080258738:=True
def tw9900696922168193843:=True
def tw6176105912117767087:=True
def tw11777086365064915542:=True
def tw14274756557212989909:=True
def tw8728704332973717658:=True
def tw2114198189418970486:=True
def tw4438364104728389296:=True
def tw4874642235004048027:=True
def tw14365998534574843411:=True
def tw17368901067910498557:=True
def tw6178583632892115015:=True
def tw5440085390276978291:=True
def tw16069983636010489082:=True
def tw2972125363121769464:=True
def tw14523845485542788104:=True
def tw5061037604254504937:=True
def tw15541118713287057729:=True
def tw7347661181068853997:=True
def tw6169999212503205497:=True
def tw5870148494974776200:=True
def tw9090173269774583996:=True
def tw4382491568596388571:=True
def tw8401958774316805891:=True
def tw18003279642469066050:=True
def tw2020152571437148077:=True
def tw10175558820241607032:=True
def tw7686242042924871683:=True
def tw13467292715098799918:=True
def tw5248012151768918434:=True
def tw8146785798897364014:=True
def tw1215526528800860966:=True
def tw3780143478300131934:=True
def tw12899656968702213925:=True
def tw13966652886959378514:=True
def tw6717767316833874322:=True
def tw6860577389561355601:=True
def tw785864177541677141:=True
def tw4786962568827011835:=True
def tw6846761488900895589:=True
def tw13723625003827874073:=True
def tw13220695134330190930:=True
def tw4350801690150286559:=True
def tw15519761934197397234:=True
def tw7255959162708018199:=True
def tw2406872565856053176:=True
def tw16877496141331604692:=True
def tw2627396739876165418:=True
def tw3138800457800853586:=True
def tw16149317719023688252:=True
def tw8121427672614705931:=True
def tw3443626597506986169:=True
def tw16985871876413990642:=True
def tw9976896545867408452:=True
def tw8670540905479144303:=True
def tw15471726915170369524:=True
def tw16188822405700688499:=True
def tw1758426702102747128:=True
def tw8419203004499243131:=True
def tw17026743227940831712:=True
def tw1226283177544027977:=True
def tw12540455083557110006:=True
def tw13358604424828501309:=True
def tw13185015893256467352:=True
def tw6674347012523051200:=True
def tw1291087626157917732:=True
def tw5217560924200664910:=True
def tw6888782338466086140:=True
def tw14201790961670687459:=True
def tw11744878476890876738:=True
def tw17084071853196174921:=True
def tw7779009951696393383:=True
def tw14504465163362997928:=True
def tw6794366774042380578:=True
def tw5689438673786977140:=True
def tw14648276583578725374:=True
def tw7785168158365692624:=True
def tw3737605839529819480:=True
def tw13042374122123996364:=True
def tw17371863055441782679:=True
def tw5476340991381562312:=True
def tw10130366669087276332:=True
def tw6849123771955923804:=True
def tw5761313309558253367:=True
def tw12784588452913835247:=True
def tw12981892083367582941:=True
def tw13960862262899742394:=True
def tw13133649945303734352:=True
def tw1859658367360657537:=True
def tw1298631472846954095:=True
def tw10681620039792923934:=True
def tw1963270939698246839:=True
def tw18433669859833586122:=True
def tw14648097213134440425:=True
def tw2750322548573693319:=True
def tw14661163797125724070:=True
def tw5615934883764171431:=True
def tw16457593375850944212:=True
def tw8312510263607220780:=True
def tw17914837950057056417:=True
def tw10576110018494610262:=True
def tw16788233547135642414:=True
def tw17112464921883037887:=True
def tw2442836877315861853:=True
def tw16567661231398824811:=True
def tw7442053078452299063:=True
def tw18074533905802821072:=True
def tw3448833343719912132:=True
def tw11784725038316003381:=True
def tw7654578318931278690:=True
def tw583233376362171505:=True
def tw3477183460249832127:=True
def tw10277526245819850656:=True
def tw15284455985751111415:=True
def tw9592678889267232940:=True
def tw6721464258858852875:=True
def tw5103420120806187630:=True
def tw17740187900682377756:=True
def tw10942295900298899174:=True
def tw17106608494224303150:=True
def tw282076826160197541:=True
def tw5162543521180666497:=True
def tw14849280956162755979:=True
def tw6280451789465376435:=True
def tw3153289441736887298:=True
def tw11448872678469705673:=True
def tw766856551031688912:=True
def tw16232008947845578158:=True
def tw11563076530477234726:=True
def tw17899929404969355535:=True
def tw596421839371371174:=True
def tw15305453227285626446:=True
def tw9069304868558884969:=True
def tw13186973799741327244:=True
def tw12819504698909858696:=True
def tw2316775634158704177:=True
def tw14204109254541194217:=True
def tw17717444079117462278:=True
def tw2792250951161479536:=True
def tw12180536567876656950:=True
def tw14066901625076523032:=True
def tw7779866328928976063:=True
def tw18074999733426924212:=True
def tw4547723090059260100:=True
def tw14539000326390715668:=True
def tw7062720368445256129:=True
def tw3849640880644552707:=True
def tw18118164260907729349:=True
def tw13492395982464255480:=True
def tw14647661154017913664:=True
def tw8486076525276431931:=True
def tw18343157571677020557:=True
def tw5646013916729498261:=True
def tw4801688742562958406:=True
def tw7238125184777875665:=True
def tw2235618017368140517:=True
def tw14310873030558110092:=True
def tw4835796080096327916:=True
def tw15906484144062456574:=True
def tw549974085012918235:=True
def tw14899674885815798178:=True
def tw17394647144938102915:=True
def tw5553432485147669529:=True
def tw12254430714555821875:=True
def tw7824222052329908659:=True
def tw6873541528101158377:=True
def tw8838840417862019655:=True
def tw1446525512094189494:=True
def tw7000523462626781010:=True
def tw2543849888741498996:=True
def tw76700771618905059:=True
def tw2013830700403712203:=True
def tw1985402699469526011:=True
def tw9163178095015654352:=True
def tw14984247238865676675:=True
def tw3165661143165402847:=True
def tw13607757164722159089:=True
def tw13874455239767017017:=True
def tw17485024515217194642:=True
def tw16987476370533704557:=True
def tw15076152544538823220:=True
def tw14200518018382609147:=True
def tw15363977820855282535:=True
def tw3530542369196619228:=True
def tw4156143147478942181:=True
def tw7619113539625694710:=True
def tw8865166961438382494:=True
def tw3855190133869164905:=True
def tw8026366407565007962:=True
def tw15331906349341453337:=True
def tw13930999109560414629:=True
def tw8397605616207071183:=True
def tw5543487718492105064:=True
def tw125183967897747985:=True
def tw12267322187703008927:=True
def tw6656463916972431421:=True
def tw4907521953547317329:=True
def tw7130465076275759521:=True
def tw10034031380863371641:=True
def tw7091565871241343341:=True
def tw9455471141526271117:=True
def tw3527972740633252992:=True
def tw14420213329864412023:=True
def tw12803817524326497440:=True
def tw14511287757244466272:=True
def tw18094267598192979275:=True
def tw6900727353157573822:=True
def tw9131408386013701786:=True
def tw11330118131623060689:=True
def tw2366535826993118143:=True
def tw18068929663759586442:=True
def tw5931688323066260514:=True
def tw17314943208353570444:=True
def tw11639333894188339638:=True
def tw17133528431856770972:=True
def tw17772726858579744284:=True
def tw14106571916235994328:=True
def tw5103548895888603802:=True
def tw1163122323300966013:=True
def tw11038128598146805730:=True
def tw7272270352196073673:=True
def tw281770217567036725:=True
def tw8901488873923373992:=True
def tw7525655301032184626:=True
def tw247909236438806434:=True
def tw4899250830898163692:=True
def tw10227051316576381974:=True
def tw8219367837509555709:=True
def tw15176617289070330970:=True
def tw2711446468545577505:=True
def tw12394350090093965224:=True
def tw8183209053709734173:=True
def tw5555718599999811639:=True
def tw5221675337516389627:=True
def tw14124840197023413450:=True
def tw10252965763247687682:=True
def tw4544264296663088324:=True
def tw11333907896045031016:=True
def tw12926333453430215753:=True
def tw10640348836240559591:=True
def tw200202858802481044:=True
def tw3468823194966119755:=True
def tw16084742875079473383:=True
def tw16773635481313006432:=True
def tw741329169588805604:=True
def tw12028550053918628185:=True
def tw14847532645272441617:=True
def tw3783704252341326843:=True
def tw14288127532215574351:=True
def tw11692948248621729924:=True
def tw12563031120210811263:=True
def tw15414233836422861205:=True
def tw10856765595117590405:=True
def tw3020832510069240704:=True
def tw2496985677507960046:=True
def tw8593244855664925795:=True
def tw4014216774688872946:=True
def tw7514489123796633772:=True
def tw16576222957257545530:=True
def tw4258606087713283508:=True
def tw5750698986362780913:=True
def tw14848961488311411958:=True
def tw4128963183011607505:=True
def tw15888951733556516598:=True
def tw6648324312943424196:=True
def tw16447172759540358135:=True
def tw8948736912299370593:=True
def tw3482175957882590323:=True
def tw13434531468450553753:=True
def tw15105651507014581045:=True
def tw433751870149770472:=True
def tw9386671084012761886:=True
def tw16433278489552267077:=True
def tw2891402810631288588:=True
def tw3835962111665225711:=True
def tw9743695723290020096:=True
def tw4716985721665009587:=True
def tw3082626142003458053:=True
def tw15451204947285891726:=True
def tw14929683446248860828:=True
def tw15393178847056368160:=True
def tw306535358961565008:=True
def tw1973140245219671491:=True
def tw1586037315452845605:=True
def tw9514876090768664877:=True
def tw15766547542915688834:=True
def tw1604050991321148793:=True
def tw10634939071730365363:=True
def tw13928513891281363954:=True
def tw4610591934557721198:=True
def tw6635522753158126860:=True
def tw755134328155928439:=True
def tw5919330448614353153:=True
def tw10312239555926195531:=True
def tw8322597137079436277:=True
def tw10081088541268293599:=True
def tw7852760074147458260:=True
def tw15926794790568321017:=True
def tw5781126440621211168:=True
def tw1694654335647164047:=True
def tw9196661522157602471:=True
def tw7193976414177721783:=True
def tw13027540482245733427:=True
def tw8373720323635723369:=True
def tw884644925536651315:=True
def tw17408048037380319038:=True
def tw10316705163991428254:=True
def tw10640303290150162726:=True
def tw5657447785659697480:=True
def tw8734355875116408662:=True
def tw4634341240264483431:=True
def tw15151187641303801864:=True
def tw9099960808112739735:=True
def tw17259241986408110582:=True
def tw497388943360791162:=True
def tw13912068318134460016:=True
def tw15097909243742831393:=True
def tw13134017275888359689:=True
def tw9351078540693612215:=True
def tw5927061715728957476:=True
def tw10787622589932112302:=True
def tw14331890051309236264:=True
def tw7347299435816893626:=True
def tw13100642850353945058:=True
def tw11441816438227186863:=True
def tw6516363680345034613:=True
def tw17933553581876595578:=True
def tw15354443143932468990:=True
def tw1639981616727947583:=True
def tw16444899576201249432:=True
def tw16739083755425606968:=True
def tw13887551421349579326:=True
def tw8909644736058714228:=True
def tw10416409784342031977:=True
def tw17558465517493045558:=True
def tw13752750167953387420:=True
def tw8315046463243809389:=True
def tw17711473739705145481:=True
def tw8820459466428253018:=True
def tw11093295523969242068:=True
def tw18433079168191953831:=True
def tw4198835854440487071:=True
def tw12071712058454129317:=True
def tw14074921412963316263:=True
def tw8689057759390064058:=True
def tw44263415142174766:=True
def tw14068239771850734003:=True
def tw11169558830825096451:=True
def tw10773934983489079739:=True
def tw4847766330237268548:=True
def tw7234240908195146063:=True
def tw2121406354128448821:=True
def tw10379842876597259683:=True
end Mine.all
section
open PySem PySem.W PyProof.Rows
set_option Elab.async true
set_option maxRecDepth 100000 in
set_option maxHeartbeats 0 in
theorem Mine.all : PySem.Challenge.rw_sm0024_01.Holds := by
  w_on; o_law; k_head; (case hw => w_witness2)
  refine Mine.law_here rfl (fun P => ?_) (fun P => ?_) (fun P => ?_) (fun P => ?_)
  · kernel_rfl
  · unfold Mine.HashOk; kernel_rfl
  · unfold Mine.HashOk; kernel_rfl
  · kernel_rfl
end
theorem PySem.Challenge.cw_sm0024_01_holds : PySem.Challenge.rw_sm0024_01.Holds :=
  Mine.all
