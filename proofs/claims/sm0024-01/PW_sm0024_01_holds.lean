import PyProof.Rows.All
import Wide.All
import OpenK.AllK
import Wide.FinOn
import Lean
import PySem.Challenge.RW_sm0024_01
noncomputable section
set_option autoImplicit false
set_option linter.all false
set_option genCtorIdx false
set_option bootstrap.genMatcherCode false
set_option genSizeOf false
set_option genInjectivity false
set_option tactic.hygienic false
set_option maxRecDepth 100000
set_option backward.match.sparseCases false
namespace Mine
open Option renaming some→O,none→b1,bind→jG,map_eq_some_iff→tm,bind_some→tn,map→nG,isNone_iff_eq_none→B4,isSome_iff_exists→F7,map_some→F8,toList_some→LF,join_some→LG,rec→LH,join→Tp
open Bool renaming true→ar,false→b2,noConfusion→dy,and_eq_true_iff→iX,false_ne_true→kx,or_eq_true_iff→nR,eq_false_iff→r5,and_false→qz,eq_iff_iff→vJ,or_false→vK,eq_false_or_eq_true→F9,not_eq_true'→B5,and_eq_true→B6,or_eq_false_iff→Ga,of_not_eq_false→LJ,not_eq_true→LK,or_eq_true→LL,and_true→LM,rec→Gb,false_and→Tq,and_assoc→Tr,or_assoc→Tt,or_true→Tu
open Nat renaming le_trans→cr,le_of_ble_eq_true→er,le_add_right→fg,le_refl→dX,lt_of_lt_of_le→hH,lt_succ_self→h9,add_le_add_left→jq,zero_le→fy,succ_le_succ→iF,le_succ→fM,lt_of_le_of_lt→kT,add_le_add_right→m7,le_of_succ_le→lC,le_of_lt→iG,add_right_comm→nS,le_of_eq→jH,zero_add→kU,ne_of_lt→kW,le_of_lt_succ→qk,lt_of_succ_lt→q8,le_of_not_lt→ra,sub_add_cancel→uK,le_of_succ_le_succ→yz,mul_le_mul_left→v9,le_succ_of_le→uL,sub_self→pg,not_lt→jI,lt_succ_of_lt→qA,add_assoc→nH,noConfusion→pG,add_le_add→pH,succ_pos→nI,succ_add_eq_add_succ→y4,add_right_cancel→vL,le_antisymm→r6,not_lt_zero→tP,add_comm→qB,lt_succ_of_le→vM,blt→jJ,lt_add_of_pos_right→B7,lt_of_le_of_ne→y5,min_eq_left→y6,succ→pI,le_add_left→B8,mul_succ→y7,add_sub_cancel→Gc,zero_lt_of_lt→Gd,lt_irrefl→B9,succ_lt_succ→Ge,lt_of_succ_lt_succ→LN,sub_le→y8,le_sub_one_of_lt→LO,not_succ_le_self→LP,mul_le_mul→Gf,lt_or_eq_of_le→LQ,lt_of_not_le→LR,sub_add_comm→LU,one_pos→Gg,sub_lt→Gh,lt_one_iff→LV,ne_of_gt→LW,lt_trans→LX,sub_lt_iff_lt_add'→Tv,le_of_sub_eq_zero→Tw,le_sub_of_add_le→Tx,lt_sub_of_add_lt→Ty,add_lt_of_lt_sub→Tz,eq_or_lt_of_le→TA,blt_eq→LY,le_of_pred_lt→TB,sub_sub_self→TC,succ_ne_zero→TF,le_of_not_le→TG,min_eq_right→TH,strongRecOn→TJ,lt_or_ge→TK,succ_add→TL,min_self→TM
open Option.some renaming inj→dg
open List renaming length_map→et,getElem?_eq_getElem→gS,length_append→dZ,getElem?_eq_some_iff→fJ,take_length→eO,mem_cons_self→fD,mem_of_getElem?→gj,mem_cons→eP,mem_cons_of_mem→ia,not_mem_nil→gD,getElem?_append_right→la,mem_singleton→ib,size_toArray→iy,getElem?_map→i4,forall_mem_cons→lY,range→f5,prefix_refl→jU,mem_map→hJ,getElem?_append_left→ph,mem_append_right→nU,append_nil→kX,all_eq_true→lD,replicate→ky,mem_append_left→ow,length_cons→lZ,isEmpty_iff→l0,getElem?_set_ne→pi,append_assoc→m8,mem_filter→l3,contains_iff_mem→rb,mem_append→my,length_mapIdx→pj,length_set→m9,length_filter_le→r7,length_range→pk,length_reverse→rd,mem_range→nf,length_singleton→uM,getElem?_mapIdx→wa,map_append→r8,reverse_cons→uN,getElem?_of_mem→yA,length_take_le'→yB,map_map→lO,take_add_one→qC,getElem?_toArray→tQ,length_filterMap_le→vN,countP_cons→qD,contains_eq_mem→vO,foldl_append→tR,any_eq_true→tS,prefix_append→vP,getD_eq_getElem?_getD→Ca,find?_cons→tT,ext_getElem?→vQ,map_congr_left→y9,getElem_mem→vR,length→qE,set_cons_succ→za,take_of_length_le→Cb,range_succ→vT,nodup_cons→vU,set_append_right→Cc,nodup_append→zb,length_drop→zc,length_take→zd,filterMap_cons→Ce,mem_map_of_mem→Cf,length_pos_iff→Cg,length_take_le→Ch,getElem?_take_of_lt→Gi,eraseIdx_append_of_length_le→LZ,getElem?_set_self→Gj,take_left→ze,countP_singleton→Gk,getElem?_eq_none→Gl,lookup_cons→Ci,replicate_succ→Gm,mem_filterMap→Gn,countP_append→Go,filterMap_cons_some→L0,map_cons→Cj,map_nil→Ck,nil_append→Gp,filter_nil→Gq,foldl_cons→Gr,forIn_cons→Gs,filterMap_append→L1,length_replicate→L2,mem_of_mem_take→L3,forIn_nil→Gu,map_eq_nil_iff→L4,getElem?_range→L5,mergeSort_perm→L6,replicate_zero→L7,any_cons→Gv,getElem?_drop→L8,getElem_range→L9,getElem?_set→Ma,flatMap_cons→Mb,flatten_cons→Mc,take_append_of_le_length→TN,not_lt→Gw,find?_some→Md,countP_map→Me,getElem?_concat_length→TQ,take_zero→Mf,nodup_nil→Mg,foldl→Gx,drop_eq_getElem_cons→TR,mem_of_find?_eq_some→TS,getElem?_eq_none_iff→TT,getElem?_zip_eq_some→TU,map_take→Mh,le_trans→Mi,length_eq_zero_iff→TV,pairwise_mergeSort→TW,getElem?_set_self'→TX,filter_eq_nil_iff→TY,drop_of_length_le→TZ,length_eq_one_iff→T0,set_getElem_self→T1,countP_le_length→T2,eq_nil_or_concat→T3,concat_eq_append→T4,mem_of_mem_drop→T5,map→Gy,getElem?_zipIdx→T6,append_toArray→T7,find?_eq_none→T8,length_zipIdx→T9,map_singleton→Ua,push_toArray→Ub,flatMap_nil→Uc,filter_cons→Ud,cons_ne_nil→Ue,map_fst_zip→Uf,map_const'→Ug,length_zip→Uh,of_mem_zip→Ui,tail_drop→Uj,filterMap→Uk,drop_zero→Ul,le_total→Um,take_nil→Un
open PySem renaming Value→cj,wpAny_bind→c5,Shared→cM,Str→b4,Expr→ce,wpAny_pure→fR,Addr→cz,wpAny_holding→iH,Around→d8,Comprehension→jV,wpAny_standAt→oy,Stmt→dn,markedEach→mz,assignInOrder→qF,Pos→cS,Heap→eu,mainGlobals→pJ,foldedSetIterable→vV,sizeLine→lP,evalEach→lQ,DictEntry→nJ,letOwnedTupleGo→vW,eval→fk,sysModules→qG,builtinsNs→qH,starEach→nK,FuncData→nL,Env→du,pyIter→kh,swappedStores→vX,codeAny→mA,call→gg,model→i5,recursionLimit→zf,assign→lk,exec→f9,Scope→ji,assignEach→tU,CmpOp→jK,compEnvC→qI,wpAny_execs_nil→Cl,wpAny_Assign_stores→Gz,holding→pK,compareChain→zg,Obj→ea,wpAny_truthy_bool→GA,standAt→qJ,getMethod_builtin→GC,wpAny_assignInOrder_none→Mj,NameKind→tV,notIterableAtAll→GD,Program→r9,call_meets→zh,spliced→sa,backTo→pL,pyNext→pM,compareOp→zi,getItem→tW,testChain→zj,wpAny_Tuple_spliced→Mk,wpAny→n9,wpAny_release→GF,wpAny_mono→Cm,wpAny_assign_Tuple→Ml,wpAny_pyIter_list→Mm,nsFind→tX,Sem→gl,truthy→tY,swapsWith→Cn,Result→tZ,Params→t0,subscripted→GG,wpAny_of_eq→GH,strKind_is→GI,constantsAlone→Mn,ExceptHandler→Mo,foldedForSure→Mp,swapsWithSole→Mq,mem_of_lookup→Mr,World→t3,cLine→t4,list_append→Uo,seqItems?→GJ,OsState→Co,wpAny_allTrue_And_cons→Up,bootBuiltins→Ms,wpAny_allTrue_Or_cons→Uq,codeAny_call_function→Ur,reprText→GK,Operator→GL,intItems→GM,wpAny_loadName_local→Us,callWith→GN,interactive→Mt,unpackItems→Mu,bindName→GO,bindArgs→GP,wpAny_loadName_cell→Ut,wpAny_loadName_free→Uu,wpAny_isTrue_BoolOp→Uv,Tok→kD,IsPart→Cp,wpAny_rule→Mv,stored→Uw,isTrue→Cq,wpAny_List_spliced→Ux,slot_dict_getitem→Uy,slot_list_getitem→Uz,numAt→zk,Keyword→GQ,wpAny_newObj_type→UA,wpAny_pyIter_enum→UB,wpAny_getItem_of→UC,evalPairs→Mw,pairTrees→Mx,wpAny_execs_cons→UD,firstIter→My,Arguments→Mz,cellsFrom→MA
open LawfulBEq renaming eq_of_beq→dr
open PySem.Heap renaming get?_push_of_some→ng,get?_push_size→oz,lt_size→nV,SameBut→t5,dictOf_iff→zl,size_push→GR
open Decidable renaming decide→dY
open Int renaming ofNat_lt→kY,natCast_nonneg→sb,ofNat_le→pN,toNat_natCast→zm,le_trans→t6,fmod→pO,lt_of_lt_of_le→GS,not_lt→zn,sub_eq_add_neg→MB,fdiv→Cr,not_le→GU,eq_ofNat_of_zero_le→UE,le_of_lt→MC,toNat_of_nonneg→UF,natCast_add→UG,ofNat_sub→UH,le_natAbs→UI,add_assoc→UJ,ofNat_inj→UK,lt_irrefl→UL,sub_zero→UM,toNat_lt→UN
open Nat.succ renaming inj→mB
open PySem.Str renaming ofString→oA
open PySem.NameKind renaming free→pP,cell→zo
open Pure renaming pure→ei
open False renaming elim→oa
open PySem.W renaming instObj→ki,findIn→jj,keepIn→lR,Frag→gI,emptyDict→t7,handedIn→Cs,hasDictIn→GV,plainOver→GW,WData→t8,typeIn→zp
open ForInStep renaming yield→zq
open Sum.inr renaming inj→t9
open PySem.F renaming slot_dict_get→GX,slot_list_append→MD,slot_list_pop→ME,args_list_append_2→UO,entry_list_append→UP,plainAttrs_dict→UQ,plainAttrs_list→UR,entry_list_pop→US,entry_dict_get→UT,slot_int_rmul→UU,type_dict_get→UV
open PySem.Value renaming isStrOf→zr
open Classical renaming byContradiction→MF,choose→UW,em→UX
open Array renaming getElem?_toList→MG,toList→MH,mem_toList_iff→UY,find?_toList→UZ
open List.cons renaming inj→GY
open Int.ofNat renaming inj→GZ
open PySem.Builtin.Tuple renaming tupleIsExact→U0,tupleItemsOf→Zy
open PySem.Builtin.List renaming listFitsIndex→U1
open PySem.Builtin.Range renaming rangeSize→U2
open List.Perm renaming eq_of_pairwise→U3
open PyProof.Rows renaming slot_tuple_getitem→MI,spliced_none→G0,tail_any→Cu
open PySem.Heap.IsSliceOf renaming new→U4
open PySem.Heap.SameBut renaming update→U5
open PySem.IsL renaming update→U6
open Ne renaming symm→Cv
open PySem.Value.str renaming inj→U7
open Sum renaming inr→G1
open PySem.PyData renaming keyHash→U8
open PySem.Txt renaming slice→MJ
open PySem.Calls renaming Name_function_global→U9,loadGlobal_builtin→Va
open LE renaming le→zs
open Prod.mk renaming inj→Vb
open BEq renaming comm→MK
open PySem.MeetsSeq renaming list_pop_last→Zz,list_pop_at→ZA
open LT renaming lt→Cw
open List.Pairwise renaming imp_of_mem→ZB,cons→ZC,nil→ZD
section
open PySem
section
universe u
@[elab_as_elim] def bT {a:Sort u} {c d:a} {b:a→Prop} (f:c=d) (e:b d):b c:=f▸e
@[elab_as_elim] def gT {a:Sort u} {c d:a} {b:a→Prop} (f:d=c) (e:b d):b c:=f▸e
def cG{b:Type}{a:b}{c:Prop}(d:b1=O a):c:=nomatch d
def oB{c:Nat}{b:Nat→Prop}(f:b 0)(e:∀a,a<c→b (a+1)):∀a,a<c+1→b a:=fun a=>by
 induction a with
 |zero=>exact fun g=>f
 |succ a=>exact fun d=>e a (LN d)
def Wg{c:Nat→Prop}:∀a,a<0→c a:=fun a b=>absurd b (tP a)
def WO{b c d a e K:Nat}(f:b+d≤e)(h:c≤K)(g:a+K≤d):b+c+a≤e:=
 cr (jH (nH b c a)) (cr (jq (cr (m7 h a) (cr (jH (qB K a)) g)) b) f)
def Q8{b a:Nat}(c:1+a≤b):(b:Int)-1=((b-(1+a)+a:Nat):Int):=by
 rw [Nat.sub_add_eq,uK (Tx (qB 1 a▸c))]
 exact (UH (cr (fg 1 a) c)).symm
def Q9{b a:Nat}(c:0+a≤b):(b:Int)-0=((b-(0+a)+a:Nat):Int):=by
 rw [kU,uK (kU a▸c),UM]
def WP{a e c d b f:Nat}(h:a+1+d≤f)(i:d=b+(3+c))(g:e≤2+c):a+e+b≤f-1:=by
 subst i
 refine LO (hH (kT (m7 (jq g a) b) ?_) h)
 rw [nS a 1,nH a,qB (2+c) b,nH a]
 exact vM (jq (jq (m7 (by decide) c) b) a)
def ZE{b d a:Nat}(c:b+1≤d+a)(e:a≤b):b+1≤d-1+(a+1):=by
 rw [qB a 1,← nH,uK (Nat.pos_of_ne_zero fun f=>by rw [f,kU] at c;exact LP _ (cr c e))]
 exact c
def ZF{a:Int}{b:Nat}(c:a.natAbs≤b):-(b:Int)≤a:=Int.neg_le_of_neg_le (t6 (Int.natAbs_neg a▸UI) (pN.mpr c))
def Vc{b:Int}{a:Nat}(c:b.natAbs≤a):b≤a:=t6 UI (pN.mpr c)
def ID{b:Int}{a:Nat}(c:b.natAbs≤a):b.toNat≤a:=Int.toNat_le.mpr (Vc c)
def Og{a:Int}{b:Nat}(d:0≤a)(c:a<b):a.toNat<b:=(UN d).mpr c
def ZG{a:Int}(b:a<0):-a=(a.natAbs:Int):=(Int.ofNat_natAbs_of_nonpos (MC b)).symm
def ZH{b a:Nat}(d:b≤500)(c:a≤500):((b:Int)-a).natAbs≤1000000:=cr (Int.natAbs_sub_le _ _) (cr (pH d c) (by decide))
def IE{a c b d:Nat}(f:c≤a+4)(e:a+20*(b+1)+20<d):c+3+20*b+20<d:=
 kT (by rw [y7,qB (20*b) 20,← nH];exact m7 (m7 (cr (m7 f 3) (jq (by decide:4+3≤20) a)) _) _) e
def IF{a c b d:Nat}(f:c=a+1)(e:a+4*(b+1)<d):c+1+4*b<d:=
 kT (by rw [f,y7,qB (4*b) 4,← nH];exact m7 (jq (by decide:1+1≤4) a) _) e
def Oh{b a e c:Nat}(f:a=b+1)(d:b+4*(e+1)<c):a<c:=kT (cr (fM a) (fg _ _)) (IF f d)
def WQ{a b c:Nat}(d:a+4*(b+1)<c):a+1+4*b<c:=
 kT (by rw [y7,qB (4*b) 4,← nH];exact m7 (jq (by decide:1≤4) a) _) d
def WR{a c b:Nat}(d:a+20*(c+1)+20<b):a+3+20*c+20<b:=IE (fg a 4) d
def abz{a c b:Nat}(d:a+20*c+20<b):a+12<b:=kT (by rw [nS];exact cr (jq (by decide) a) (fg _ _)) d
def WS{a c b:Nat}(d:c<b)(e:b≤a):(a-b)+c<a:=hH (Nat.add_lt_add_left d _) (jH (uK e))
def Ra{d b a c:Nat}(g:d≤b)(h:a≤c)(f:d+a=b+c):d=b∧a=c:=
 have e:a=c:=r6 h (Nat.le_of_add_le_add_left (a:=b) (cr (jH f.symm) (m7 g a)))
 ⟨vL (f.trans (congrArg (b+ ·) e.symm)),e⟩
def ZI{a d b c:Nat}(f:c+d=a+b):(a:Int)-(d:Int)+(b:Int)=(c:Int):=by
 have e:(c:Int)+d=a+b:=congrArg Int.ofNat f
 rw [MB,Int.add_right_comm,← e,UJ,Int.add_right_neg,Int.add_zero]
def abA{a:Nat}(b:3≤a+1):a-1<a:=Gh (q8 (yz b)) Gg
def abB{a:Nat}(b:3≤a+1):3≤a-1+2:=m7 (Tx (yz b)) 2
def abC{a:Nat}(b:3≤a+2):a-1<a:=Gh (yz (yz b)) Gg
def abD(a:Nat):3≤a-1+3:=B8 _ _
def ZJ{b a c:Nat}(d:dY ((b:Int)+a≤(c:Int)-2)=ar):b+a+2≤c:=pN.mp (Int.add_le_of_le_sub_right (of_decide_eq_true d))
def Cx{d:Type}{f:Nat}{e:List d→Prop}{b:List d}(g:b.length=f+1)(h:∀c a,a.length=f→e (c::a)):e b:=by
 induction b with
 |nil=>cases g
 |cons c a=>exact h c a (mB g)
def ZK{b:Type}{c:List b→Prop}{a:List b}(e:a.length=0)(d:c []):c a:=by
 induction a with
 |nil=>exact d
 |cons f g=>cases e
def Vd{h:Type}{d:List h→Prop}{g:List h}(b:g.length=3)(i:∀c e f,d [c,e,f]):d g:=Cx b fun c a b=>Cx (e:=fun a=>d (c::a)) b fun e a b=>Cx (e:=fun a=>d (c::e::a)) b fun f a b=>ZK (c:=fun a=>d (c::e::f::a)) b (i c e f)
def ZL{g:Type}{d:List g→Prop}{f:List g}(b:f.length=5)(h:∀a e i j k,d [a,e,i,j,k]):d f:=Cx b fun a c b=>Cx (e:=fun c=>d (a::c)) b fun e c b=>Vd (d:=fun c=>d (a::e::c)) b (h a e)
def WT{e:Type}{d:List e}(f:d.length=3):∃b c a,d=[b,c,a] :=Vd (d:=fun d=>∃b c a,d=[b,c,a]) f fun b c a=>⟨b,c,a,rfl⟩
def WU{g:Type}{f:List g}(h:f.length=5):∃c e a b d,f=[c,e,a,b,d] :=ZL (d:=fun f=>∃c e a b d,f=[c,e,a,b,d]) h fun c e a b d=>⟨c,e,a,b,d,rfl⟩
def bU{a:Prop}(c:∀{b:Prop},(a→b)→b):a:=c id
inductive bl where
 |bX|b3 (b:Bool)|Z (i:Int)|ad (s:b4)
 |cQ (xs:List bl)|a3 (xs:List bl)|gJ (c:Nat) (fs:List bl)
 |fn (k:Nat)|kE (c:Nat)|bi (k:Nat)|ob (d:Nat)
 deriving Inhabited
noncomputable def bl.ctorIdx(b:bl):Nat:=bl.casesOn (motive_1:=fun a=>Nat) b 0 (fun a=>1) (fun a=>2) (fun a=>3) (fun a=>4) (fun a=>5) (fun a a=>6) (fun a=>7) (fun a=>8) (fun a=>9) fun a=>10
inductive bZ where
 |f (v:bl)|cu (i:Nat)|fK (i:Nat)
 deriving Inhabited
inductive dw where
 |a3 (xs:List bl)|eg (es:List (Sum Int b4×bl))|jW (c:Nat) (fs:List bZ)
 deriving Inhabited
noncomputable abbrev bS:=List (Option dw)
noncomputable abbrev cV:=List (Option bZ)
inductive z8 where|dc|fw|kF|ua|qK|sd(u:Unit)
inductive Fo where|cZ|ne|jL|gm|tq|mC|ft|fY|wb|oc(u:Unit)
mutual
inductive cv where
 |bX|b3 (b:Bool)|Z (i:Int)|ad (s:b4)
 |bW (x:Nat)|b5 (g:Nat)
 |eD (fz:Bool) (op:z8) (a b:cv)
 |gA (a:cv)|pQ (a:cv)
 |ev (xs:dS)|hK (xs:dS)
 |b7 (a:cv) (cs:se)
 |fx (c a b:cv)
 |b0 (fz:Bool) (f:cv) (args:dS)
 |eQ (o:cv) (name:b4) (args:dS)
 |bY (o:cv) (name:b4)
 |cL (o i:cv)
 |fP (fz:Bool) (o:cv) (lo hi:cv)
 |cQ (xs:dS)
 |a3 (fz:Bool) (xs:dS)
 |tr (x rest:cv)
 |eg (kvs:dS)
 |eh (fz:Bool) (elt:cv) (gens:kG)
 |pR (e:cv)
 |sN
inductive dS where
 |N|J (e:cv) (r:dS)
inductive se where
 |N|J (op:Fo) (e:cv) (r:se)
inductive kG where
 |N|J (xs:List Nat) (wO:Bool) (it:ub) (ifs:dS) (r:kG)
inductive ub where
 |cE (e:cv)|gb (e:cv)|yC (e:cv)|zt (a b:cv)
end
mutual
inductive Cy where
 |df (e:cv)
 |ch (x:Nat) (e:cv)
 |ep (xs:List Nat) (es:dS)
 |i0 (xs:List Nat) (e:cv)
 |jc (o i e:cv)
 |oW (o i p j a b:cv)
 |cw (e:cv)
 |cB (c:cv) (a b:cW)
 |p8 (n:Nat) (c:cv) (b:cW)
 |fT (xs:List Nat) (wO:Bool) (it:ub) (b:cW)
 |gX
 |vY (b:cW)
 |sN
inductive cW where
 |N|J (s:Cy) (r:cW)
end
inductive Ve where
 |cA (b:cW)
 |tu (c:Nat) (fs:List (b4×cv))
structure dz where
 cJ:b4
 b9:Nat
 cn:List b4
 c3:List bl
 cR:Bool
 cN:Ve
structure lb where
 cJ:b4
 dj:List b4
 gv:Nat
 ey:Bool
 kH:List (b4×Nat)
noncomputable abbrev kv(b:b4)(a:bl):b4×bl:=(b,a)
structure rg where
 p9:List dz
 e7:List lb
 pS:List (b4×bl)
 ll:List (List (b4×bl))
noncomputable def Vf:=5
noncomputable def Nk:=9
noncomputable def Vg:=10
noncomputable def IG:=11
section
variable(a:bS)
noncomputable def dw.uc:dw→Option (List bl)
 |.a3 b=>O b
 |_=>b1
noncomputable def dw.Vh:dw→Option (List (Sum Int b4×bl))
 |.eg b=>O b
 |_=>b1
noncomputable def dw.Vi:dw→Option (Nat×List bZ)
 |.jW c b=>O (c,b)
 |_=>b1
noncomputable def wP(b:Nat):Option dw:=(a[b]?).bind id
def il(b:Nat):Option (List bl):=(wP a b).bind dw.uc
def ml(b:Nat):Option (List (Sum Int b4×bl)):=(wP a b).bind dw.Vh
def wQ(b:Nat):Option (Nat×List bZ):=(wP a b).bind dw.Vi
noncomputable def bl.uc:bl→Option (List bl)
 |.a3 b=>O b
 |_=>b1
noncomputable def bl.kA:bl→Option Int
 |.Z b=>O b
 |_=>b1
noncomputable def bl.tv:bl→Option b4
 |.ad b=>O b
 |_=>b1
noncomputable def bl.QN:bl→Option (Nat×List bl)
 |.gJ c b=>O (c,b)
 |_=>b1
noncomputable def bl.wR:bl→Option Nat
 |.ob b=>O b
 |_=>b1
noncomputable def bl.gr:bl→Bool
 |.bX=>ar
 |_=>b2
noncomputable def bZ.f?:bZ→Option bl
 |.f b=>O b
 |_=>b1
noncomputable def bZ.sf:bZ→Option Nat
 |.cu b=>O b
 |_=>b1
noncomputable def bZ.Vj:bZ→Option Nat
 |.fK b=>O b
 |_=>b1
def bZ.kA(b:bZ):Option Int:=b.f?.bind bl.kA
def bZ.tv(b:bZ):Option b4:=b.f?.bind bl.tv
def bZ.gr(b:bZ):Bool:=b.f?.any bl.gr
def kI(b:bZ):Option (List bl):=b.sf.elim (b.f?.bind bl.uc) (il a)
@[irreducible] noncomputable def QO (b:List bl):Option (bZ×bS):=if b.length≤100000 then O (.cu a.length,a++[O (.a3 b)]) else b1
def iI(fz:Bool)(b:List bl):Option (bZ×bS):=match fz with
 |true=>if b.length≤100000 then O (.f (.a3 b),a) else b1
 |false=>QO a b
end
noncomputable def sg(a:bl→bl→Option Bool):List bl→List bl→Option Bool
 |d::f,e::b=>(a d e).bind fun c=>(sg a f b).map fun g=>c&&g
 |_,_=>O ar
inductive I4 where|bX|b3(b:Bool)|Z(i:Int)|ad(s:b4)
noncomputable def wc:bl→Option I4
 |.bX=>O .bX
 |.b3 a=>O (.b3 a)
 |.Z c=>O (.Z c)
 |.ad b=>O (.ad b)
 |_=>b1
def gh(a:bl):Bool:=(wc a).isSome
noncomputable def si:bl→Option (Bool×List bl)
 |.cQ a=>O (ar,a)
 |.a3 a=>O (b2,a)
 |_=>b1
noncomputable def Q5:I4→I4→Bool
 |.bX,.bX=>ar
 |.b3 b,.b3 a=>b==a
 |.Z b,.Z a=>b==a
 |.b3 b,.Z a=>(if b then 1 else 0)==a
 |.Z b,.b3 a=>b==(if a then 1 else 0)
 |.ad b,.ad a=>b==a
 |_,_=>b2
def nt:Nat→bl→bl→Option Bool
 | 0,_,_=>b1
 |f+1,c,d=>match wc c with
  |some e=>(wc d).map (Q5 e)
  |none=>(si c).bind fun a=>(si d).bind fun b=>if a.1=b.1 then (if a.2.length=b.2.length then sg (nt f) a.2 b.2 else cond a.1 b1 (O b2)) else b1
noncomputable def k5:Nat:=12
@[irreducible] noncomputable def lE (a b:bl):Option Bool:=nt k5 a b
def WV(b a:bl):Option Bool:=match b with
 |.Z d=>(match a with
  |.Z c=>O (d==c)
  |_=>lE b a)
 |.ad d=>(match a with
  |.ad c=>O (d==c)
  |_=>lE b a)
 |.b3 d=>(match a with
  |.b3 c=>O (d==c)
  |_=>lE b a)
 |_=>lE b a
def WW(b a:bl):WV b a=nt k5 b a:=by
 have c:lE b a=nt k5 b a:=by unfold lE;rfl
 refine gT c ?_
 unfold WV
 cases b with
 |Z d=>cases a with
  |Z e=>exact c.symm
  |_=>rfl
 |ad d=>cases a with
  |ad e=>exact c.symm
  |_=>rfl
 |b3 d=>cases a with
  |b3 e=>exact c.symm
  |_=>rfl
 |_=>rfl
def zu(a:bl):List bl→Option Bool
 |[] =>O b2
 |b::c=>if gh b&&gh a then (nt 1 b a).bind fun d=>(zu a c).map fun e=>d||e else b1
@[irreducible] noncomputable def ic (a:bl) (b:List bl):Option Bool:=zu a b
def ud(b:bS)(a:bZ):Option bl:=a.sf.elim a.f? fun c=>(il b c).map .a3
noncomputable def Nl:bl→Option Bool
 |.bX=>O b2
 |.b3 a=>O a
 |.Z b=>O (b !=0)
 |_=>b1
def qa(b:bS)(a:bZ):Option Bool:=a.f?.bind Nl
noncomputable def g8(a:Int)(b:Nat):Option Nat:=
 if 0≤a then (if a<b∧a<2 ^ 62 then O a.toNat else b1) else if 0≤a+b∧-(2 ^ 62)<a then O (a+b).toNat else b1
noncomputable def jM:bl→Option (Sum Int b4)
 |.Z b=>O (.inl b)
 |.ad a=>O (.inr a)
 |_=>b1
noncomputable def fA(a:Sum Int b4)(c:List (Sum Int b4×bl)):Option bl:=(c.find? fun b=>b.1=a).map (·.2)
noncomputable def gF(c:List (Sum Int b4×bl))(b:Sum Int b4)(d:bl):List (Sum Int b4×bl):=
 if c.any (fun a=>a.1=b) then c.map (fun a=>if a.1=b then (a.1,d) else a) else c++[(b,d)]
section
variable(a:rg)
def Wh(h:bS)(f c:bZ):Option Bool:=f.f?.bind fun b=>(c.f?.bind bl.wR).elim (((ud h c).bind si).bind fun i=>ic b i.2) fun g=>(a.ll[g]?).bind fun d=>b.tv.map fun e=>(d.lookup e).isSome
def fh(f:bS)(g:Fo)(d e:bZ):Option Bool:=
 match g with
 |.cZ=>(ud f d).bind fun b=>(ud f e).bind fun c=>WV b c
 |.ne=>(ud f d).bind fun b=>(ud f e).bind fun c=>(WV b c).map (!·)
 |.jL=>d.kA.bind fun b=>e.kA.bind fun c=>O (dY (b<c))
 |.gm=>d.kA.bind fun b=>e.kA.bind fun c=>O (dY (b≤c))
 |.tq=>d.kA.bind fun b=>e.kA.bind fun c=>O (dY (c<b))
 |.mC=>d.kA.bind fun b=>e.kA.bind fun c=>O (dY (c≤b))
 |.ft=>Wh a f d e
 |.fY=>(Wh a f d e).map (!·)
 |.wb=>cond e.gr (O d.gr) b1
 |.oc _=>cond e.gr (O (!d.gr)) b1
noncomputable def G4(d:bS)(e:z8)(c b:Int):Option (bZ×bS):=match e with
 |.dc=>O (.f (.Z (c+b)),d)
 |.fw=>O (.f (.Z (c-b)),d)
 |.kF=>if c.natAbs<2 ^ 64∧b.natAbs<2 ^ 64 then O (.f (.Z (c*b)),d) else b1
 |.ua=>if b=0∨¬b.natAbs<1073741824 then b1 else O (.f (.Z (Cr c b)),d)
 |.qK=>if b=0 then b1 else O (.f (.Z (pO c b)),d)
 |.sd _=>if c.natAbs<2 ^ 64∧0≤b∧b≤100 then O (.f (.Z (c ^ b.toNat)),d) else b1
noncomputable def z8.ZM:z8→Bool
 |.kF=>ar
 |_=>b2
noncomputable def z8.ZN:z8→Bool
 |.dc=>ar
 |_=>b2
def abE(b:bS)(fz:Bool)(d f:bZ):Option (bZ×bS):=(kI b d).bind fun e=>(kI b f).bind fun c=>iI b fz (e++c)
def WX(d:bS)(fz:Bool)(e:bZ)(b:Int):Option (bZ×bS):=(kI d e).bind fun c=>if b.natAbs≤1000∧c.length≤1000 then iI d fz (ky b.toNat c).flatten else b1
def ZO(e:bS)(fz:Bool)(b:z8)(c:bZ)(d:Int):Option (bZ×bS):=c.kA.elim (cond b.ZM (WX e fz c d) b1) fun f=>G4 e b f d
def pn(d:bS)(fz:Bool)(b:z8)(c e:bZ):Option (bZ×bS):=e.kA.elim (cond b.ZN (abE d fz c e) b1) (ZO d fz b c)
def Y1(c:bZ):Option bZ:=c.kA.map fun b=>.f (.Z (-b))
noncomputable def we{b:Type}(f:Nat)(e:List b)(d:b4):Option b:=(a.e7[f]?).bind fun c=>(c.dj.idxOf? d).bind fun g=>e[g]?
def zv(f:bS)(c:bZ)(d:b4):Option bZ:=c.Vj.elim ((c.f?.bind bl.QN).bind fun b=>(we a b.1 b.2 d).map .f) fun e=>(wQ f e).bind fun b=>we a b.1 b.2 d
def uO(b:bS)(c:bZ)(d:Sum Int b4):Option bl:=(c.sf.bind (ml b)).bind (fA d)
noncomputable def abF(b:b4)(c:Nat):Option bl:=(a.ll[c]?).bind fun d=>d.lookup b
def abG(d:bS)(b:bZ)(c:b4):Option bl:=(b.f?.bind bl.wR).elim (uO d b (.inr c)) (abF a c)
def abH(d:Int)(c:bl):Option bl:=(si c).bind fun b=>(g8 d b.2.length).bind (b.2[·]?)
def abI(b:bS)(c:bZ)(d:Int):Option bl:=(ud b c).elim (uO b c (.inl d)) (abH d)
def jX(b:bS)(c d:bZ):Option bl:=d.kA.elim (d.tv.bind (abG a b c)) (abI b c)
def abJ(f:bS)(e:bZ)(g:Nat)(d:bl)(b:List (Sum Int b4×bl)):Option bS:=if b.length≤1000 then (e.f?.bind jM).map fun c=>f.set g (O (.eg (gF b c d))) else b1
def abK(f:bS)(e:bZ)(g:Nat)(d:bl)(c:List bl):Option bS:=e.kA.bind fun b=>if 0≤b then (g8 b c.length).map fun h=>f.set g (O (.a3 (c.set h d))) else b1
def abL(b:bS)(e:bZ)(c:Nat)(d:bl):Option bS:=(il b c).elim ((ml b c).bind (abJ b e c d)) (abK b e c d)
def l4(e:bS)(b d c:bZ):Option bS:=b.sf.bind fun f=>c.f?.bind (abL e d f)
noncomputable def x6{b:Type}(c:List b)(d e:Option Nat):List b:=(c.take (e.getD c.length)).drop (d.getD 0)
def rO(c:bZ):Option (Option Nat):=c.kA.elim (cond c.gr (O b1) b1) fun b=>if 0≤b∧b.natAbs<2 ^ 62 then O (O b.toNat) else b1
noncomputable def ZP(e:bS)(c d:Option Nat)(b:b4):Option (bZ×bS):=cond c.isSome b1 (d.bind fun f=>if b.length≤100000 then O (.f (.ad (MJ b b1 (O (f:Int)))),e) else b1)
noncomputable def ZQ(f:bS)(d e:Option Nat)(b:List bl):Option (bZ×bS):=cond e.isSome b1 (d.bind fun c=>if c≤b.length∧b.length≤100000 then O (.f (.cQ (b.drop c)),f) else b1)
def WY(e:bS)(fz:Bool)(c d:Option Nat)(b:List bl):Option (bZ×bS):=if b.length≤100000 then iI e fz (x6 b c d) else b1
def ZR(e:bS)(fz:Bool)(c d:Option Nat)(b:Bool×List bl):Option (bZ×bS):=cond b.1 (ZQ e c d b.2) (WY e fz c d b.2)
def slF(e:bS)(fz:Bool)(b d:Option Nat)(c:bl):Option (bZ×bS):=(si c).elim (c.tv.bind (ZP e b d)) (ZR e fz b d)
def jY(b:bS)(fz:Bool)(e c f:bZ):Option (bZ×bS):=(rO c).bind fun d=>(rO f).bind fun g=>(ud b e).bind (slF b fz d g)
noncomputable def gY:bl→Option b4
 |.bX=>O "None"
 |.b3 ar=>O "True"
 |.b3 b2=>O "False"
 |.Z c=>if c.natAbs<10 ^ 10 then O (oA (toString c)) else b1
 |.ad b=>if (GK b).length≤100000 then O (GK b) else b1
 |_=>b1
inductive TyK where|bX|b3|Z|ad|cQ|IH(u:Unit)
noncomputable def tyK:bl→TyK
 |.bX=>.bX
 |.b3 _=>.b3
 |.Z _=>.Z
 |.ad _=>.ad
 |.cQ _=>.cQ
 |_=>.IH ()
noncomputable def bl.Y2:bl→Option Nat
 |.kE b=>O b
 |_=>b1
noncomputable def bl.bi?:bl→Option Nat
 |.bi b=>O b
 |_=>b1
def Vk(b:Nat)(c:TyK):Option Bool:=
 if b=Vf then (match c with|.Z|.b3=>O ar|_=>b1)
 else if b=Nk then (match c with|.b3=>O ar|.Z|.ad=>O b2|_=>b1)
 else if b=Vg then (match c with|.ad=>O ar|_=>b1)
 else if b=IG then (match c with|.cQ=>O ar|.bX=>O b2|_=>b1)
 else b1
def Y3(b:bl)(c:bl):Option Bool:=c.Y2.elim (c.bi?.bind fun d=>Vk d (tyK b)) fun e=>b.QN.bind fun f=>if e=f.1 then O ar else b1
noncomputable def Cz:List bl→Option (List Int)
 |[] =>O []
 |.Z c::b=>(Cz b).map (c:: ·)
 |_=>b1
noncomputable def ML:List bl→Option (List b4)
 |[] =>O []
 |.ad c::b=>(ML b).map (c:: ·)
 |_=>b1
noncomputable def ie(c b:b4):Bool:=dY (c.cps.toList≤b.cps.toList)
def abM(b:bl):Option Nat:=(si b).elim (b.tv.map Str.length) fun c=>O c.2.length
noncomputable def JG:List bZ→Option bZ
 |[b] =>O b
 |_=>b1
noncomputable def Wi:List bZ→Option (bZ×bZ)
 |[c,b] =>O (c,b)
 |_=>b1
noncomputable def ZS(b:Int→Int→Int):List Int→Option Int
 |d::c=>O (c.foldl b d)
 |[] =>b1
noncomputable def bl.Vl:bl→Option Bool
 |.b3 b=>O b
 |_=>b1
def Wj(c:bS)(fz:Bool)(d:bZ):Option (bZ×bS):=(ud c d).bind fun e=>(abM e).bind fun b=>if b≤100000 then O (.f (.Z b),c) else b1
def MM(b:bS)(fz:Bool)(c:bZ):Option (bZ×bS):=(ud b c).bind fun d=>(si d).bind fun e=>iI b fz e.2
def vZ(e:Int→Int→Int)(b:bS)(fz:Bool)(d:bZ):Option (bZ×bS):=(kI b d).bind fun f=>(Cz f).bind fun c=>(ZS e c).map fun g=>(.f (.Z g),b)
def Wl(b:bS)(fz:Bool)(c:bZ):Option (bZ×bS):=c.kA.map fun d=>(.f (.Z d.natAbs),b)
def Wm(b:bS)(fz:Bool)(d:bZ):Option (bZ×bS):=(d.f?.bind bl.Vl).map fun c=>(.f (.Z (if c then 1 else 0)),b)
def MN(b:bS)(fz:Bool)(d:bZ):Option (bZ×bS):=(d.f?.bind gY).map fun c=>(.f (.ad c),b)
def MO(c:bS)(fz:Bool)(d:bZ):Option (bZ×bS):=(kI c d).bind fun e=>(ML e).bind fun b=>if b.length<64 then iI c fz ((b.mergeSort ie).map .ad) else b1
def abN(d:bS)(b:bZ×bZ):Option (bZ×bS):=b.1.f?.bind fun c=>b.2.f?.bind fun f=>(Y3 c f).map fun e=>(.f (.b3 e),d)
def Vm:List (bS→Bool→bZ→Option (bZ×bS)):=[Wj,MM,vZ max,vZ min,Wl,Wm,MN,MO]
def eW(d:bS)(fz:Bool)(b:Nat)(c:List bZ):Option (bZ×bS):=
 cond (Nat.beq b 8) ((Wi c).bind (abN d)) ((JG c).bind fun e=>(Vm[b]?).bind fun f=>f d fz e)
inductive oC where
 |eJ|gy|iU|Dj|fn (g:Nat)
noncomputable def oC.ctorIdx(b:oC):Nat:=oC.casesOn (motive:=fun c=>Nat) b 0 1 2 3 fun c=>4
noncomputable def z9(b:Nat)(c:b4):Option oC:=(a.e7[b]?).bind fun d=>(d.kH.lookup c).map .fn
def WZ(c:bS)(d:Nat)(b:b4):Option oC:=(il c d).elim ((ml c d).bind fun e=>if b="get" then O .iU else b1) fun e=>if b="append" then O .eJ else if b="pop" then O .gy else b1
def W0(b:bl)(c:b4):Option oC:=b.wR.elim (b.QN.bind fun e=>z9 a e.1 c) fun d=>if c="get" then (a.ll[d]?).map fun f=>.Dj else b1
def jN(d:bS)(e:bZ)(c:b4):Option oC:=match e with
 |.cu b=>WZ d b c
 |.fK b=>(wQ d b).bind fun g=>z9 a g.1 c
 |.f f=>W0 a f c
noncomputable def MP(f:bS)(e:Nat)(b:List bl)(c:Nat):Option (bZ×bS):=if b.length≤100000 then (b[c]?).map fun d=>(.f d,f.set e (O (.a3 (b.eraseIdx c)))) else b1
def abO(f:bS)(e:List bZ)(d:Nat)(b:List bl):Option (bZ×bS):=((JG e).bind bZ.f?).bind fun c=>if b.length≤100000 then O (.f .bX,f.set d (O (.a3 (b++[c])))) else b1
def abP(f:bS)(e:Nat)(b:List bl)(d:bZ):Option (bZ×bS):=d.kA.bind fun c=>(g8 c b.length).bind fun g=>MP f e b g
def abQ(c:bS)(e:List bZ)(d:Nat)(b:List bl):Option (bZ×bS):=(JG e).elim (cond e.isEmpty (MP c d b (b.length-1)) b1) (abP c d b)
def abR(b:bS)(e:List bZ)(d:List (Sum Int b4×bl)):Option (bZ×bS):=((JG e).bind bZ.tv).map fun c=>(.f ((fA (.inr c) d).getD .bX),b)
def ZT(g:bS)(f:Nat)(b:bZ×bZ):Option (bZ×bS):=b.1.tv.bind fun c=>b.2.f?.bind fun e=>(a.ll[f]?).map fun d=>(.f ((d.lookup c).getD e),g)
def jk(c:bS)(g:oC)(d:bZ)(e:List bZ):Option (bZ×bS):=match g with
 |.eJ=>d.sf.bind fun b=>(il c b).bind (abO c e b)
 |.gy=>d.sf.bind fun b=>(il c b).bind (abQ c e b)
 |.iU=>d.sf.bind fun b=>(ml c b).bind (abR c e)
 |.Dj=>(d.f?.bind bl.wR).bind fun f=>(Wi e).bind (ZT a c f)
 |.fn _=>b1
def Wn(b:bS)(c:bZ):Option (bZ×bS):=c.sf.elim (c.f?.map fun e=>(.f e,b)) fun d=>(il b d).map fun f=>(.f (.a3 f),b.set d b1)
noncomputable def dL(c:Int):List bl:=(f5 c.toNat).map fun (b:Nat)=>.Z b
noncomputable def eV(c:List bl):List bl:=(c.zipIdx).map fun (b:bl×Nat)=>.cQ [.Z b.2,b.1]
noncomputable def iC(d c:List bl):List bl:=(d.zip c).map fun (b:bl×bl)=>.cQ [b.1,b.2]
noncomputable def CA:bl→Bool
 |.cQ _=>ar
 |_=>b2
def Dz(c:Bool):bZ→Option (List bl)
 |.f (.a3 b)=>if c then (if b.all CA then O b else b1) else O b
 |.f (.cQ b)=>if c then b1 else O b
 |_=>b1
noncomputable def ld(c:b4):List bl:=c.cps.toList.map fun b=>.ad ⟨#[b]⟩
noncomputable def h5:kG→List Nat
 |.N=>[]
 |.J c _ _ _ b=>c++h5 b
noncomputable def Vn(c:cV)(d:List Nat):Bool:=d.all fun b=>(c[b]?).join.isNone
inductive ue where
 |cc|gX|cw (v:bZ)
end
end
noncomputable def EL:dz where
 cJ:="__init__"
 b9:=5
 cn:=["self","op","a","b","c","line"]
 c3:=[]
 cR:=b2
 cN:=.tu 0 [("op",(.bW 1)),
 ("a",(.bW 2)),
 ("b",(.bW 3)),
 ("c",(.bW 4)),
 ("line",(.bW 5))]
noncomputable def sO:dz where
 cJ:="with_target"
 b9:=2
 cn:=["self","target"]
 c3:=[]
 cR:=b2
 cN:=.cA (.J (.cw (.b0 ar (.b5 0) (.J (.bY (.bW 0) "op") (.J (.bW 1) (.J (.bY (.bW 0) "b") (.J (.bY (.bW 0) "c") (.J (.bY (.bW 0) "line") .N)))))))
 .N)
noncomputable def zM:dz where
 cJ:="__init__"
 b9:=5
 cn:=["self","sort","first","last","target","depth"]
 c3:=[]
 cR:=b2
 cN:=.tu 1 [("sort",(.bW 1)),
 ("first",(.bW 2)),
 ("last",(.bW 3)),
 ("target",(.bW 4)),
 ("depth",(.bW 5))]
noncomputable def wS:dz where
 cJ:="covers"
 b9:=2
 cn:=["self","place"]
 c3:=[]
 cR:=b2
 cN:=.cA (.J (.cw (.b7 (.bY (.bW 0) "first") (.J .gm (.bW 1) (.J .jL (.bY (.bW 0) "last") .N))))
 .N)
noncomputable def CB:dz where
 cJ:="__init__"
 b9:=8
 cn:=["self","kind","name","params","slots","rows","catches","children","starts"]
 c3:=[]
 cR:=b2
 cN:=.tu 2 [("kind",(.bW 1)),
 ("name",(.bW 2)),
 ("params",(.bW 3)),
 ("slots",(.bW 4)),
 ("rows",(.bW 5)),
 ("catches",(.bW 6)),
 ("children",(.bW 7)),
 ("starts",(.bW 8)),
 ("number",.bX)]
noncomputable def uC:dz where
 cJ:="with_rows"
 b9:=5
 cn:=["self","rows","catches","starts","children"]
 c3:=[]
 cR:=b2
 cN:=.cA (.J (.cw (.b0 ar (.b5 1) (.J (.bY (.bW 0) "kind") (.J (.bY (.bW 0) "name") (.J (.bY (.bW 0) "params") (.J (.bY (.bW 0) "slots") (.J (.bW 1) (.J (.bW 2) (.J (.bW 4) (.J (.bW 3) .N))))))))))
 .N)
noncomputable def CC:dz where
 cJ:="effect_of"
 b9:=1
 cn:=["row","told"]
 c3:=[]
 cR:=b2
 cN:=.cA (.J (.ch 1 (.cL (.b5 2) (.bY (.bW 0) "op")))
 (.J (.cw (.fx (.b0 ar (.b5 3) (.J (.bW 1) (.J (.b5 4) .N))) (.bW 1) (.b0 ar (.bW 1) (.J (.bW 0) .N))))
 .N))
noncomputable def EM:dz where
 cJ:="is_whole"
 b9:=1
 cn:=["value"]
 c3:=[]
 cR:=b2
 cN:=.cA (.J (.cw (.ev (.J (.b0 ar (.b5 3) (.J (.bW 0) (.J (.b5 5) .N))) (.J (.gA (.b0 ar (.b5 3) (.J (.bW 0) (.J (.b5 6) .N)))) .N))))
 .N)
noncomputable def zN:dz where
 cJ:="is_operand"
 b9:=3
 cn:=["row","letter","value"]
 c3:=[]
 cR:=b2
 cN:=.cA (.J (.cB (.b7 (.bW 1) (.J .ft (.cQ (.J (.ad "n") (.J (.ad "t") .N))) .N)) (.J (.cw (.b0 ar (.b5 3) (.J (.bW 2) (.J (.b5 7) .N))))
 .N) .N)
 (.J (.cB (.b7 (.bW 1) (.J .ft (.cQ (.J (.ad "c") (.J (.ad "p") .N))) .N)) (.J (.cw (.ev (.J (.b0 ar (.b5 8) (.J (.bW 2) .N)) (.J (.b7 (.bW 2) (.J .mC (.Z 0) .N)) .N))))
 .N) .N)
 (.J (.cB (.b7 (.bW 1) (.J .cZ (.ad "a") .N)) (.J (.cw (.ev (.J (.b0 ar (.b5 8) (.J (.bW 2) .N)) (.J (.b7 (.bW 2) (.J .mC (.pQ (.Z 1)) .N)) .N))))
 .N) .N)
 (.J (.cB (.b7 (.bW 1) (.J .cZ (.ad "i") .N)) (.J (.cw (.b0 ar (.b5 8) (.J (.bW 2) .N)))
 .N) .N)
 (.J (.cB (.b7 (.bW 1) (.J .cZ (.ad "f") .N)) (.J (.cw (.b0 ar (.b5 3) (.J (.bW 2) (.J (.b5 6) .N))))
 .N) .N)
 (.J (.cB (.b7 (.bW 1) (.J .cZ (.ad "r") .N)) (.J (.cw (.hK (.J (.b7 (.bW 2) (.J .wb .bX .N)) (.J (.b7 (.bW 2) (.J .cZ (.Z 1) .N)) .N))))
 .N) .N)
 (.J (.cB (.b7 (.bW 1) (.J .cZ (.ad "k") .N)) (.J (.cw (.b0 ar (.b5 3) (.J (.bW 2) (.J (.cQ (.J (.b5 9) (.J (.b5 4) .N))) .N))))
 .N) .N)
 (.J (.cB (.b7 (.bW 1) (.J .cZ (.ad "b") .N)) (.J (.cw (.b0 ar (.b5 10) (.J (.bW 2) .N)))
 .N) .N)
 (.J (.cw (.fx (.b7 (.bW 1) (.J .cZ (.ad "s") .N)) (.b0 ar (.b5 11) (.J (.bW 0) (.J (.bW 2) .N))) (.b3 ar)))
 .N)))))))))
noncomputable def EN:dz where
 cJ:="child_of"
 b9:=1
 cn:=["row","block"]
 c3:=[]
 cR:=b2
 cN:=.cA (.J (.cB (.b7 (.bY (.bW 0) "op") (.J .cZ (.ad "lambda") .N)) (.J (.cw (.cQ (.J (.bY (.bW 0) "a") (.J (.ad "block") .N))))
 .N) .N)
 (.J (.cB (.b7 (.bY (.bW 0) "op") (.J .ft (.cQ (.J (.ad "def") (.J (.ad "sdef") .N))) .N)) (.J (.cw (.cQ (.J (.bY (.bW 0) "b") (.J (.ad "method") .N))))
 .N) .N)
 (.J (.cB (.b7 (.bY (.bW 0) "op") (.J .ft (.cQ (.J (.ad "class") (.J (.ad "module") .N))) .N)) (.J (.cw (.cQ (.J (.bY (.bW 0) "b") (.J (.ad "class") .N))))
 .N) .N)
 (.J (.cB (.b7 (.bY (.bW 0) "op") (.J .cZ (.ad "sclass") .N)) (.J (.cw (.cQ (.J (.bY (.bW 0) "a") (.J (.ad "class") .N))))
 .N) .N)
 (.J (.ch 1 .bX)
 (.J (.cB (.b7 (.bY (.bW 0) "op") (.J .cZ (.ad "send") .N)) (.J (.ch 1 (.cL (.bY (.bW 0) "c") (.Z 1)))
 .N) (.J (.cB (.b7 (.bY (.bW 0) "op") (.J .cZ (.ad "super") .N)) (.J (.ch 1 (.bY (.bW 0) "b"))
 .N) (.J (.cB (.b7 (.bY (.bW 0) "op") (.J .cZ (.ad "zsuper") .N)) (.J (.ch 1 (.bY (.bW 0) "a"))
 .N) .N)
 .N))
 .N))
 (.J (.cw (.fx (.b0 ar (.b5 3) (.J (.bW 1) (.J (.b5 4) .N))) (.cQ (.J (.cL (.bW 1) (.Z 1)) (.J (.ad "block") .N))) .bX))
 .N)))))))
noncomputable def vn:dz where
 cJ:="__init__"
 b9:=2
 cn:=["self","code","outer"]
 c3:=[]
 cR:=b2
 cN:=.tu 3 [("code",(.bW 1)),
 ("seen",(.fx (.b7 (.bY (.bW 1) "kind") (.J .cZ (.ad "block") .N)) (.tr (.bW 1) (.bW 2)) (.a3 ar (.J (.bW 1) .N)))),
 ("depths",(.eD b2 .kF (.a3 ar (.J .bX .N)) (.b0 ar (.b5 12) (.J (.bY (.bW 1) "rows") .N)))),
 ("waiting",(.a3 b2 .N))]
noncomputable def uD:dz where
 cJ:="reach"
 b9:=4
 cn:=["self","place","depth","origin","known"]
 c3:=[]
 cR:=b2
 cN:=.cA (.J (.cB (.hK (.J (.gA (.b0 ar (.b5 8) (.J (.bW 1) .N))) (.J (.gA (.b7 (.Z 0) (.J .gm (.bW 1) (.J .jL (.b0 ar (.b5 12) (.J (.bY (.bY (.bW 0) "code") "rows") .N)) .N)))) .N))) (.J (.df .sN)
 .N) .N)
 (.J (.ch 4 (.cL (.bY (.bW 0) "depths") (.bW 1)))
 (.J (.cB (.b7 (.bW 4) (.J .wb .bX .N)) (.J (.jc (.bY (.bW 0) "depths") (.bW 1) (.bW 2))
 (.J (.df (.eQ (.bY (.bW 0) "waiting") "append" (.J (.bW 1) .N)))
 .N)) (.J (.cB (.b7 (.bW 4) (.J .ne (.bW 2) .N)) (.J (.df .sN)
 .N) .N)
 .N))
 .N)))
noncomputable def oD:cW:=(.J (.cB (.gA (.b0 ar (.b5 14) (.J (.bW 2) (.J (.bW 6) (.J (.cL (.bW 4) (.bW 5)) .N))))) (.J (.df .sN)
 .N) .N)
 .N)
noncomputable def oE:cv:=.eh ar (.bW 7) (.J [7] b2 (.cE (.fP ar (.bW 4) (.b0 ar (.b5 12) (.J (.bW 3) .N)) .bX)) (.J (.b7 (.bW 7) (.J (.oc ()) .bX .N)) .N) .N)
def qq:dz where
 cJ:="need_form"
 b9:=3
 cn:=["self","place","row","letters","told","at","letter","value"]
 c3:=[]
 cR:=b2
 cN:=.cA (.J (.cB (.hK (.J (.gA (.b0 ar (.b5 3) (.J (.bW 2) (.J (.b5 0) .N)))) (.J (.gA (.b0 ar (.b5 3) (.J (.bY (.bW 2) "op") (.J (.b5 7) .N)))) (.J (.b7 (.bY (.bW 2) "op") (.J .fY (.b5 2) .N)) .N)))) (.J (.df .sN)
 .N) .N)
 (.J (.ep [3,4] (.J (.eQ (.b5 13) "get" (.J (.bY (.bW 2) "op") (.J (.ad "") .N))) (.J (.cQ (.J (.bY (.bW 2) "a") (.J (.bY (.bW 2) "b") (.J (.bY (.bW 2) "c") .N)))) .N)))
 (.J (.fT [5,6] ar (.yC (.bW 3)) oD)
 (.J (.cB (.b7 oE (.J .ne (.a3 ar .N) .N)) (.J (.df .sN)
 .N) .N)
 (.J (.cB (.ev (.J (.b7 (.bY (.bW 2) "op") (.J .ft (.b5 15) .N)) (.J (.b7 (.bY (.bW 2) "a") (.J .mC (.b0 ar (.b5 12) (.J (.bY (.bY (.bW 0) "code") "rows") .N)) .N)) .N))) (.J (.df .sN)
 .N) .N)
 .N)))))
noncomputable def p4:dz where
 cJ:="need_slots"
 b9:=3
 cn:=["self","place","row"]
 c3:=[]
 cR:=b2
 cN:=.cA (.J (.cB (.hK (.J (.b7 (.bY (.bW 2) "a") (.J .mC (.b0 ar (.b5 12) (.J (.bY (.bW 0) "seen") .N)) .N)) (.J (.b7 (.bY (.bW 2) "b") (.J .mC (.b0 ar (.b5 12) (.J (.bY (.cL (.bY (.bW 0) "seen") (.bY (.bW 2) "a")) "slots") .N)) .N)) .N))) (.J (.df .sN)
 .N) .N)
 .N)
noncomputable def p5:dz where
 cJ:="need_child"
 b9:=3
 cn:=["self","place","row","told","index","kind"]
 c3:=[]
 cR:=b2
 cN:=.cA (.J (.ch 3 (.b0 ar (.b5 16) (.J (.bW 2) .N)))
 (.J (.cB (.b7 (.bW 3) (.J (.oc ()) .bX .N)) (.J (.i0 [4,5] (.bW 3))
 (.J (.cB (.hK (.J (.gA (.b7 (.Z 0) (.J .gm (.bW 4) (.J .jL (.b0 ar (.b5 12) (.J (.bY (.bY (.bW 0) "code") "children") .N)) .N)))) (.J (.b7 (.bY (.cL (.bY (.bY (.bW 0) "code") "children") (.bW 4)) "kind") (.J .ne (.bW 5) .N)) .N))) (.J (.df .sN)
 .N) .N)
 .N)) .N)
 .N))
noncomputable def jO:cW:=(.J (.cB (.eQ (.bW 2) "covers" (.J (.bW 1) .N)) (.J (.cB (.b7 (.bW 4) (.J .jL (.bY (.bW 2) "depth") .N)) (.J (.df .sN)
 .N) .N)
 (.J (.df (.eQ (.bW 0) "reach" (.J (.bY (.bW 2) "target") (.J (.eD ar .dc (.bY (.bW 2) "depth") (.Z 1)) (.J (.bW 1) .N)))))
 .N)) .N)
 .N)
def lB:dz where
 cJ:="step"
 b9:=2
 cn:=["self","place","one","row","depth","taken","put"]
 c3:=[]
 cR:=b2
 cN:=.cA (.J (.ep [3,4] (.J (.cL (.bY (.bY (.bW 0) "code") "rows") (.bW 1)) (.J (.cL (.bY (.bW 0) "depths") (.bW 1)) .N)))
 (.J (.i0 [5,6] (.b0 ar (.b5 17) (.J (.bW 3) .N)))
 (.J (.cB (.b7 (.bW 4) (.J .jL (.bW 5) .N)) (.J (.df .sN)
 .N) .N)
 (.J (.cB (.b7 (.bY (.bW 3) "op") (.J .ft (.b5 15) .N)) (.J (.df (.eQ (.bW 0) "reach" (.J (.bY (.bW 3) "a") (.J (.eD ar .dc (.eD ar .fw (.bW 4) (.bW 5)) (.bW 6)) (.J (.bW 1) .N)))))
 .N) .N)
 (.J (.cB (.b7 (.bY (.bW 3) "op") (.J .fY (.b5 18) .N)) (.J (.df (.eQ (.bW 0) "reach" (.J (.eD ar .dc (.bW 1) (.Z 1)) (.J (.eD ar .dc (.eD ar .fw (.bW 4) (.bW 5)) (.bW 6)) (.J (.bW 1) .N)))))
 .N) .N)
 (.J (.fT [2] b2 (.cE (.bY (.bY (.bW 0) "code") "catches")) jO)
 .N))))))
noncomputable def m0:cv:=.eh ar (.b0 ar (.b5 8) (.J (.bW 4) .N)) (.J [4] b2 (.cE (.bW 3)) .N .N)
def m1:cW:=(.J (.ch 2 (.b0 ar (.b5 12) (.J (.bY (.bY (.bW 0) "code") "rows") .N)))
 (.J (.ch 3 (.fx (.b0 ar (.b5 3) (.J (.bW 1) (.J (.b5 19) .N))) (.a3 ar (.J (.bY (.bW 1) "first") (.J (.bY (.bW 1) "last") (.J (.bY (.bW 1) "target") (.J (.bY (.bW 1) "depth") .N))))) (.a3 ar (.J .bX .N))))
 (.J (.cB (.hK (.J (.b7 (.b3 b2) (.J .ft m0 .N)) (.J (.b7 (.bY (.bW 1) "sort") (.J .fY (.b5 20) .N)) (.J (.gA (.b7 (.Z 0) (.J .gm (.cL (.bW 3) (.Z 0)) (.J .jL (.cL (.bW 3) (.Z 1)) (.J .gm (.bW 2) .N))))) .N)))) (.J .sN
 .N) .N)
 (.J (.cB (.hK (.J (.gA (.b7 (.Z 0) (.J .gm (.bY (.bW 1) "target") (.J .jL (.bW 2) .N)))) (.J (.b7 (.bY (.bW 1) "depth") (.J .jL (.Z 0) .N)) .N))) (.J .sN
 .N) .N)
 .N))))
def oF:dz where
 cJ:="need_catches"
 b9:=1
 cn:=["self","one","many","at","n"]
 c3:=[]
 cR:=b2
 cN:=.cA (.J (.fT [1] b2 (.cE (.bY (.bY (.bW 0) "code") "catches")) m1)
 .N)
noncomputable def sP:cW:=(.J (.df (.eQ (.bW 0) "need_form" (.J (.bW 2) (.J (.bW 3) .N))))
 (.J (.cB (.b7 (.bY (.bW 3) "op") (.J .ft (.cQ (.J (.ad "getl") (.J (.ad "setl") .N))) .N)) (.J (.df (.eQ (.bW 0) "need_slots" (.J (.bW 2) (.J (.bW 3) .N))))
 .N) .N)
 (.J (.df (.eQ (.bW 0) "need_child" (.J (.bW 2) (.J (.bW 3) .N))))
 .N)))
noncomputable def sQ:cW:=(.J (.df (.eQ (.bW 0) "reach" (.J (.bW 1) (.J (.Z 0) (.J (.bW 1) .N)))))
 .N)
noncomputable def sR:cv:=(.b7 (.b0 ar (.b5 12) (.J (.bY (.bW 0) "waiting") .N)) (.J .tq (.Z 0) .N))
noncomputable def sS:cW:=(.J (.df (.eQ (.bW 0) "step" (.J (.eQ (.bY (.bW 0) "waiting") "pop" .N) .N)))
 .N)
def wT:dz where
 cJ:="run"
 b9:=1
 cn:=["self","start","place","row"]
 c3:=[]
 cR:=b2
 cN:=.cA (.J (.cB (.hK (.J (.b7 (.bY (.bY (.bW 0) "code") "kind") (.J .fY (.b5 21) .N)) (.J (.b7 (.b0 ar (.b5 12) (.J (.bY (.bY (.bW 0) "code") "starts") .N)) (.J .cZ (.Z 0) .N)) .N))) (.J .sN
 .N) .N)
 (.J (.fT [2,3] ar (.yC (.bY (.bY (.bW 0) "code") "rows")) sP)
 (.J (.df (.eQ (.bW 0) "need_catches" .N))
 (.J (.fT [1] b2 (.cE (.bY (.bY (.bW 0) "code") "starts")) sQ)
 (.J (.p8 1000 sR sS)
 .N)))))
noncomputable def vq:cv:=.eh ar (.bW 4) (.J [4] b2 (.cE (.bY (.bW 0) "children")) (.J (.gA (.b0 ar (.b5 3) (.J (.bW 4) (.J (.b5 1) .N)))) .N) .N)
noncomputable def vr:cW:=(.J (.df (.b0 ar (.b5 23) (.J (.bW 3) (.J (.fx (.b7 (.bY (.bW 3) "kind") (.J .cZ (.ad "block") .N)) (.bY (.bW 2) "seen") (.cQ .N)) .N))))
 .N)
def sD:dz where
 cJ:="check_rows"
 b9:=2
 cn:=["code","outer","check","child","child"]
 c3:=[(.cQ [])]
 cR:=b2
 cN:=.cA (.J (.ch 2 (.b0 ar (.b5 22) (.J (.bW 0) (.J (.bW 1) .N))))
 (.J (.cB (.b7 vq (.J .ne (.a3 ar .N) .N)) (.J .sN
 .N) .N)
 (.J (.df (.eQ (.bW 2) "run" .N))
 (.J (.fT [3] b2 (.cE (.bY (.bW 0) "children")) vr)
 (.J (.cw (.pR (.bY (.bW 2) "depths")))
 .N)))))
noncomputable def Oi:dz where
 cJ:="is_op"
 b9:=2
 cn:=["row","ops"]
 c3:=[]
 cR:=b2
 cN:=.cA (.J (.cw (.ev (.J (.b7 (.bW 0) (.J (.oc ()) .bX .N)) (.J (.b7 (.bY (.bW 0) "op") (.J .ft (.bW 1) .N)) .N))))
 .N)
noncomputable def Oj:dz where
 cJ:="truth"
 b9:=1
 cn:=["value"]
 c3:=[]
 cR:=b2
 cN:=.cA (.J (.cw (.ev (.J (.b7 (.bW 0) (.J (.oc ()) .bX .N)) (.J (.gA (.ev (.J (.b0 ar (.b5 3) (.J (.bW 0) (.J (.b5 6) .N))) (.J (.gA (.bW 0)) .N)))) .N))))
 .N)
noncomputable def yD:cW:=(.J (.cB (.b7 (.bY (.bW 2) "op") (.J .ft (.b5 15) .N)) (.J (.jc (.bW 1) (.bY (.bW 2) "a") (.b3 ar))
 .N) .N)
 .N)
noncomputable def yE:cW:=(.J (.jc (.bW 1) (.bY (.bW 3) "target") (.b3 ar))
 .N)
noncomputable def yF:cW:=(.J (.jc (.bW 1) (.bW 4) (.b3 ar))
 .N)
def EO:dz where
 cJ:="marks_of"
 b9:=1
 cn:=["code","found","row","one","start"]
 c3:=[]
 cR:=b2
 cN:=.cA (.J (.ch 1 (.eD b2 .kF (.a3 ar (.J (.b3 b2) .N)) (.eD ar .dc (.b0 ar (.b5 12) (.J (.bY (.bW 0) "rows") .N)) (.Z 1))))
 (.J (.fT [2] b2 (.cE (.bY (.bW 0) "rows")) yD)
 (.J (.fT [3] b2 (.cE (.bY (.bW 0) "catches")) yE)
 (.J (.fT [4] b2 (.cE (.bY (.bW 0) "starts")) yF)
 (.J (.cw (.pR (.bW 1)))
 .N)))))
noncomputable def zO:cW:=(.J (.df (.eQ (.bW 6) "append" (.J (.b0 ar (.b5 12) (.J (.bW 3) .N)) .N)))
 (.J (.cB (.b7 (.bW 2) (.J (.oc ()) .bX .N)) (.J (.df (.eQ (.bW 3) "append" (.J (.bW 2) .N)))
 .N) .N)
 .N))
noncomputable def zP:cv:=.eh b2 (.fx (.b7 (.bY (.bW 9) "op") (.J .ft (.b5 15) .N)) (.eQ (.bW 9) "with_target" (.J (.cL (.bW 6) (.bY (.bW 9) "a")) .N)) (.bW 9)) (.J [9] b2 (.cE (.pR (.bW 3))) .N .N)
noncomputable def zQ:cW:=(.J (.ep [7,8] (.J (.cL (.bW 6) (.bY (.bW 5) "first")) (.J (.cL (.bW 6) (.bY (.bW 5) "last")) .N)))
 (.J (.cB (.b7 (.bW 7) (.J .jL (.bW 8) .N)) (.J (.df (.eQ (.bW 4) "append" (.J (.b0 ar (.b5 19) (.J (.bY (.bW 5) "sort") (.J (.bW 7) (.J (.bW 8) (.J (.cL (.bW 6) (.bY (.bW 5) "target")) (.J (.bY (.bW 5) "depth") .N)))))) .N)))
 .N) .N)
 .N))
noncomputable def zR:cv:=.eh ar (.cL (.bW 6) (.bW 10)) (.J [10] b2 (.cE (.bY (.bW 0) "starts")) .N .N)
def HD:dz where
 cJ:="pressed"
 b9:=2
 cn:=["code","rows","row","kept","catches","one","places","first","last","row","start"]
 c3:=[]
 cR:=b2
 cN:=.cA (.J (.ep [6,3] (.J (.a3 b2 .N) (.J (.a3 b2 .N) .N)))
 (.J (.fT [2] b2 (.cE (.bW 1)) zO)
 (.J (.df (.eQ (.bW 6) "append" (.J (.b0 ar (.b5 12) (.J (.bW 3) .N)) .N)))
 (.J (.ch 3 zP)
 (.J (.ch 4 (.a3 b2 .N))
 (.J (.fT [5] b2 (.cE (.bY (.bW 0) "catches")) zQ)
 (.J (.cw (.eQ (.bW 0) "with_rows" (.J (.pR (.bW 3)) (.J (.pR (.bW 4)) (.J zR (.J (.bY (.bW 0) "children") .N))))))
 .N)))))))
noncomputable def nu:cW:=(.J (.cB (.b7 (.bY (.cL (.bY (.bW 0) "rows") (.bW 2)) "op") (.J .ne (.ad "jump") .N)) (.J (.cw (.bW 2))
 .N) .N)
 (.J (.ch 2 (.bY (.cL (.bY (.bW 0) "rows") (.bW 2)) "a"))
 .N))
def wU:dz where
 cJ:="end_of_jumps"
 b9:=2
 cn:=["code","place","found","turn"]
 c3:=[]
 cR:=b2
 cN:=.cA (.J (.ch 2 (.bW 1))
 (.J (.fT [3] b2 (.gb (.b0 ar (.b5 12) (.J (.bY (.bW 0) "rows") .N))) nu)
 (.J (.cw (.bW 1))
 .N)))
noncomputable def yG:cW:=(.J (.cB (.b7 (.bY (.bW 2) "op") (.J .fY (.b5 15) .N)) (.J (.df (.eQ (.bW 1) "append" (.J (.bW 2) .N)))
 (.J .gX
 .N)) .N)
 (.J (.ch 3 (.b0 ar (.b5 24) (.J (.bW 0) (.J (.bY (.bW 2) "a") .N))))
 (.J (.cB (.ev (.J (.b7 (.bY (.bW 2) "op") (.J .cZ (.ad "jump") .N)) (.J (.b7 (.bY (.cL (.bY (.bW 0) "rows") (.bW 3)) "op") (.J .cZ (.ad "leave") .N)) .N))) (.J (.df (.eQ (.bW 1) "append" (.J (.b0 ar (.b5 0) (.J (.ad "leave") (.J .bX (.J .bX (.J .bX (.J (.bY (.bW 2) "line") .N)))))) .N)))
 .N) (.J (.df (.eQ (.bW 1) "append" (.J (.eQ (.bW 2) "with_target" (.J (.bW 3) .N)) .N)))
 .N))
 .N)))
def EP:dz where
 cJ:="threaded"
 b9:=1
 cn:=["code","rows","row","target"]
 c3:=[]
 cR:=b2
 cN:=.cA (.J (.ch 1 (.a3 b2 .N))
 (.J (.fT [2] b2 (.cE (.bY (.bW 0) "rows")) yG)
 (.J (.cw (.b0 ar (.b5 25) (.J (.bW 0) (.J (.pR (.bW 1)) .N))))
 .N)))
noncomputable def zS:cv:=(.b7 (.b0 ar (.b5 12) (.J (.bW 2) .N)) (.J .tq (.Z 0) .N))
noncomputable def lF:cW:=(.J (.cB (.eQ (.bW 5) "covers" (.J (.bW 3) .N)) (.J (.df (.eQ (.bW 2) "append" (.J (.bY (.bW 5) "target") .N)))
 .N) .N)
 .N)
def zT:cW:=(.J (.ch 3 (.eQ (.bW 2) "pop" .N))
 (.J (.cB (.cL (.bW 1) (.bW 3)) (.J .gX
 .N) .N)
 (.J (.jc (.bW 1) (.bW 3) (.b3 ar))
 (.J (.ch 4 (.cL (.bY (.bW 0) "rows") (.bW 3)))
 (.J (.cB (.b7 (.bY (.bW 4) "op") (.J .ft (.b5 15) .N)) (.J (.df (.eQ (.bW 2) "append" (.J (.bY (.bW 4) "a") .N)))
 .N) .N)
 (.J (.cB (.b7 (.bY (.bW 4) "op") (.J .fY (.b5 18) .N)) (.J (.df (.eQ (.bW 2) "append" (.J (.eD ar .dc (.bW 3) (.Z 1)) .N)))
 .N) .N)
 (.J (.fT [5] b2 (.cE (.bY (.bW 0) "catches")) lF)
 .N)))))))
def HE:dz where
 cJ:="reached"
 b9:=1
 cn:=["code","found","waiting","place","row","one"]
 c3:=[]
 cR:=b2
 cN:=.cA (.J (.ch 1 (.eD b2 .kF (.a3 ar (.J (.b3 b2) .N)) (.b0 ar (.b5 12) (.J (.bY (.bW 0) "rows") .N))))
 (.J (.ch 2 (.b0 b2 (.b5 9) (.J (.bY (.bW 0) "starts") .N)))
 (.J (.p8 1000 zS zT)
 (.J (.cw (.pR (.bW 1)))
 .N))))
noncomputable def sT:cv:=.eh ar (.fx (.bW 2) (.bW 1) .bX) (.J [1,2] ar (.zt (.bY (.bW 0) "rows") (.b0 ar (.b5 26) (.J (.bW 0) .N))) .N .N)
def wV:dz where
 cJ:="without_dead"
 b9:=1
 cn:=["code","row","here"]
 c3:=[]
 cR:=b2
 cN:=.cA (.J (.cw (.b0 ar (.b5 25) (.J (.bW 0) (.J sT .N))))
 .N)
noncomputable def rM:cW:=(.J (.cB (.ev (.J (.b0 ar (.b5 28) (.J (.cL (.bW 2) (.bW 1)) (.J (.b5 29) .N))) (.J (.b0 ar (.b5 28) (.J (.cL (.bW 2) (.eD ar .dc (.bW 1) (.Z 1))) (.J (.cQ (.J (.ad "pop") .N)) .N))) (.J (.gA (.cL (.bW 3) (.eD ar .dc (.bW 1) (.Z 1)))) .N)))) (.J (.oW (.bW 2) (.bW 1) (.bW 2) (.eD ar .dc (.bW 1) (.Z 1)) .bX .bX)
 .N) .N)
 .N)
def uE:dz where
 cJ:="without_pushes"
 b9:=1
 cn:=["code","place","rows","marks"]
 c3:=[]
 cR:=b2
 cN:=.cA (.J (.ep [2,3] (.J (.b0 b2 (.b5 9) (.J (.bY (.bW 0) "rows") .N)) (.J (.b0 ar (.b5 27) (.J (.bW 0) .N)) .N)))
 (.J (.fT [1] b2 (.gb (.eD ar .fw (.b0 ar (.b5 12) (.J (.bW 2) .N)) (.Z 1))) rM)
 (.J (.cw (.b0 ar (.b5 25) (.J (.bW 0) (.J (.pR (.bW 2)) .N))))
 .N)))
noncomputable def rN:cW:=(.J (.cB (.ev (.J (.b0 ar (.b5 28) (.J (.cL (.bW 2) (.bW 1)) (.J (.cQ (.J (.ad "dup") .N)) .N))) (.J (.b0 ar (.b5 28) (.J (.cL (.bW 2) (.eD ar .dc (.bW 1) (.Z 1))) (.J (.b5 30) .N))) (.J (.b0 ar (.b5 28) (.J (.cL (.bW 2) (.eD ar .dc (.bW 1) (.Z 2))) (.J (.cQ (.J (.ad "pop") .N)) .N))) .N)))) (.J (.cB (.ev (.J (.gA (.cL (.bW 3) (.eD ar .dc (.bW 1) (.Z 1)))) (.J (.gA (.cL (.bW 3) (.eD ar .dc (.bW 1) (.Z 2)))) .N))) (.J (.oW (.bW 2) (.bW 1) (.bW 2) (.eD ar .dc (.bW 1) (.Z 2)) .bX .bX)
 .N) .N)
 .N) .N)
 .N)
def uF:dz where
 cJ:="without_copies"
 b9:=1
 cn:=["code","place","rows","marks"]
 c3:=[]
 cR:=b2
 cN:=.cA (.J (.ep [2,3] (.J (.b0 b2 (.b5 9) (.J (.bY (.bW 0) "rows") .N)) (.J (.b0 ar (.b5 27) (.J (.bW 0) .N)) .N)))
 (.J (.fT [1] b2 (.gb (.eD ar .fw (.b0 ar (.b5 12) (.J (.bW 2) .N)) (.Z 2))) rN)
 (.J (.cw (.b0 ar (.b5 25) (.J (.bW 0) (.J (.pR (.bW 2)) .N))))
 .N)))
noncomputable def EQ:dz where
 cJ:="is_taken"
 b9:=2
 cn:=["branch","value"]
 c3:=[]
 cR:=b2
 cN:=.cA (.J (.cw (.b7 (.b0 ar (.b5 31) (.J (.bW 1) .N)) (.J .cZ (.b7 (.bY (.bW 0) "op") (.J .cZ (.ad "jumpif") .N)) .N)))
 .N)
noncomputable def n4:cW:=(.J (.ep [4,5] (.J (.cL (.bW 2) (.bW 1)) (.J (.cL (.bW 2) (.eD ar .dc (.bW 1) (.Z 1))) .N)))
 (.J (.cB (.hK (.J (.gA (.b0 ar (.b5 28) (.J (.bW 4) (.J (.cQ (.J (.ad "push") .N)) .N)))) (.J (.b7 (.bW 5) (.J .wb .bX .N)) (.J (.cL (.bW 3) (.eD ar .dc (.bW 1) (.Z 1))) .N)))) (.J .gX
 .N) .N)
 (.J (.cB (.b7 (.bY (.bW 5) "op") (.J .ft (.b5 32) .N)) (.J (.ch 6 (.b0 ar (.b5 33) (.J (.bW 5) (.J (.bY (.bW 4) "a") .N))))
 (.J (.jc (.bW 2) (.bW 1) .bX)
 (.J (.jc (.bW 2) (.eD ar .dc (.bW 1) (.Z 1)) (.fx (.bW 6) (.b0 ar (.b5 0) (.J (.ad "jump") (.J (.bY (.bW 5) "a") (.J .bX (.J .bX (.J (.bY (.bW 5) "line") .N)))))) .bX))
 .N))) (.J (.cB (.ev (.J (.b7 (.bY (.bW 5) "op") (.J .cZ (.ad "jump") .N)) (.J (.b7 (.bY (.cL (.bY (.bW 0) "rows") (.bY (.bW 5) "a")) "op") (.J .ft (.b5 32) .N)) .N))) (.J (.ch 7 (.cL (.bY (.bW 0) "rows") (.bY (.bW 5) "a")))
 (.J (.ch 8 (.fx (.b0 ar (.b5 33) (.J (.bW 7) (.J (.bY (.bW 4) "a") .N))) (.bY (.bW 7) "a") (.eD ar .dc (.bY (.bW 5) "a") (.Z 1))))
 (.J (.jc (.bW 2) (.bW 1) .bX)
 (.J (.jc (.bW 2) (.eD ar .dc (.bW 1) (.Z 1)) (.eQ (.bW 5) "with_target" (.J (.bW 8) .N)))
 .N)))) .N)
 .N))
 .N)))
def p6:dz where
 cJ:="with_known_branches"
 b9:=1
 cn:=["code","place","rows","marks","row","behind","taken","branch","target"]
 c3:=[]
 cR:=b2
 cN:=.cA (.J (.ep [2,3] (.J (.b0 b2 (.b5 9) (.J (.bY (.bW 0) "rows") .N)) (.J (.b0 ar (.b5 27) (.J (.bW 0) .N)) .N)))
 (.J (.fT [1] b2 (.gb (.eD ar .fw (.b0 ar (.b5 12) (.J (.bW 2) .N)) (.Z 1))) n4)
 (.J (.cw (.b0 ar (.b5 25) (.J (.bW 0) (.J (.pR (.bW 2)) .N))))
 .N)))
noncomputable def nM:cW:=(.J (.ep [4,5] (.J (.cL (.bW 2) (.bW 1)) (.J (.cL (.bW 2) (.eD ar .dc (.bW 1) (.Z 1))) .N)))
 (.J (.cB (.ev (.J (.b0 ar (.b5 28) (.J (.bW 4) (.J (.b5 32) .N))) (.J (.b0 ar (.b5 28) (.J (.bW 5) (.J (.cQ (.J (.ad "jump") .N)) .N))) (.J (.b7 (.bY (.bW 4) "a") (.J .cZ (.eD ar .dc (.bW 1) (.Z 2)) .N)) (.J (.gA (.cL (.bW 3) (.eD ar .dc (.bW 1) (.Z 1)))) .N))))) (.J (.ch 6 (.fx (.b7 (.bY (.bW 4) "op") (.J .cZ (.ad "jumpif") .N)) (.ad "jumpunless") (.ad "jumpif")))
 (.J (.oW (.bW 2) (.bW 1) (.bW 2) (.eD ar .dc (.bW 1) (.Z 1)) (.b0 ar (.b5 0) (.J (.bW 6) (.J (.bY (.bW 5) "a") (.J .bX (.J .bX (.J (.bY (.bW 4) "line") .N)))))) .bX)
 .N)) .N)
 .N))
def pe:dz where
 cJ:="with_turned_branches"
 b9:=1
 cn:=["code","place","rows","marks","row","behind","op"]
 c3:=[]
 cR:=b2
 cN:=.cA (.J (.ep [2,3] (.J (.b0 b2 (.b5 9) (.J (.bY (.bW 0) "rows") .N)) (.J (.b0 ar (.b5 27) (.J (.bW 0) .N)) .N)))
 (.J (.fT [1] b2 (.gb (.eD ar .fw (.b0 ar (.b5 12) (.J (.bW 2) .N)) (.Z 1))) nM)
 (.J (.cw (.b0 ar (.b5 25) (.J (.bW 0) (.J (.pR (.bW 2)) .N))))
 .N)))
noncomputable def n5:cW:=(.J (.cB (.ev (.J (.b7 (.bY (.bW 3) "op") (.J .ft (.b5 15) .N)) (.J (.b7 (.bY (.bW 3) "a") (.J .cZ (.eD ar .dc (.bW 2) (.Z 1)) .N)) .N))) (.J (.df (.eQ (.bW 1) "append" (.J (.fx (.b7 (.bY (.bW 3) "op") (.J .ft (.b5 32) .N)) (.b0 ar (.b5 0) (.J (.ad "pop") (.J .bX (.J .bX (.J .bX (.J (.bY (.bW 3) "line") .N)))))) .bX) .N)))
 .N) (.J (.df (.eQ (.bW 1) "append" (.J (.bW 3) .N)))
 .N))
 .N)
def p7:dz where
 cJ:="without_short_jumps"
 b9:=1
 cn:=["code","rows","place","row"]
 c3:=[]
 cR:=b2
 cN:=.cA (.J (.ch 1 (.a3 b2 .N))
 (.J (.fT [2,3] ar (.yC (.bY (.bW 0) "rows")) n5)
 (.J (.cw (.b0 ar (.b5 25) (.J (.bW 0) (.J (.pR (.bW 1)) .N))))
 .N)))
noncomputable def sj:cW:=(.J (.cB (.hK (.J (.gA (.b0 ar (.b5 28) (.J (.cL (.bW 2) (.eD ar .dc (.bW 1) (.Z 1))) (.J (.cQ (.J (.ad "swap") .N)) .N)))) (.J (.cL (.bW 3) (.eD ar .dc (.bW 1) (.Z 1))) .N))) (.J .gX
 .N) .N)
 (.J (.cB (.b0 ar (.b5 28) (.J (.cL (.bW 2) (.bW 1)) (.J (.cQ (.J (.ad "swap") .N)) .N))) (.J (.oW (.bW 2) (.bW 1) (.bW 2) (.eD ar .dc (.bW 1) (.Z 1)) .bX .bX)
 .N) (.J (.cB (.b0 ar (.b5 28) (.J (.cL (.bW 2) (.bW 1)) (.J (.cQ (.J (.ad "dup") .N)) .N))) (.J (.jc (.bW 2) (.eD ar .dc (.bW 1) (.Z 1)) .bX)
 .N) .N)
 .N))
 .N))
def vt:dz where
 cJ:="without_swaps"
 b9:=1
 cn:=["code","place","rows","marks"]
 c3:=[]
 cR:=b2
 cN:=.cA (.J (.ep [2,3] (.J (.b0 b2 (.b5 9) (.J (.bY (.bW 0) "rows") .N)) (.J (.b0 ar (.b5 27) (.J (.bW 0) .N)) .N)))
 (.J (.fT [1] b2 (.gb (.eD ar .fw (.b0 ar (.b5 12) (.J (.bW 2) .N)) (.Z 1))) sj)
 (.J (.cw (.b0 ar (.b5 25) (.J (.bW 0) (.J (.pR (.bW 2)) .N))))
 .N)))
noncomputable def ER:cv:=.eh ar (.cQ (.J (.bY (.bW 1) "op") (.J (.bY (.bW 1) "a") (.J (.bY (.bW 1) "b") (.J (.bY (.bW 1) "c") .N))))) (.J [1] b2 (.cE (.bY (.bW 0) "rows")) .N .N)
def Ok:dz where
 cJ:="shape"
 b9:=1
 cn:=["code","row"]
 c3:=[]
 cR:=b2
 cN:=.cA (.J (.cw ER)
 .N)
noncomputable def sU:cW:=(.J (.ch 0 (.b0 ar (.bW 4) (.J (.bW 0) .N)))
 .N)
def iJ:cW:=(.J (.ch 2 (.b0 ar (.b5 35) (.J (.bW 0) .N)))
 (.J (.fT [3,4] ar (.cE (.b5 36)) sU)
 (.J (.cB (.b7 (.b0 ar (.b5 35) (.J (.bW 0) .N)) (.J .cZ (.bW 2) .N)) (.J (.cw (.bW 0))
 .N) .N)
 .N)))
def wW:dz where
 cJ:="tidied_alone"
 b9:=1
 cn:=["code","turn","before","name","step"]
 c3:=[]
 cR:=b2
 cN:=.cA (.J (.fT [1] b2 (.gb (.b5 34)) iJ)
 (.J (.cw (.bW 0))
 .N))
noncomputable def HF:cv:=.eh ar (.b0 ar (.b5 38) (.J (.bW 2) .N)) (.J [2] b2 (.cE (.bY (.bW 1) "children")) .N .N)
def Rb:dz where
 cJ:="tidy"
 b9:=1
 cn:=["code","found","child"]
 c3:=[]
 cR:=b2
 cN:=.cA (.J (.ch 1 (.b0 ar (.b5 37) (.J (.bW 0) .N)))
 (.J (.cw (.eQ (.bW 1) "with_rows" (.J (.bY (.bW 1) "rows") (.J (.bY (.bW 1) "catches") (.J (.bY (.bW 1) "starts") (.J HF .N))))))
 .N))
noncomputable def vv:cW:=(.J (.cB (.b7 (.bW 1) (.J .cZ (.bW 0) .N)) (.J (.cw (.bW 2))
 .N) .N)
 .N)
def zU:dz where
 cJ:="pass_named"
 b9:=1
 cn:=["name","told","step"]
 c3:=[]
 cR:=b2
 cN:=.cA (.J (.fT [1,2] ar (.cE (.b5 36)) vv)
 (.J (.cw .bX)
 .N))
noncomputable def wX:cW:=(.J (.ch 3 (.b0 ar (.b5 39) (.J (.bW 2) .N)))
 (.J (.cB (.b7 (.bW 3) (.J (.oc ()) .bX .N)) (.J (.ch 0 (.b0 ar (.bW 3) (.J (.bW 0) .N)))
 .N) .N)
 .N))
noncomputable def wY:cv:=.eh ar (.b0 ar (.b5 40) (.J (.bW 4) (.J (.bW 1) .N))) (.J [4] b2 (.cE (.bY (.bW 0) "children")) .N .N)
def CD:dz where
 cJ:="passed_by"
 b9:=2
 cn:=["code","names","name","step","child"]
 c3:=[]
 cR:=b2
 cN:=.cA (.J (.fT [2] b2 (.cE (.bW 1)) wX)
 (.J (.cw (.eQ (.bW 0) "with_rows" (.J (.bY (.bW 0) "rows") (.J (.bY (.bW 0) "catches") (.J (.bY (.bW 0) "starts") (.J wY .N))))))
 .N))
noncomputable def zV:cv:=.eh ar (.eD ar .fw (.bW 4) (.eD ar (.sd ()) (.Z 10) (.Z 18))) (.J [4] b2 (.cE (.fP ar (.bW 0) .bX (.Z 1))) .N .N)
noncomputable def zW:cW:=(.J (.ch 3 (.eD ar .qK (.eD ar .dc (.eD ar .kF (.bW 3) (.Z 48271)) (.bW 1)) (.Z 2147483629)))
 .N)
def HG:dz where
 cJ:="_law_box"
 b9:=1
 cn:=["script","cell","great","seed","cell"]
 c3:=[]
 cR:=ar
 cN:=.cA (.J (.ep [2,3] (.J (.eD ar .qK (.b0 ar (.b5 41) (.J (.eD ar .dc (.a3 ar (.J (.Z 0) .N)) zV) .N)) (.eD ar (.sd ()) (.Z 10) (.Z 90))) (.J (.Z 33023) .N)))
 (.J (.fT [1] b2 (.cE (.fP ar (.bW 0) .bX (.Z 24))) zW)
 (.J (.cw (.a3 b2 (.J (.bW 2) (.J (.bW 3) (.J (.Z 0) (.J (.hK (.J (.b7 (.bW 0) (.J .cZ (.a3 ar .N) .N)) (.J (.ev (.J (.b7 (.b0 ar (.b5 12) (.J (.bW 0) .N)) (.J .cZ (.Z 1) .N)) (.J (.b7 (.b0 ar (.b5 42) (.J (.cL (.bW 0) (.Z 0)) .N)) (.J .jL (.Z 10) .N)) .N))) .N))) .N))))))
 .N)))
noncomputable def ES:dz where
 cJ:="_law_take"
 b9:=2
 cn:=["box","many","blend","digit"]
 c3:=[]
 cR:=b2
 cN:=.cA (.J (.cB (.b7 (.cL (.bW 0) (.Z 0)) (.J .tq (.Z 0) .N)) (.J (.ch 3 (.eD ar .qK (.cL (.bW 0) (.Z 0)) (.bW 1)))
 (.J (.jc (.bW 0) (.Z 0) (.eD ar .ua (.cL (.bW 0) (.Z 0)) (.bW 1)))
 (.J (.cw (.bW 3))
 .N))) .N)
 (.J (.jc (.bW 0) (.Z 2) (.eD ar .dc (.cL (.bW 0) (.Z 2)) (.Z 1)))
 (.J (.ch 2 (.eD ar .qK (.eD ar (.sd ()) (.eD ar .dc (.eD ar .dc (.cL (.bW 0) (.Z 1)) (.eD ar .kF (.Z 40169) (.cL (.bW 0) (.Z 2)))) (.Z 7)) (.Z 5)) (.Z 2147483647)))
 (.J (.ch 2 (.eD ar .qK (.eD ar (.sd ()) (.eD ar .dc (.bW 2) (.eD ar .kF (.Z 93001) (.cL (.bW 0) (.Z 2)))) (.Z 3)) (.Z 2147483587)))
 (.J (.cw (.eD ar .qK (.eD ar .ua (.bW 2) (.Z 16)) (.bW 1)))
 .N)))))
noncomputable def CE:dz where
 cJ:="_law_known"
 b9:=1
 cn:=["box"]
 c3:=[]
 cR:=b2
 cN:=.cA (.J (.cw (.cQ (.J (.ad "push") (.J (.cL (.a3 ar (.J .bX (.J (.b3 ar) (.J (.b3 b2) (.J (.Z 0) (.J (.Z 5) (.J (.ad "s") .N))))))) (.b0 ar (.b5 43) (.J (.bW 0) (.J (.Z 6) .N)))) (.J .bX .N)))))
 .N)
noncomputable def HH:dz where
 cJ:="_law_put"
 b9:=2
 cn:=["box","deep","op"]
 c3:=[]
 cR:=b2
 cN:=.cA (.J (.ch 2 (.cL (.b5 44) (.b0 ar (.b5 43) (.J (.bW 0) (.J (.Z 7) .N)))))
 (.J (.cB (.hK (.J (.b7 (.bW 2) (.J .cZ (.ad "push") .N)) (.J (.ev (.J (.b7 (.bW 2) (.J .cZ (.ad "dup") .N)) (.J (.b7 (.bW 1) (.J .cZ (.Z 0) .N)) .N))) .N))) (.J (.cw (.b0 ar (.b5 45) (.J (.bW 0) .N)))
 .N) .N)
 (.J (.cw (.cQ (.J (.bW 2) (.J (.eQ (.eg (.J (.ad "getl") (.J (.Z 0) (.J (.ad "geti") (.J (.ad "@x") (.J (.ad "getg") (.J (.ad "$x") .N))))))) "get" (.J (.bW 2) .N)) (.J (.fx (.b7 (.bW 2) (.J .cZ (.ad "getl") .N)) (.b0 ar (.b5 43) (.J (.bW 0) (.J (.Z 2) .N))) .bX) .N)))))
 .N)))
noncomputable def CF:dz where
 cJ:="_law_store"
 b9:=1
 cn:=["box","op"]
 c3:=[]
 cR:=b2
 cN:=.cA (.J (.ch 1 (.cL (.b5 46) (.b0 ar (.b5 43) (.J (.bW 0) (.J (.Z 4) .N)))))
 (.J (.cw (.cQ (.J (.bW 1) (.J (.cL (.eg (.J (.ad "setl") (.J (.Z 0) (.J (.ad "seti") (.J (.ad "@x") (.J (.ad "setg") (.J (.ad "$x") (.J (.ad "setc") (.J (.ad "C") .N))))))))) (.bW 1)) (.J (.fx (.b7 (.bW 1) (.J .cZ (.ad "setl") .N)) (.b0 ar (.b5 43) (.J (.bW 0) (.J (.Z 2) .N))) .bX) .N)))))
 .N))
noncomputable def zX:dz where
 cJ:="_law_branch"
 b9:=2
 cn:=["box","goal"]
 c3:=[]
 cR:=b2
 cN:=.cA (.J (.cw (.cQ (.J (.cL (.b5 47) (.b0 ar (.b5 43) (.J (.bW 0) (.J (.Z 2) .N)))) (.J (.bW 1) (.J .bX .N)))))
 .N)
noncomputable def wZ:dz where
 cJ:="_law_met_pair"
 b9:=2
 cn:=["box","deep","way"]
 c3:=[]
 cR:=b2
 cN:=.cA (.J (.ch 2 (.b0 ar (.b5 43) (.J (.bW 0) (.J (.Z 3) .N))))
 (.J (.cB (.b7 (.bW 2) (.J .cZ (.Z 0) .N)) (.J (.cw (.a3 ar (.J (.b0 ar (.b5 48) (.J (.bW 0) (.J (.bW 1) .N))) (.J (.cQ (.J (.ad "jumpnil") (.J (.Z 3) (.J .bX .N)))) (.J (.b5 49) (.J (.b0 ar (.b5 50) (.J (.bW 0) .N)) (.J (.b5 51) .N)))))))
 .N) .N)
 (.J (.cB (.b7 (.bW 2) (.J .cZ (.Z 1) .N)) (.J (.cw (.a3 ar (.J (.b0 ar (.b5 48) (.J (.bW 0) (.J (.bW 1) .N))) (.J (.cQ (.J (.ad "jumpnil") (.J (.Z 3) (.J .bX .N)))) (.J (.b5 51) (.J (.b0 ar (.b5 48) (.J (.bW 0) (.J (.bW 1) .N))) (.J (.b5 51) .N)))))))
 .N) .N)
 (.J (.cw (.a3 ar (.J (.b0 ar (.b5 48) (.J (.bW 0) (.J (.bW 1) .N))) (.J (.b0 ar (.b5 48) (.J (.bW 0) (.J (.bW 1) .N))) (.J (.cQ (.J (.ad "jumpnil") (.J (.Z 2) (.J .bX .N)))) (.J (.b5 52) (.J (.b5 52) .N)))))))
 .N))))
noncomputable def po:dz where
 cJ:="_law_one"
 b9:=2
 cn:=["box","deep","some"]
 c3:=[]
 cR:=b2
 cN:=.cA (.J (.ch 2 (.a3 b2 .N))
 (.J (.cB (.b7 (.bW 1) (.J .tq (.Z 0) .N)) (.J (.ch 2 (.a3 b2 (.J (.b5 51) (.J (.b0 ar (.b5 50) (.J (.bW 0) .N)) (.J (.b0 ar (.b5 53) (.J (.bW 0) (.J .bX .N))) (.J (.cQ (.J (.ad "jumpnil") (.J .bX (.J .bX .N)))) (.J (.b5 54) .N)))))))
 .N) .N)
 (.J (.cB (.b7 (.bW 1) (.J .tq (.Z 1) .N)) (.J (.df (.eQ (.bW 2) "append" (.J (.b5 52) .N)))
 .N) .N)
 (.J (.cB (.b7 (.bW 1) (.J .jL (.Z 3) .N)) (.J (.ch 2 (.eD b2 .dc (.bW 2) (.a3 ar (.J (.b0 ar (.b5 48) (.J (.bW 0) (.J (.bW 1) .N))) (.J (.cQ (.J (.ad "text") (.J (.ad "t") (.J .bX .N)))) (.J (.cQ (.J (.ad "undef") (.J (.ad "u") (.J .bX .N)))) (.J (.cQ (.J (.ad "lambda") (.J (.Z 0) (.J .bX .N)))) (.J (.b5 55) .N))))))))
 (.J (.df (.eQ (.bW 2) "append" (.J (.cQ (.J (.ad "fail") (.J (.ad "E") (.J (.ad "t") .N)))) .N)))
 .N)) .N)
 (.J (.cw (.cL (.bW 2) (.b0 ar (.b5 43) (.J (.bW 0) (.J (.b0 ar (.b5 12) (.J (.bW 2) .N)) .N)))))
 .N)))))
noncomputable def CG:dz where
 cJ:="_law_piece"
 b9:=3
 cn:=["box","deep","way","three"]
 c3:=[]
 cR:=b2
 cN:=.cA (.J (.cB (.b7 (.bW 2) (.J .cZ (.Z 0) .N)) (.J (.cw (.a3 ar (.J (.b0 ar (.b5 48) (.J (.bW 0) (.J (.bW 1) .N))) (.J (.b0 ar (.b5 48) (.J (.bW 0) (.J (.bW 1) .N))) (.J (.b5 51) (.J (.b5 51) .N))))))
 .N) .N)
 (.J (.cB (.b7 (.bW 2) (.J .cZ (.Z 1) .N)) (.J (.cw (.a3 ar (.J (.b0 ar (.b5 48) (.J (.bW 0) (.J (.bW 1) .N))) (.J (.b0 ar (.b5 53) (.J (.bW 0) (.J (.Z 2) .N))) (.J (.b5 55) (.J (.b5 55) .N))))))
 .N) .N)
 (.J (.cB (.b7 (.bW 2) (.J .cZ (.Z 2) .N)) (.J (.cw (.eD ar .dc (.a3 ar (.J (.b0 ar (.b5 48) (.J (.bW 0) (.J (.bW 1) .N))) (.J (.b0 ar (.b5 48) (.J (.bW 0) (.J (.bW 1) .N))) .N))) (.eD ar .kF (.a3 ar (.J (.b5 52) .N)) (.eD ar .dc (.Z 2) (.b0 ar (.b5 43) (.J (.bW 0) (.J (.Z 2) .N)))))))
 .N) .N)
 (.J (.cB (.b7 (.bW 2) (.J .cZ (.Z 3) .N)) (.J (.cw (.a3 ar (.J (.b0 ar (.b5 48) (.J (.bW 0) (.J (.bW 1) .N))) (.J (.b5 49) (.J (.b5 52) .N)))))
 .N) .N)
 (.J (.cB (.b7 (.bW 2) (.J .cZ (.Z 4) .N)) (.J (.cw (.a3 ar (.J (.b0 ar (.b5 48) (.J (.bW 0) (.J (.bW 1) .N))) (.J (.b5 49) (.J (.b0 ar (.b5 50) (.J (.bW 0) .N)) (.J (.b5 51) .N))))))
 .N) .N)
 (.J (.cB (.b7 (.bW 2) (.J .cZ (.Z 5) .N)) (.J (.cw (.b0 ar (.b5 56) (.J (.bW 0) (.J (.bW 1) .N))))
 .N) .N)
 (.J (.cB (.b7 (.bW 2) (.J .cZ (.Z 6) .N)) (.J (.cw (.a3 ar (.J (.b0 ar (.b5 45) (.J (.bW 0) .N)) (.J (.b0 ar (.b5 53) (.J (.bW 0) (.J .bX .N))) .N))))
 .N) .N)
 (.J (.cB (.b7 (.bW 2) (.J .cZ (.Z 7) .N)) (.J (.cw (.a3 ar (.J (.b0 ar (.b5 45) (.J (.bW 0) .N)) (.J (.b5 55) .N))))
 .N) .N)
 (.J (.cB (.b7 (.bW 2) (.J .cZ (.Z 8) .N)) (.J (.ch 3 (.a3 ar (.J (.a3 ar (.J (.cQ (.J (.ad "jump") (.J (.Z 1) (.J .bX .N)))) .N)) (.J (.a3 ar (.J (.b0 ar (.b5 48) (.J (.bW 0) (.J (.bW 1) .N))) (.J (.b0 ar (.b5 53) (.J (.bW 0) (.J (.Z 1) .N))) .N))) (.J (.a3 ar (.J (.b0 ar (.b5 45) (.J (.bW 0) .N)) (.J (.cQ (.J (.ad "jumpnil") (.J (.Z 1) (.J .bX .N)))) .N))) .N)))))
 (.J (.cw (.cL (.bW 3) (.b0 ar (.b5 43) (.J (.bW 0) (.J (.Z 3) .N)))))
 .N)) .N)
 (.J (.cB (.b7 (.bW 2) (.J .cZ (.Z 9) .N)) (.J (.cw (.a3 ar (.J (.cQ (.J (.ad "jump") (.J (.Z 3) (.J .bX .N)))) (.J (.b0 ar (.b5 48) (.J (.bW 0) (.J (.bW 1) .N))) (.J (.b5 51) .N)))))
 .N) .N)
 (.J (.cw (.a3 ar (.J (.b0 ar (.b5 57) (.J (.bW 0) (.J (.bW 1) .N))) .N)))
 .N)))))))))))
noncomputable def zY:dz where
 cJ:="_law_change"
 b9:=1
 cn:=["op"]
 c3:=[]
 cR:=b2
 cN:=.cA (.J (.cB (.hK (.J (.b7 (.bW 0) (.J .ft (.cQ (.J (.ad "pop") (.J (.ad "leave") .N))) .N)) (.J (.b7 (.bW 0) (.J .ft (.b5 46) .N)) (.J (.b7 (.bW 0) (.J .ft (.b5 47) .N)) .N)))) (.J (.cw (.pQ (.Z 1)))
 .N) .N)
 (.J (.cw (.fx (.b7 (.bW 0) (.J .ft (.cQ (.J (.ad "swap") (.J (.ad "jump") (.J (.ad "jumpnil") (.J (.ad "fail") .N))))) .N)) (.Z 0) (.Z 1)))
 .N))
noncomputable def yH:cW:=(.J (.df (.eQ (.bW 0) "append" (.J (.bW 4) .N)))
 (.J (.df (.eQ (.bW 1) "append" (.J (.bW 3) .N)))
 (.J (.ch 3 (.eD ar .dc (.bW 3) (.b0 ar (.b5 58) (.J (.cL (.bW 4) (.Z 0)) .N))))
 .N)))
def ET:dz where
 cJ:="_law_laid"
 b9:=4
 cn:=["rows","heights","piece","deep","row"]
 c3:=[]
 cR:=b2
 cN:=.cA (.J (.fT [4] b2 (.cE (.bW 2)) yH)
 (.J (.cw (.bW 3))
 .N))
noncomputable def iP:cW:=(.J (.ch 8 (.Z 13))
 (.J (.cB (.ev (.J (.b7 (.bW 2) (.J .cZ (.Z 0) .N)) (.J (.hK (.J (.cL (.bW 0) (.Z 3)) (.J (.b7 (.b0 ar (.b5 43) (.J (.bW 0) (.J (.Z 3) .N))) (.J .tq (.Z 0) .N)) .N))) .N))) (.J (.ch 8 (.Z 6))
 .N) .N)
 (.J (.ch 8 (.fx (.cL (.bW 0) (.Z 3)) (.Z 0) (.b0 ar (.b5 43) (.J (.bW 0) (.J (.bW 8) .N)))))
 (.J (.ch 9 (.b0 ar (.b5 59) (.J (.bW 0) (.J (.bW 7) (.J (.fx (.b7 (.bW 7) (.J .jL (.Z 3) .N)) (.bW 8) (.Z 10)) .N)))))
 (.J (.cB (.b7 (.eD ar .dc (.b0 ar (.b5 12) (.J (.bW 5) .N)) (.b0 ar (.b5 12) (.J (.bW 9) .N))) (.J .gm (.eD ar .fw (.bW 1) (.Z 2)) .N)) (.J (.ch 7 (.b0 ar (.b5 60) (.J (.bW 5) (.J (.bW 6) (.J (.bW 9) (.J (.bW 7) .N))))))
 (.J (.cB (.ev (.J (.b7 (.cL (.cL (.bW 9) (.pQ (.Z 1))) (.Z 0)) (.J .ft (.b5 61) .N)) (.J (.b7 (.cL (.cL (.bW 9) (.pQ (.Z 1))) (.Z 1)) (.J .ne (.Z 1) .N)) .N))) (.J (.ch 7 (.b0 ar (.b5 43) (.J (.bW 0) (.J (.Z 3) .N))))
 .N) .N)
 .N)) .N)
 .N)))))
def jl:dz where
 cJ:="_law_plain"
 b9:=2
 cn:=["box","most","turn","tail","size","rows","heights","deep","way","piece"]
 c3:=[]
 cR:=b2
 cN:=.cA (.J (.ep [5,6,7] (.J (.a3 b2 .N) (.J (.a3 b2 .N) (.J (.Z 0) .N))))
 (.J (.fT [2] b2 (.gb (.fx (.cL (.bW 0) (.Z 3)) (.Z 1) (.Z 4))) iP)
 (.J (.ch 3 (.a3 ar (.J (.fx (.hK (.J (.cL (.bW 0) (.Z 3)) (.J (.b7 (.b0 ar (.b5 43) (.J (.bW 0) (.J (.Z 4) .N))) (.J .tq (.Z 0) .N)) .N))) (.b5 54) (.b5 55)) .N)))
 (.J (.cB (.ev (.J (.b7 (.bW 7) (.J .cZ (.Z 0) .N)) (.J (.b7 (.bW 3) (.J .cZ (.a3 ar (.J (.b5 54) .N)) .N)) .N))) (.J (.ch 3 (.a3 ar (.J (.b0 ar (.b5 48) (.J (.bW 0) (.J (.Z 0) .N))) (.J (.b5 54) .N))))
 .N) .N)
 (.J (.df (.b0 ar (.b5 60) (.J (.bW 5) (.J (.bW 6) (.J (.bW 3) (.J (.bW 7) .N))))))
 (.J (.ch 4 (.b0 ar (.b5 12) (.J (.bW 5) .N)))
 (.J (.cB (.ev (.J (.gA (.cL (.bW 0) (.Z 3))) (.J (.b7 (.eD ar .dc (.bW 4) (.Z 3)) (.J .gm (.bW 1) .N)) (.J (.b7 (.b0 ar (.b5 43) (.J (.bW 0) (.J (.Z 3) .N))) (.J .cZ (.Z 0) .N)) .N)))) (.J (.df (.b0 ar (.b5 60) (.J (.bW 5) (.J (.bW 6) (.J (.a3 ar (.J (.cQ (.J (.ad "jump") (.J (.Z 1) (.J .bX .N)))) (.J (.b0 ar (.b5 45) (.J (.bW 0) .N)) (.J (.b0 ar (.b5 53) (.J (.bW 0) (.J .bX .N))) .N)))) (.J (.Z 0) .N))))))
 .N) .N)
 (.J (.cw (.cQ (.J (.pR (.bW 5)) (.J (.pR (.bW 6)) (.J (.bW 4) .N)))))
 .N))))))))
noncomputable def yI:cv:=.eh ar (.bW 9) (.J [9] b2 (.gb (.bW 4)) (.J (.b7 (.cL (.bW 2) (.bW 9)) (.J .cZ (.bW 5) .N)) .N) .N)
noncomputable def yJ:cv:=.eh ar (.bW 10) (.J [10] b2 (.cE (.bW 6)) (.J (.b7 (.cL (.cL (.bW 1) (.bW 10)) (.Z 0)) (.J .ft (.bW 7) .N)) .N) .N)
def qV:dz where
 cJ:="_law_goal"
 b9:=5
 cn:=["box","rows","heights","at","size","need","some","wish","near","spot","spot"]
 c3:=[]
 cR:=b2
 cN:=.cA (.J (.ch 5 (.eD ar .fw (.cL (.bW 2) (.bW 3)) (.b0 ar (.b5 5) (.J (.b7 (.cL (.cL (.bW 1) (.bW 3)) (.Z 0)) (.J .ft (.b5 47) .N)) .N))))
 (.J (.ch 6 yI)
 (.J (.ch 7 (.cL (.a3 ar (.J (.a3 ar (.J (.ad "jump") .N)) (.J (.b5 47) (.J (.a3 ar (.J (.ad "pop") (.J (.ad "swap") (.J (.ad "leave") .N)))) (.J (.b5 44) .N))))) (.b0 ar (.b5 43) (.J (.bW 0) (.J (.Z 4) .N)))))
 (.J (.ch 8 yJ)
 (.J (.ch 6 (.fx (.b7 (.bW 8) (.J .ne (.a3 ar .N) .N)) (.bW 8) (.bW 6)))
 (.J (.cw (.cL (.bW 6) (.b0 ar (.b5 43) (.J (.bW 0) (.J (.b0 ar (.b5 12) (.J (.bW 6) .N)) .N)))))
 .N))))))
noncomputable def uG:cv:=.eh ar (.bW 10) (.J [10] b2 (.gb (.bW 2)) (.J (.b7 (.cL (.bW 1) (.bW 10)) (.J .tq (.Z 0) .N)) .N) .N)
noncomputable def k2:cW:=(.J (.ep [6,7] (.J (.cL (.bW 5) (.b0 ar (.b5 43) (.J (.bW 0) (.J (.b0 ar (.b5 12) (.J (.bW 5) .N)) .N)))) (.J (.b0 ar (.b5 43) (.J (.bW 0) (.J (.b0 ar (.b5 12) (.J (.bW 1) .N)) .N))) .N)))
 (.J (.ep [8,9] (.J (.eD ar .dc (.eD ar .dc (.bW 7) (.Z 1)) (.b0 ar (.b5 43) (.J (.bW 0) (.J (.eD ar .fw (.b0 ar (.b5 12) (.J (.bW 1) .N)) (.bW 7)) .N)))) (.J (.cL (.a3 ar (.J (.ad "rescue") (.J (.ad "ensure") .N))) (.b0 ar (.b5 43) (.J (.bW 0) (.J (.Z 2) .N)))) .N)))
 (.J (.cB (.b7 (.b0 ar (.b5 62) (.J (.fP ar (.bW 1) (.bW 7) (.bW 8)) .N)) (.J .mC (.eD ar .fw (.cL (.bW 1) (.bW 6)) (.Z 1)) .N)) (.J (.df (.eQ (.bW 4) "append" (.J (.b0 ar (.b5 19) (.J (.bW 9) (.J (.bW 7) (.J (.bW 8) (.J (.bW 6) (.J (.eD ar .fw (.cL (.bW 1) (.bW 6)) (.Z 1)) .N)))))) .N)))
 .N) .N)
 .N)))
def rh:dz where
 cJ:="_law_catches"
 b9:=3
 cn:=["box","heights","size","turn","found","goals","goal","first","last","sort","spot"]
 c3:=[]
 cR:=b2
 cN:=.cA (.J (.ep [4,5] (.J (.a3 b2 .N) (.J uG .N)))
 (.J (.fT [3] b2 (.gb (.fx (.hK (.J (.cL (.bW 0) (.Z 3)) (.J (.b7 (.bW 5) (.J .cZ (.a3 ar .N) .N)) .N))) (.Z 0) (.b0 ar (.b5 43) (.J (.bW 0) (.J (.Z 3) .N))))) k2)
 (.J (.cw (.pR (.bW 4)))
 .N)))
noncomputable def mm:cW:=(.J (.i0 [13,14,15] (.bW 10))
 (.J (.cB (.b7 (.fP ar (.bW 13) .bX (.Z 4)) (.J .cZ (.ad "jump") .N)) (.J (.ch 14 (.fx (.b7 (.bW 14) (.J .wb .bX .N)) (.b0 ar (.b5 64) (.J (.bW 0) (.J (.bW 4) (.J (.bW 5) (.J (.bW 9) (.J (.bW 6) .N)))))) (.eD ar .dc (.bW 9) (.bW 14))))
 .N) .N)
 (.J (.cB (.ev (.J (.b7 (.bW 13) (.J .cZ (.ad "lambda") .N)) (.J (.b7 (.bW 3) (.J .cZ (.a3 ar .N) .N)) .N))) (.J (.ep [13,14] (.J (.ad "text") (.J (.ad "u") .N)))
 .N) .N)
 (.J (.df (.eQ (.bW 7) "append" (.J (.b0 ar (.b5 0) (.J (.bW 13) (.J (.bW 14) (.J (.bW 15) (.J .bX (.J (.eD ar .dc (.bW 9) (.Z 1)) .N)))))) .N)))
 .N))))
noncomputable def w0:cv:=.eh ar (.bW 16) (.J [16] b2 (.gb (.bW 6)) (.J (.b7 (.cL (.bW 5) (.bW 16)) (.J .cZ (.Z 0) .N)) .N) .N)
def uf:dz where
 cJ:="_law_scene"
 b9:=4
 cn:=["box","most","kind","within","rows","heights","size","made","starts","at","row","bare","more","op","a","b","spot"]
 c3:=[]
 cR:=b2
 cN:=.cA (.J (.i0 [4,5,6] (.b0 ar (.b5 63) (.J (.bW 0) (.J (.bW 1) .N))))
 (.J (.ep [7,8] (.J (.a3 b2 .N) (.J (.a3 ar (.J (.Z 0) .N)) .N)))
 (.J (.fT [9,10] ar (.yC (.bW 4)) mm)
 (.J (.cB (.gA (.cL (.bW 0) (.Z 3))) (.J (.ch 11 w0)
 (.J (.ch 12 (.cL (.bW 11) (.b0 ar (.b5 43) (.J (.bW 0) (.J (.b0 ar (.b5 12) (.J (.bW 11) .N)) .N)))))
 (.J (.ch 8 (.cL (.a3 ar (.J (.a3 ar (.J (.Z 0) .N)) (.J (.a3 ar (.J (.Z 0) (.J (.bW 12) .N))) (.J (.a3 ar (.J (.bW 12) .N)) (.J (.a3 ar (.J (.bW 12) (.J (.Z 0) .N))) .N))))) (.b0 ar (.b5 43) (.J (.bW 0) (.J (.Z 4) .N)))))
 .N))) .N)
 (.J (.cw (.cQ (.J (.b0 ar (.b5 1) (.J (.bW 2) (.J (.ad "c") (.J .bX (.J (.a3 ar (.J (.ad "x") (.J (.ad "y") .N))) (.J (.pR (.bW 7)) (.J (.b0 ar (.b5 65) (.J (.bW 0) (.J (.bW 5) (.J (.bW 6) .N)))) (.J (.bW 3) (.J (.bW 8) .N))))))))) (.J (.bW 5) .N))))
 .N)))))
noncomputable def yK:cv:=.eh ar (.cQ (.J (.bY (.bW 4) "op") (.J (.b0 ar (.b5 66) (.J (.bY (.bW 4) "a") .N)) (.J (.bY (.bW 4) "b") (.J (.bY (.bW 4) "c") (.J (.bY (.bW 4) "line") .N)))))) (.J [4] b2 (.cE (.bY (.bW 0) "rows")) .N .N)
noncomputable def yL:cv:=.eh ar (.cQ (.J (.bY (.bW 5) "sort") (.J (.bY (.bW 5) "first") (.J (.bY (.bW 5) "last") (.J (.bY (.bW 5) "target") (.J (.bY (.bW 5) "depth") .N)))))) (.J [5] b2 (.cE (.bY (.bW 0) "catches")) .N .N)
noncomputable def yM:cv:=.eh ar (.b0 ar (.b5 67) (.J (.bW 6) .N)) (.J [6] b2 (.cE (.bY (.bW 0) "children")) .N .N)
def EU:dz where
 cJ:="_law_told"
 b9:=1
 cn:=["code","rows","catches","within","row","one","child"]
 c3:=[]
 cR:=b2
 cN:=.cA (.J (.ch 1 yK)
 (.J (.ch 2 yL)
 (.J (.ch 3 yM)
 (.J (.cw (.a3 ar (.J (.bY (.bW 0) "kind") (.J (.bY (.bW 0) "name") (.J (.bY (.bW 0) "params") (.J (.b0 ar (.b5 9) (.J (.bY (.bW 0) "slots") .N)) (.J (.bW 1) (.J (.bW 2) (.J (.b0 ar (.b5 9) (.J (.bY (.bW 0) "starts") .N)) (.J (.bW 3) .N))))))))))
 .N))))
noncomputable def ni:cv:=(.b7 (.bW 2) (.J .jL (.b0 ar (.b5 12) (.J (.bW 1) .N)) .N))
noncomputable def yN:cv:=.eh ar (.bY (.bW 6) "target") (.J [6] b2 (.cE (.bY (.bW 0) "catches")) (.J (.b7 (.bY (.bW 6) "first") (.J .gm (.bW 3) (.J .jL (.bY (.bW 6) "last") .N))) .N) .N)
noncomputable def ri:cv:=.eh ar (.bW 7) (.J [7] b2 (.cE (.bW 5)) (.J (.b7 (.bW 7) (.J .fY (.bW 1) .N)) .N) .N)
def rj:cW:=(.J (.ch 4 (.cL (.bY (.bW 0) "rows") (.bW 3)))
 (.J (.ch 5 yN)
 (.J (.ch 5 (.eD ar .dc (.eD ar .dc (.bW 5) (.fx (.b7 (.fP ar (.bY (.bW 4) "op") .bX (.Z 4)) (.J .cZ (.ad "jump") .N)) (.a3 ar (.J (.bY (.bW 4) "a") .N)) (.a3 ar .N))) (.fx (.b7 (.bY (.bW 4) "op") (.J .ft (.b5 61) .N)) (.a3 ar .N) (.a3 ar (.J (.eD ar .dc (.bW 3) (.Z 1)) .N)))))
 (.J (.ch 1 (.eD ar .dc (.bW 1) ri))
 .N))))
def nl:cW:=(.J (.ch 2 (.b0 ar (.b5 12) (.J (.bW 1) .N)))
 (.J (.fT [3] b2 (.cE (.b0 ar (.b5 9) (.J (.bW 1) .N))) rj)
 .N))
def EV:dz where
 cJ:="_law_ways"
 b9:=1
 cn:=["code","met","many","spot","row","goals","one","goal"]
 c3:=[]
 cR:=b2
 cN:=.cA (.J (.ep [1,2] (.J (.b0 ar (.b5 9) (.J (.bY (.bW 0) "starts") .N)) (.J (.pQ (.Z 1)) .N)))
 (.J (.p8 1000 ni nl)
 (.J (.cw (.bW 1))
 .N)))
noncomputable def zZ:cv:=(.ev (.J (.b7 (.bY (.cL (.bY (.bW 0) "rows") (.bW 1)) "op") (.J .cZ (.ad "jump") .N)) (.J (.b7 (.bW 1) (.J .fY (.bW 2) .N)) .N)))
noncomputable def z0:cW:=(.J (.df (.eQ (.bW 2) "append" (.J (.bW 1) .N)))
 (.J (.ch 1 (.bY (.cL (.bY (.bW 0) "rows") (.bW 1)) "a"))
 .N))
def HI:dz where
 cJ:="_law_end"
 b9:=2
 cn:=["code","spot","seen"]
 c3:=[]
 cR:=b2
 cN:=.cA (.J (.ch 2 (.a3 b2 .N))
 (.J (.p8 1000 zZ z0)
 (.J (.cw (.fx (.b7 (.bW 1) (.J .ft (.bW 2) .N)) .bX (.bW 1)))
 .N)))
noncomputable def vw:dz where
 cJ:="_law_jump_left"
 b9:=3
 cn:=["code","at","row","stop"]
 c3:=[]
 cR:=b2
 cN:=.cA (.J (.ch 3 (.b0 ar (.b5 68) (.J (.bW 0) (.J (.bY (.bW 2) "a") .N))))
 (.J (.cB (.hK (.J (.b7 (.bY (.bW 2) "a") (.J .cZ (.eD ar .dc (.bW 1) (.Z 1)) .N)) (.J (.ev (.J (.b7 (.bW 3) (.J (.oc ()) .bX .N)) (.J (.b7 (.bW 3) (.J .ne (.bY (.bW 2) "a") .N)) .N))) .N))) (.J (.cw (.b3 ar))
 .N) .N)
 (.J (.cw (.ev (.J (.b7 (.bY (.bW 2) "op") (.J .cZ (.ad "jump") .N)) (.J (.b7 (.bW 3) (.J (.oc ()) .bX .N)) (.J (.b7 (.bY (.cL (.bY (.bW 0) "rows") (.bW 3)) "op") (.J .cZ (.ad "leave") .N)) .N)))))
 .N)))
noncomputable def vx:dz where
 cJ:="_law_pair_left"
 b9:=3
 cn:=["code","at","words","first","later","third"]
 c3:=[]
 cR:=b2
 cN:=.cA (.J (.i0 [3,4,5] (.bW 2))
 (.J (.cB (.hK (.J (.ev (.J (.b7 (.bW 3) (.J .ft (.b5 44) .N)) (.J (.b7 (.bW 4) (.J .cZ (.ad "pop") .N)) .N))) (.J (.ev (.J (.b7 (.bW 3) (.J .ft (.a3 ar (.J (.ad "swap") (.J (.ad "dup") .N))) .N)) (.J (.b7 (.bW 4) (.J .cZ (.ad "swap") .N)) .N))) .N))) (.J (.cw (.b3 ar))
 .N) .N)
 (.J (.cB (.hK (.J (.ev (.J (.b7 (.bW 3) (.J .cZ (.ad "dup") .N)) (.J (.b7 (.bW 4) (.J .ft (.b5 46) .N)) (.J (.b7 (.bW 5) (.J .cZ (.ad "pop") .N)) .N)))) (.J (.ev (.J (.b7 (.bW 3) (.J .cZ (.ad "push") .N)) (.J (.b7 (.bW 4) (.J .ft (.b5 47) .N)) .N))) .N))) (.J (.cw (.b3 ar))
 .N) .N)
 (.J (.cB (.ev (.J (.b7 (.bW 3) (.J .ft (.b5 47) .N)) (.J (.b7 (.bW 4) (.J .cZ (.ad "jump") .N)) (.J (.b7 (.bY (.cL (.bY (.bW 0) "rows") (.bW 1)) "a") (.J .cZ (.eD ar .dc (.bW 1) (.Z 2)) .N)) .N)))) (.J (.cw (.b3 ar))
 .N) .N)
 (.J (.cw (.ev (.J (.b7 (.bW 3) (.J .cZ (.ad "push") .N)) (.J (.b7 (.bW 4) (.J .cZ (.ad "jump") .N)) (.J (.b7 (.bY (.cL (.bY (.bW 0) "rows") (.bY (.cL (.bY (.bW 0) "rows") (.eD ar .dc (.bW 1) (.Z 1))) "a")) "op") (.J .ft (.b5 47) .N)) .N)))))
 .N)))))
noncomputable def uH:cv:=.eh ar (.bY (.bW 6) "a") (.J [6] b2 (.cE (.bY (.bW 0) "rows")) (.J (.b7 (.fP ar (.bY (.bW 6) "op") .bX (.Z 4)) (.J .cZ (.ad "jump") .N)) .N) .N)
noncomputable def uI:cv:=.eh ar (.bY (.bW 7) "target") (.J [7] b2 (.cE (.bY (.bW 0) "catches")) .N .N)
noncomputable def n6:cv:=(.ev (.J (.b7 (.b0 ar (.b5 12) (.J (.bW 5) .N)) (.J .jL (.Z 3) .N)) (.J (.b7 (.eD ar .dc (.bW 3) (.b0 ar (.b5 12) (.J (.bW 5) .N))) (.J .jL (.b0 ar (.b5 12) (.J (.bY (.bW 0) "rows") .N)) .N)) (.J (.b7 (.eD ar .dc (.bW 3) (.b0 ar (.b5 12) (.J (.bW 5) .N))) (.J .fY (.bW 1) .N)) .N))))
noncomputable def n7:cW:=(.J (.df (.eQ (.bW 5) "append" (.J (.bY (.cL (.bY (.bW 0) "rows") (.eD ar .dc (.bW 3) (.b0 ar (.b5 12) (.J (.bW 5) .N)))) "op") .N)))
 .N)
def uJ:cW:=(.J (.ch 5 (.a3 b2 (.J (.bY (.bW 4) "op") .N)))
 (.J (.p8 1000 n6 n7)
 (.J (.cB (.hK (.J (.b7 (.bW 3) (.J .fY (.bW 2) .N)) (.J (.b0 ar (.b5 70) (.J (.bW 0) (.J (.bW 3) (.J (.fP ar (.eD ar .dc (.bW 5) (.a3 ar (.J (.ad "") (.J (.ad "") .N)))) .bX (.Z 3)) .N)))) .N))) (.J (.cw (.b3 b2))
 .N) .N)
 (.J (.cB (.ev (.J (.b7 (.fP ar (.bY (.bW 4) "op") .bX (.Z 4)) (.J .cZ (.ad "jump") .N)) (.J (.b0 ar (.b5 71) (.J (.bW 0) (.J (.bW 3) (.J (.bW 4) .N)))) .N))) (.J (.cw (.b3 b2))
 .N) .N)
 .N))))
def yO:dz where
 cJ:="_law_at_rest"
 b9:=1
 cn:=["code","met","ways","at","row","words","row","one"]
 c3:=[]
 cR:=b2
 cN:=.cA (.J (.ch 1 (.eD ar .dc (.eD ar .dc uH uI) (.bY (.bW 0) "starts")))
 (.J (.ch 2 (.b0 ar (.b5 69) (.J (.bW 0) .N)))
 (.J (.fT [3,4] ar (.yC (.bY (.bW 0) "rows")) uJ)
 (.J (.cw (.b3 ar))
 .N))))
noncomputable def CI:dz where
 cJ:="_law_holds"
 b9:=1
 cn:=["value"]
 c3:=[]
 cR:=b2
 cN:=.cA (.J (.cw (.ev (.J (.b7 (.bW 0) (.J (.oc ()) .bX .N)) (.J (.b7 (.b0 ar (.b5 66) (.J (.bW 0) .N)) (.J .ne (.ad "False") .N)) .N))))
 .N)
noncomputable def z1:cv:=.eh ar (.bW 12) (.J [12] b2 (.cE (.bY (.bW 0) "catches")) (.J (.b7 (.bY (.bW 12) "first") (.J .jL (.bW 4) (.J .gm (.bY (.bW 12) "last") .N))) .N) .N)
def c1:cW:=(.J (.ch 8 (.cL (.bY (.bW 0) "rows") (.bW 4)))
 (.J (.ep [9,4,10] (.J (.bY (.bW 8) "op") (.J (.eD ar .dc (.bW 4) (.Z 1)) (.J (.fx (.b7 (.bY (.bW 8) "op") (.J .ft (.a3 ar (.J (.ad "getl") (.J (.ad "setl") .N))) .N)) (.bY (.bW 8) "b") (.bY (.bW 8) "a")) .N))))
 (.J (.cB (.b7 (.bW 9) (.J .ft (.a3 ar (.J (.ad "text") (.J (.ad "undef") (.J (.ad "lambda") .N)))) .N)) (.J (.df (.eQ (.bW 6) "append" (.J (.bW 9) .N)))
 .N) .N)
 (.J (.cB (.b7 (.bW 9) (.J .ft (.a3 ar (.J (.ad "push") (.J (.ad "self") (.J (.ad "blockgiven") (.J (.ad "text") (.J (.ad "undef") (.J (.ad "lambda") .N))))))) .N)) (.J (.df (.eQ (.bW 5) "append" (.J (.fx (.b7 (.bW 9) (.J .cZ (.ad "push") .N)) (.bW 10) (.fx (.b7 (.bW 9) (.J .cZ (.ad "blockgiven") .N)) (.bW 2) (.bW 9))) .N)))
 .N) .N)
 (.J (.cB (.b7 (.fP ar (.bW 9) .bX (.Z 3)) (.J .cZ (.ad "get") .N)) (.J (.df (.eQ (.bW 5) "append" (.J (.cL (.bW 7) (.bW 10)) .N)))
 .N) .N)
 (.J (.cB (.b7 (.fP ar (.bW 9) .bX (.Z 3)) (.J .cZ (.ad "set") .N)) (.J (.jc (.bW 7) (.bW 10) (.eQ (.bW 5) "pop" .N))
 (.J (.df (.eQ (.bW 6) "append" (.J (.cQ (.J (.bW 9) (.J (.bW 10) (.J (.b0 ar (.b5 66) (.J (.cL (.bW 7) (.bW 10)) .N)) .N)))) .N)))
 .N)) .N)
 (.J (.cB (.b7 (.bW 9) (.J .cZ (.ad "pop") .N)) (.J (.df (.eQ (.bW 5) "pop" .N))
 .N) .N)
 (.J (.cB (.b7 (.bW 9) (.J .cZ (.ad "dup") .N)) (.J (.df (.eQ (.bW 5) "append" (.J (.cL (.bW 5) (.pQ (.Z 1))) .N)))
 .N) .N)
 (.J (.cB (.b7 (.bW 9) (.J .cZ (.ad "swap") .N)) (.J (.df (.eQ (.bW 5) "append" (.J (.eQ (.bW 5) "pop" (.J (.pQ (.Z 2)) .N)) .N)))
 .N) .N)
 (.J (.cB (.b7 (.bW 9) (.J .cZ (.ad "leave") .N)) (.J (.cw (.cQ (.J (.eD ar .dc (.bW 6) (.a3 ar (.J (.cQ (.J (.bW 9) (.J (.b0 ar (.b5 66) (.J (.eQ (.bW 5) "pop" .N) .N)) .N))) .N))) (.J (.b3 ar) .N))))
 .N) .N)
 (.J (.cB (.hK (.J (.b7 (.bW 9) (.J .cZ (.ad "jump") .N)) (.J (.ev (.J (.b7 (.bW 9) (.J .cZ (.ad "jumpnil") .N)) (.J (.b7 (.cL (.bW 5) (.pQ (.Z 1))) (.J .wb .bX .N)) .N))) .N))) (.J (.ch 4 (.bY (.bW 8) "a"))
 .N) .N)
 (.J (.cB (.ev (.J (.b7 (.bW 9) (.J .ft (.b5 47) .N)) (.J (.b7 (.b0 ar (.b5 72) (.J (.eQ (.bW 5) "pop" .N) .N)) (.J .cZ (.b7 (.bW 9) (.J .cZ (.ad "jumpif") .N)) .N)) .N))) (.J (.ch 4 (.bY (.bW 8) "a"))
 .N) .N)
 (.J (.cB (.b7 (.bW 9) (.J .cZ (.ad "fail") .N)) (.J (.ch 11 z1)
 (.J (.df (.eQ (.bW 6) "append" (.J (.bW 9) .N)))
 (.J (.cB (.b7 (.bW 11) (.J .cZ (.a3 ar .N) .N)) (.J (.cw (.cQ (.J (.pR (.bW 6)) (.J (.b3 ar) .N))))
 .N) .N)
 (.J (.ep [5,4] (.J (.eD b2 .dc (.fP ar (.bW 5) .bX (.bY (.cL (.bW 11) (.Z 0)) "depth")) (.a3 ar (.J (.ad "way") .N))) (.J (.bY (.cL (.bW 11) (.Z 0)) "target") .N)))
 .N)))) .N)
 .N)))))))))))))
def x7:dz where
 cJ:="_law_run"
 b9:=3
 cn:=["code","start","is_first","lap","at","stack","deeds","kept","row","op","name","some","one"]
 c3:=[]
 cR:=b2
 cN:=.cA (.J (.ep [4,5,6,7] (.J (.bW 1) (.J (.a3 b2 .N) (.J (.a3 b2 .N) (.J (.eg (.J (.Z 0) (.J (.bW 2) (.J (.Z 1) (.J (.Z 5) (.J (.ad "@x") (.J (.gA (.bW 2)) (.J (.ad "$x") (.J .bX .N))))))))) .N)))))
 (.J (.fT [3] b2 (.gb (.Z 26)) c1)
 (.J (.cw (.cQ (.J (.pR (.bW 6)) (.J (.b3 b2) .N))))
 .N)))
noncomputable def mD:cW:=(.J (.i0 [5,6] (.b0 ar (.b5 73) (.J (.bW 0) (.J (.bW 3) (.J (.bW 4) .N)))))
 (.J (.i0 [7,8] (.b0 ar (.b5 73) (.J (.bW 1) (.J (.cL (.bY (.bW 1) "starts") (.bW 2)) (.J (.bW 4) .N)))))
 (.J (.cB (.hK (.J (.b7 (.fP ar (.bW 7) .bX (.b0 ar (.b5 12) (.J (.bW 5) .N))) (.J .ne (.bW 5) .N)) (.J (.ev (.J (.bW 6) (.J (.hK (.J (.b7 (.bW 7) (.J .ne (.bW 5) .N)) (.J (.gA (.bW 8)) .N))) .N))) .N))) (.J (.cw (.b3 b2))
 .N) .N)
 .N)))
def sm:cW:=(.J (.fT [4] b2 (.cE (.a3 ar (.J (.b3 b2) (.J (.b3 ar) .N)))) mD)
 .N)
def vy:dz where
 cJ:="_law_does_same"
 b9:=2
 cn:=["code","twin","spot","start","is_first","deeds","is_through","found","ends_here"]
 c3:=[]
 cR:=b2
 cN:=.cA (.J (.cB (.b7 (.b0 ar (.b5 12) (.J (.bY (.bW 0) "starts") .N)) (.J .ne (.b0 ar (.b5 12) (.J (.bY (.bW 1) "starts") .N)) .N)) (.J (.cw (.b3 b2))
 .N) .N)
 (.J (.fT [2,3] ar (.yC (.bY (.bW 0) "starts")) sm)
 (.J (.cw (.b3 ar))
 .N)))
noncomputable def EW:dz where
 cJ:="_law_said"
 b9:=1
 cn:=["code"]
 c3:=[]
 cR:=b2
 cN:=.cA (.J (.vY (.J (.cw (.b0 ar (.b5 23) (.J (.bW 0) .N)))
 .N))
 .N)
noncomputable def Aa:cv:=.eh ar (.fx (.b7 (.bW 12) (.J .ft (.bW 9) .N)) (.cL (.bW 7) (.bW 12)) .bX) (.J [12] b2 (.gb (.b0 ar (.b5 12) (.J (.bW 7) .N))) .N .N)
noncomputable def Ab:cv:=.eh ar (.bW 13) (.J [13,14] ar (.cE (.b5 36)) .N .N)
noncomputable def Ac:cW:=(.J (.cB (.hK (.J (.gA (.b0 ar (.b5 79) (.J (.bW 11) .N))) (.J (.gA (.b0 ar (.b5 80) (.J (.bW 10) (.J (.bW 11) .N)))) .N))) (.J (.cw (.b3 b2))
 .N) .N)
 .N)
noncomputable def Ad:cv:=.eh ar (.bW 15) (.J [15] b2 (.cE (.b5 77)) (.J (.b7 (.b0 ar (.b5 67) (.J (.b0 ar (.b5 40) (.J (.bW 3) (.J (.a3 ar (.J (.bW 15) .N)) .N))) .N)) (.J .ne (.bW 4) .N)) .N) .N)
noncomputable def Ae:cv:=.eh ar (.bW 17) (.J [16] b2 (.cE (.eD ar .dc (.a3 ar (.J (.bW 6) .N)) (.bW 2))) .N (.J [17] b2 (.cE (.bY (.bW 16) "catches")) (.J (.b7 (.bY (.bW 17) "depth") (.J .tq (.Z 0) .N)) .N) .N))
def Fp:dz where
 cJ:="law"
 b9:=1
 cn:=["script","box","within","twin","due","keeps","code","heights","before","ways","one","tidied","spot","name","step","name","some","one"]
 c3:=[]
 cR:=b2
 cN:=.cA (.J (.ch 1 (.b0 ar (.b5 74) (.J (.bW 0) .N)))
 (.J (.ch 2 (.fx (.cL (.bW 1) (.Z 3)) (.a3 ar .N) (.a3 ar (.J (.cL (.b0 ar (.b5 75) (.J (.bW 1) (.J (.Z 6) (.J (.ad "block") (.J (.a3 ar .N) .N))))) (.Z 0)) .N))))
 (.J (.i0 [6,7] (.b0 ar (.b5 75) (.J (.bW 1) (.J (.Z 10) (.J (.ad "method") (.J (.bW 2) .N))))))
 (.J (.ep [8,9] (.J (.b0 ar (.b5 67) (.J (.bW 6) .N)) (.J (.b0 ar (.b5 69) (.J (.bW 6) .N)) .N)))
 (.J (.cB (.b7 (.b0 ar (.b5 76) (.J (.bW 6) .N)) (.J .ne Aa .N)) (.J (.cw (.b3 b2))
 .N) .N)
 (.J (.ch 3 (.b0 ar (.b5 38) (.J (.bW 6) .N)))
 (.J (.cB (.hK (.J (.b7 (.b0 ar (.b5 12) (.J (.bY (.bW 3) "children") .N)) (.J .ne (.b0 ar (.b5 12) (.J (.bW 2) .N)) .N)) (.J (.b7 (.b0 ar (.b5 78) (.J Ab .N)) (.J .ne (.b0 ar (.b5 9) (.J (.b5 77) .N)) .N)) .N))) (.J (.cw (.b3 b2))
 .N) .N)
 (.J (.fT [10,11] ar (.zt (.eD ar .dc (.a3 ar (.J (.bW 6) .N)) (.bW 2)) (.eD ar .dc (.a3 ar (.J (.bW 3) .N)) (.bY (.bW 3) "children"))) Ac)
 (.J (.ch 4 (.b0 ar (.b5 67) (.J (.bW 3) .N)))
 (.J (.cB (.hK (.J (.b7 Ad (.J .ne (.a3 ar .N) .N)) (.J (.b7 (.b0 ar (.b5 67) (.J (.b0 ar (.b5 38) (.J (.bW 3) .N)) .N)) (.J .ne (.bW 4) .N)) .N))) (.J (.cw (.b3 b2))
 .N) .N)
 (.J (.ch 5 Ae)
 (.J (.cB (.ev (.J (.b7 (.bW 5) (.J .cZ (.a3 ar .N) .N)) (.J (.b7 .bX (.J .ft (.b0 ar (.b5 76) (.J (.bW 3) .N)) .N)) .N))) (.J (.cw (.b3 b2))
 .N) .N)
 (.J (.cw (.b7 (.b0 ar (.b5 67) (.J (.bW 6) .N)) (.J .cZ (.bW 8) .N)))
 .N)))))))))))))
def cq:rg where
 p9:=[EL,sO,zM,wS,CB,uC,CC,EM,zN,EN,vn,uD,qq,p4,p5,lB,oF,wT,sD,Oi,Oj,EO,HD,wU,EP,HE,wV,uE,uF,EQ,p6,pe,p7,vt,Ok,wW,Rb,zU,CD,HG,ES,CE,HH,CF,zX,wZ,po,CG,zY,ET,jl,qV,rh,uf,EU,EV,HI,vw,vx,yO,CI,x7,vy,EW,Fp]
 e7:=[
 {cJ:="Row",dj:=["op","a","b","c","line"],gv:=0,ey:=ar,kH:=[("with_target",1)]},
 {cJ:="Catch",dj:=["sort","first","last","target","depth"],gv:=2,ey:=ar,kH:=[("covers",3)]},
 {cJ:="Code",dj:=["kind","name","params","slots","rows","catches","children","starts","number"],gv:=4,ey:=ar,kH:=[("with_rows",5)]},
 {cJ:="RowCheck",dj:=["code","seen","depths","waiting"],gv:=10,ey:=b2,kH:=[("reach",11),("need_form",12),("need_slots",13),("need_child",14),("step",15),("need_catches",16),("run",17)]}]
 pS:=[kv "Row" (.kE 0),
 kv "Code" (.kE 2),
 kv "EFFECTS" (.ob 0),
 kv "isinstance" (.bi 8),
 kv "tuple" (.bi 11),
 kv "int" (.bi 5),
 kv "bool" (.bi 9),
 kv "str" (.bi 10),
 kv "is_whole" (.fn 7),
 kv "list" (.bi 1),
 kv "is_block" (.fn 906),
 kv "is_sort" (.fn 907),
 kv "len" (.bi 0),
 kv "OPERANDS" (.ob 1),
 kv "is_operand" (.fn 8),
 kv "JUMPS" ((.cQ [(.ad "jump"),(.ad "jumpif"),(.ad "jumpunless"),(.ad "jumpnil")])),
 kv "child_of" (.fn 9),
 kv "effect_of" (.fn 6),
 kv "ENDS" ((.cQ [(.ad "jump"),(.ad "leave"),(.ad "out"),(.ad "again"),(.ad "nomatch"),(.ad "fail")])),
 kv "Catch" (.kE 1),
 kv "CATCH_SORTS" ((.cQ [(.ad "rescue"),(.ad "ensure")])),
 kv "CODE_KINDS" ((.cQ [(.ad "method"),(.ad "block"),(.ad "class"),(.ad "program")])),
 kv "RowCheck" (.kE 3),
 kv "check_rows" (.fn 18),
 kv "end_of_jumps" (.fn 23),
 kv "pressed" (.fn 22),
 kv "reached" (.fn 25),
 kv "marks_of" (.fn 21),
 kv "is_op" (.fn 19),
 kv "PLAIN" ((.cQ [(.ad "push"),(.ad "self"),(.ad "getl"),(.ad "geti"),(.ad "getg"),(.ad "dup"),(.ad "blockgiven")])),
 kv "STORES" ((.cQ [(.ad "setl"),(.ad "seti"),(.ad "setg"),(.ad "setc")])),
 kv "truth" (.fn 20),
 kv "BRANCHES" ((.cQ [(.ad "jumpif"),(.ad "jumpunless")])),
 kv "is_taken" (.fn 29),
 kv "MOST_ROUNDS" ((.Z 24)),
 kv "shape" (.fn 34),
 kv "PASSES" ((.a3 [(.cQ [(.ad "threaded"),(.fn 24)]),(.cQ [(.ad "known branches"),(.fn 30)]),(.cQ [(.ad "turned branches"),(.fn 31)]),(.cQ [(.ad "short jumps"),(.fn 32)]),(.cQ [(.ad "dead rows"),(.fn 26)]),(.cQ [(.ad "pushes"),(.fn 27)]),(.cQ [(.ad "copies"),(.fn 28)]),(.cQ [(.ad "swaps"),(.fn 33)])])),
 kv "tidied_alone" (.fn 35),
 kv "tidy" (.fn 36),
 kv "pass_named" (.fn 37),
 kv "passed_by" (.fn 38),
 kv "max" (.bi 2),
 kv "abs" (.bi 4),
 kv "_law_take" (.fn 40),
 kv "_law_puts" ((.cQ [(.ad "push"),(.ad "self"),(.ad "getl"),(.ad "geti"),(.ad "getg"),(.ad "dup"),(.ad "blockgiven")])),
 kv "_law_known" (.fn 41),
 kv "_law_stores" ((.cQ [(.ad "setl"),(.ad "seti"),(.ad "setg"),(.ad "setc")])),
 kv "_law_branches" ((.cQ [(.ad "jumpif"),(.ad "jumpunless")])),
 kv "_law_put" (.fn 42),
 kv "_law_dup" ((.cQ [(.ad "dup"),.bX,.bX])),
 kv "_law_store" (.fn 43),
 kv "_law_pop" ((.cQ [(.ad "pop"),.bX,.bX])),
 kv "_law_swap" ((.cQ [(.ad "swap"),.bX,.bX])),
 kv "_law_branch" (.fn 44),
 kv "_law_leave" ((.cQ [(.ad "leave"),.bX,.bX])),
 kv "_law_jump" ((.cQ [(.ad "jump"),.bX,.bX])),
 kv "_law_met_pair" (.fn 45),
 kv "_law_one" (.fn 46),
 kv "_law_change" (.fn 48),
 kv "_law_piece" (.fn 47),
 kv "_law_laid" (.fn 49),
 kv "_law_ends" ((.cQ [(.ad "jump"),(.ad "leave"),(.ad "fail")])),
 kv "min" (.bi 3),
 kv "_law_plain" (.fn 50),
 kv "_law_goal" (.fn 51),
 kv "_law_catches" (.fn 52),
 kv "repr" (.bi 6),
 kv "_law_told" (.fn 54),
 kv "_law_end" (.fn 56),
 kv "_law_ways" (.fn 55),
 kv "_law_pair_left" (.fn 58),
 kv "_law_jump_left" (.fn 57),
 kv "_law_holds" (.fn 60),
 kv "_law_run" (.fn 61),
 kv "_law_box" (.fn 39),
 kv "_law_scene" (.fn 53),
 kv "_law_said" (.fn 63),
 kv "_law_names" ((.cQ [(.ad "copies"),(.ad "dead rows"),(.ad "known branches"),(.ad "pushes"),(.ad "short jumps"),(.ad "swaps"),(.ad "threaded"),(.ad "turned branches")])),
 kv "sorted" (.bi 7),
 kv "_law_at_rest" (.fn 59),
 kv "_law_does_same" (.fn 62)]
 ll:=[[kv "push" (.cQ [(.Z 0),(.Z 1)]),kv "text" (.cQ [(.Z 0),(.Z 1)]),kv "pop" (.cQ [(.Z 1),(.Z 0)]),kv "dup" (.cQ [(.Z 1),(.Z 2)]),kv "dup2" (.cQ [(.Z 2),(.Z 4)]),kv "swap" (.cQ [(.Z 2),(.Z 2)]),kv "tuck" (.fn 914),kv "self" (.cQ [(.Z 0),(.Z 1)]),kv "getl" (.cQ [(.Z 0),(.Z 1)]),kv "setl" (.cQ [(.Z 1),(.Z 0)]),kv "geti" (.cQ [(.Z 0),(.Z 1)]),kv "seti" (.cQ [(.Z 1),(.Z 0)]),kv "getg" (.cQ [(.Z 0),(.Z 1)]),kv "setg" (.cQ [(.Z 1),(.Z 0)]),kv "getc" (.cQ [(.Z 0),(.Z 1)]),kv "getcin" (.cQ [(.Z 1),(.Z 1)]),kv "setc" (.cQ [(.Z 1),(.Z 0)]),kv "list" (.fn 908),kv "append" (.cQ [(.Z 2),(.Z 1)]),kv "joinlists" (.cQ [(.Z 2),(.Z 1)]),kv "spread" (.cQ [(.Z 1),(.Z 1)]),kv "table" (.fn 913),kv "range" (.cQ [(.Z 2),(.Z 1)]),kv "totext" (.cQ [(.Z 1),(.Z 1)]),kv "texts" (.fn 908),kv "send" (.fn 910),kv "super" (.fn 912),kv "zsuper" (.fn 916),kv "yield" (.fn 915),kv "jump" (.cQ [(.Z 0),(.Z 0)]),kv "jumpif" (.cQ [(.Z 1),(.Z 0)]),kv "jumpunless" (.cQ [(.Z 1),(.Z 0)]),kv "jumpnil" (.cQ [(.Z 1),(.Z 1)]),kv "lambda" (.cQ [(.Z 0),(.Z 1)]),kv "def" (.cQ [(.Z 0),(.Z 1)]),kv "sdef" (.cQ [(.Z 1),(.Z 1)]),kv "class" (.fn 903),kv "module" (.cQ [(.Z 0),(.Z 1)]),kv "sclass" (.cQ [(.Z 1),(.Z 1)]),kv "alias" (.cQ [(.Z 0),(.Z 1)]),kv "undef" (.cQ [(.Z 0),(.Z 1)]),kv "leave" (.cQ [(.Z 1),(.Z 0)]),kv "out" (.cQ [(.Z 1),(.Z 0)]),kv "again" (.cQ [(.Z 1),(.Z 0)]),kv "caught" (.cQ [(.Z 1),(.Z 1)]),kv "setcaught" (.cQ [(.Z 1),(.Z 0)]),kv "defined" (.fn 904),kv "spreadto" (.fn 911),kv "respond" (.cQ [(.Z 1),(.Z 1)]),kv "islist" (.cQ [(.Z 1),(.Z 1)]),kv "istable" (.cQ [(.Z 1),(.Z 1)]),kv "listfits" (.cQ [(.Z 1),(.Z 1)]),kv "listat" (.cQ [(.Z 1),(.Z 1)]),kv "listpart" (.cQ [(.Z 1),(.Z 1)]),kv "tablehas" (.cQ [(.Z 1),(.Z 1)]),kv "tableat" (.cQ [(.Z 1),(.Z 1)]),kv "tablerest" (.cQ [(.Z 1),(.Z 1)]),kv "tableonly" (.cQ [(.Z 1),(.Z 1)]),kv "nomatch" (.cQ [(.Z 1),(.Z 0)]),kv "blockgiven" (.cQ [(.Z 0),(.Z 1)]),kv "fail" (.cQ [(.Z 0),(.Z 0)]),kv "builtin" (.cQ [(.Z 0),(.Z 1)]),kv "needclass" (.cQ [(.Z 1),(.Z 1)]),kv "toblock" (.cQ [(.Z 1),(.Z 1)]),kv "passing" (.cQ [(.Z 1),(.Z 0)])],
 [kv "push" (.ad "v"),kv "text" (.ad "t"),kv "tuck" (.ad "c"),kv "getl" (.ad "cc"),kv "setl" (.ad "cc"),kv "geti" (.ad "n"),kv "seti" (.ad "n"),kv "getg" (.ad "n"),kv "setg" (.ad "n"),kv "getc" (.ad "n"),kv "getcin" (.ad "n"),kv "setc" (.ad "n"),kv "list" (.ad "c"),kv "table" (.ad "c"),kv "range" (.ad "f"),kv "texts" (.ad "c"),kv "send" (.ad "nas"),kv "super" (.ad "ab"),kv "zsuper" (.ad "b"),kv "yield" (.ad "a"),kv "jump" (.ad "p"),kv "jumpif" (.ad "p"),kv "jumpunless" (.ad "p"),kv "jumpnil" (.ad "p"),kv "lambda" (.ad "c"),kv "def" (.ad "nc"),kv "sdef" (.ad "nc"),kv "class" (.ad "ncf"),kv "module" (.ad "nc"),kv "sclass" (.ad "c"),kv "alias" (.ad "nn"),kv "undef" (.ad "n"),kv "out" (.ad "s"),kv "defined" (.ad "sv"),kv "spreadto" (.ad "crc"),kv "respond" (.ad "n"),kv "listfits" (.ad "cf"),kv "listat" (.ad "i"),kv "listpart" (.ad "cc"),kv "tablehas" (.ad "v"),kv "tableat" (.ad "v"),kv "tablerest" (.ad "k"),kv "tableonly" (.ad "k"),kv "fail" (.ad "nt"),kv "builtin" (.ad "n")]]
noncomputable def MQ:Nat:=64
abbrev KE:=bZ→bS→Prop
abbrev KS:=ue→cV→bS→Prop
abbrev KL:=List bl→bS→Prop
abbrev cK:=Nat→List bZ→bS→KE→Prop
structure gB where
 T:rg
 C:cK
def lu{a:Type}(b:Option a)(K:a→Prop):Prop:=@LH a (fun c=>Prop) False K b
def gw(a:Option (bZ×bS))(K:KE):Prop:=@LH (bZ×bS) (fun c=>Prop) False (fun b=>@Prod.rec bZ bS (fun c=>Prop) K b) a
def pT(c:Bool)(b a:Prop):Prop:=@Gb (fun d=>Prop) a b c
def flw(b:ue)(a c:Prop)(d:bZ→Prop):Prop:=@ue.rec (fun e=>Prop) a c d b
def Vo(b:bZ)(K:bl→Prop):Prop:=@bZ.rec (fun a=>Prop) K (fun a=>False) (fun a=>False) b
def uP:List bZ→(List bl→Prop)→Prop
 |[],K=>K []
 |c::d,K=>Vo c fun a=>uP d fun b=>K (a::b)
def wf:cV→Nat→bZ→(cV→Prop)→Prop
 |[],_,_,_=>False
 |d::a,b,c,K=>match b with
  | 0=>K (O c::a)
  |b+1=>wf a b c fun a=>K (d::a)
def zw:List Nat→List bZ→cV→(cV→Prop)→Prop
 |[],b,a,K=>match b with
  |[] =>K a
  |_::_=>False
 |d::e,b,a,K=>match b with
  |[] =>False
  |c::b=>wf a d c fun a=>zw e b a K
def qL:List Nat→List bl→cV→(cV→Prop)→Prop
 |[],b,a,K=>match b with
  |[] =>K a
  |_::_=>False
 |d::e,b,a,K=>match b with
  |[] =>False
  |c::b=>wf a d (.f c) fun a=>qL e b a K
def jP(b:cV)(c:List Nat)(e:Bool)(a:bl)(K:cV→Prop):Prop:=pT e (match a with
 |.cQ d=>qL c d b K
 |_=>False) (qL c [a] b K)
def Wo:Nat→(cV→Prop)→Prop
 | 0,K=>K []
 |b+1,K=>Wo b fun a=>K (b1::a)
def QP:List bZ→Nat→(cV→Prop)→Prop
 |[],a,K=>Wo a K
 |c::d,a,K=>QP d a fun b=>K (O c::b)
def Y4:bl→(Sum Int b4→Prop)→Prop
 |.Z b,K=>K (.inl b)
 |.ad a,K=>K (.inr a)
 |_,_=>False
def Fq:List bl→(List (Sum Int b4×bl)→Prop)→Prop
 |[],K=>K []
 |a::b,K=>match b with
  |[] =>False
  |d::b=>Y4 a fun a=>Fq b fun c=>K ((a,d)::c)
noncomputable def sn(b a:Nat):Option Unit:=if b≤a then O () else b1
def qM(b:Bool)(c:bZ):Option (List bl):=if b then b1 else match c with
 |.f (.Z a)=>if a.natAbs≤1000000 then O (dL a) else b1
 |_=>b1
def w1(c:Bool)(d:bZ):Option (List bl):=if c then (match d with
 |.f (.a3 b)=>if b.length≤100000 then O (eV b) else b1
 |.f (.ad a)=>if a.cps.all (·<128)=ar∧a.cps.size≤100000 then O (eV (ld a)) else b1
 |_=>b1) else b1
def G5(d:Bool)(c e:bZ):Option (List bl):=if d then (match c with
 |.f (.a3 a)=>(match e with
  |.f (.a3 b)=>if a.length≤100000 then O (iC a b) else b1
  |_=>b1)
 |_=>b1) else b1
def oe(b:bZ):Option (List bl):=b.f?.bind fun a=>(si a).map (·.2)
def Fr(a:bS):bZ→bZ→Option (bZ×bS)
 |.f b,c=>(oe c).bind fun d=>iI a ar (b::d)
 |_,_=>b1
noncomputable def Vp(a:rg):bl→Bool
 |.fn c=>(a.p9[c]?).isSome
 |.kE b=>(a.e7[b]?).isSome
 |.bi _=>ar
 |_=>b2
def MR(b:rg)(a:bZ):Bool:=a.f?.any (Vp b)
def Vq(d:gB)(fz:Bool)(e:bZ)(c:List bZ)(b:bS)(K:KE):Prop:=match e with
 |.f (.fn a)=>pT (jJ a 1000) (d.C a c b K) False
 |.f (.kE f)=>d.C (1000+f) c b K
 |.f (.bi a)=>gw (eW b fz a c) K
 |_=>False
def Vr(c:gB)(a:oC)(b:bZ)(e:List bZ)(d:bS)(K:KE):Prop:=match a with
 |.fn f=>c.C f (b::e) d K
 |a=>gw (jk c.T d a b e) K
def Vs(a:bS→List bl→KL→Prop)(K:KL)(c:List bl)(b:bS):Prop:=a b c K
def og(c:cV→bS→List bl→KL→Prop)(d:cV)(e:List Nat)(f:Bool):List bl→bS→List bl→KL→Prop
 |[],b,a,K=>K a b
 |g::h,b,a,K=>jP d e f g fun i=>c i b a (Vs (og c d e f h) K)
def jQ(c:cV→bS→Prop)(K:KS)(e:ue)(a:cV)(b:bS):Prop:=flw e (c a b) (c a b) fun d=>K (.cw d) a b
def jZ(c:cV→bS→KS→Prop)(d:List Nat)(e:Bool)(K:KS):List bl→cV→bS→Prop
 |[],a,b=>K .cc a b
 |f::g,a,b=>jP a d e f fun h=>c h b (jQ (jZ c d e K g) K)
def kWh(c:cV→bS→KS→Prop)(d:cV→bS→Prop)(K:KS)(a:cV)(e:Bool)(b:bS):Prop:=pT e (c a b (jQ d K)) (K .cc a b)
def qb(c:cV→bS→(Bool→bS→Prop)→Prop)(a:cV→bS→KS→Prop)(K:KS):Nat→cV→bS→Prop
 | 0,_,_=>False
 |d+1,b,e=>c b e (kWh a (qb c a K d) K b)
section
variable(a:gB)(d b e:bS→KE→Prop)(c:bS→(List bZ→bS→Prop)→Prop)(K:KE)
def ZU(fz:Bool)(f:z8)(g h:bZ)(i:bS):Prop:=gw (pn i fz f g h) K
def abS(fz:Bool)(f:z8)(g:bZ)(h:bS):Prop:=b h (ZU K fz f g)
def abT(g:bZ)(f:bS):Prop:=lu (qa f g) fun h=>K (.f (.b3 (!h))) f
def abU(f:bZ)(h:bS):Prop:=lu (Y1 f) fun g=>K g h
def sp(g:Bool)(f:bS):Prop:=K (.f (.b3 g)) f
def abV(c:bZ→bS→(Bool→bS→Prop)→Prop)(f:bZ)(g:bS):Prop:=c f g (sp K)
def abW(g:bZ)(f:bS):Prop:=lu (qa f g) fun h=>pT h (d f K) (b f K)
def W1(fz:Bool)(g:bZ)(h:List bZ)(f:bS):Prop:=Vq a fz g h f K
def ZV(fz:Bool)(f:bZ)(g:bS):Prop:=pT (MR a.T f) (c g (W1 a K fz f)) False
def W2(h:oC)(g:bZ)(f:List bZ)(i:bS):Prop:=Vr a h g f i K
def ZW(i:b4)(g:bZ)(f:bS):Prop:=lu (jN a.T f g i) fun h=>c f (W2 a K h g)
def ZX(i:b4)(g:bZ)(f:bS):Prop:=lu (zv a.T f g i) fun h=>K h f
def ZY(g i:bZ)(f:bS):Prop:=lu (jX a.T f g i) fun h=>K (.f h) f
def abX(g:bZ)(f:bS):Prop:=b f (ZY a K g)
def abY(fz:Bool)(g f h:bZ)(i:bS):Prop:=gw (jY i fz g f h) K
def abZ(fz:Bool)(g f:bZ)(h:bS):Prop:=b h (abY K fz g f)
def kSl(fz:Bool)(g:bZ)(f:bS):Prop:=d f (abZ b K fz g)
def ab0(h:List bZ)(g:bS):Prop:=uP h fun f=>lu (sn f.length 100000) fun i=>K (.f (.cQ f)) g
def ZZ(fz:Bool)(h:List bZ)(f:bS):Prop:=uP h fun g=>gw (iI f fz g) K
def W3(h g:bZ)(f:bS):Prop:=gw (Fr f h g) K
def Z0(g:bZ)(f:bS):Prop:=b f (W3 K g)
def Vt(i:List bZ)(g:bS):Prop:=uP i fun h=>Fq h fun f=>pT (dY (f.length≤10∧(f.map (·.1)).Nodup)) (K (.cu g.length) (g++[O (.eg f)])) False
def Z1(h:List bl)(K:KL)(f:bZ)(g:bS):Prop:=Vo f fun i=>K (h++[i]) g
def JH(f:cV→bS→KE→Prop)(g:cV)(i:bS)(h:List bl)(K:KL):Prop:=f g i (Z1 h K)
def MS(fz:Bool)(g:List bl)(f:bS):Prop:=gw (iI f fz g) K
def ab1(g:bZ)(f:bS):Prop:=gw (Wn f g) K
def Wq(h:bS→KE→Prop)(g:bZ)(f:bS):Prop:=lu (qa f g) fun i=>pT i (h f K) (K g f)
def kOr(h:bS→KE→Prop)(g:bZ)(f:bS):Prop:=lu (qa f g) fun i=>pT i (K g f) (h f K)
end
def Y5(K:List bZ→bS→Prop)(a:bZ)(b:List bZ)(c:bS):Prop:=K (a::b) c
def kEs(b:bS→(List bZ→bS→Prop)→Prop)(K:List bZ→bS→Prop)(a:bZ)(c:bS):Prop:=b c (Y5 K a)
def kCs(d:gB)(b:Fo)(e:bZ)(K:Bool→bS→Prop)(c:bZ)(a:bS):Prop:=lu (fh d.T a b e c) fun f=>K f a
def ab2(d:gB)(c:Fo)(e:bZ)(g:bZ→bS→(Bool→bS→Prop)→Prop)(K:Bool→bS→Prop)(b:bZ)(a:bS):Prop:=lu (fh d.T a c e b) fun f=>pT f (g b a K) (K b2 a)
def Nm(d:Bool)(K:KL)(b:bZ)(c:bS):Prop:=lu (Dz d b) fun a=>lu (sn a.length 100000) fun e=>K a c
def W4(d:Bool)(K:KL)(a:bZ)(b:bS):Prop:=lu (qM d a) fun c=>K c b
def Z2(d:Bool)(K:KL)(a:bZ)(b:bS):Prop:=lu (w1 d a) fun c=>K c b
def Z3(e:Bool)(K:KL)(b a:bZ)(c:bS):Prop:=lu (G5 e b a) fun d=>K d c
def ab3(d:bS→KE→Prop)(c:Bool)(K:KL)(a:bZ)(b:bS):Prop:=d b (Z3 c K a)
def lS(K:Bool→bS→Prop)(b:bZ)(a:bS):Prop:=lu (qa a b) fun c=>K c a
def W5(c:bS→(Bool→bS→Prop)→Prop)(K:Bool→bS→Prop)(b:bZ)(a:bS):Prop:=lu (qa a b) fun d=>pT d (c a K) (K b2 a)
def Z4(c:bS→List bl→KL→Prop)(b:List bl)(K:KL)(d:Bool)(a:bS):Prop:=pT d (c a b K) (K b a)
def Af(c:cV→bS→(Bool→bS→Prop)→Prop)(b:cV→bS→List bl→KL→Prop)(a:cV)(e:bS)(d:List bl)(K:KL):Prop:=c a e (Z4 (b a) d K)
def Nn(b:cV→bS→List bl→KL→Prop)(c:cV)(f:List Nat)(g:Bool)(a:List bl)(K:KL)(d:List bl)(e:bS):Prop:=lu (sn a.length 1000000) fun h=>og b c f g d e a K
mutual
def vE(X:gB):cv→cV→bS→KE→Prop
 |.bX,_,σ,K=>K (.f .bX) σ
 |.b3 b,_,σ,K=>K (.f (.b3 b)) σ
 |.Z i,_,σ,K=>K (.f (.Z i)) σ
 |.ad s,_,σ,K=>K (.f (.ad s)) σ
 |.bW x,ρ,σ,K=>lu (ρ[x]?).join fun v=>K v σ
 |.b5 g,_,σ,K=>lu (X.T.pS[g]?) fun p=>K (.f p.2) σ
 |.eD fz op a b,ρ,σ,K=>vE X a ρ σ (abS (vE X b ρ) K fz op)
 |.gA a,ρ,σ,K=>vE X a ρ σ (abT K)
 |.pQ a,ρ,σ,K=>vE X a ρ σ (abU K)
 |.ev xs,ρ,σ,K=>QQ X xs ρ σ K
 |.hK xs,ρ,σ,K=>Y6 X xs ρ σ K
 |.b7 a cs,ρ,σ,K=>vE X a ρ σ (abV K (W6 X cs ρ))
 |.fx c a b,ρ,σ,K=>vE X c ρ σ (abW (vE X a ρ) (vE X b ρ) K)
 |.b0 fz f args,ρ,σ,K=>vE X f ρ σ (ZV X (II X args ρ) K fz)
 |.eQ o name args,ρ,σ,K=>vE X o ρ σ (ZW X (II X args ρ) K name)
 |.bY o name,ρ,σ,K=>vE X o ρ σ (ZX X K name)
 |.cL o i,ρ,σ,K=>vE X o ρ σ (abX X (vE X i ρ) K)
 |.fP fz o lo hi,ρ,σ,K=>vE X o ρ σ (kSl (vE X lo ρ) (vE X hi ρ) K fz)
 |.cQ xs,ρ,σ,K=>II X xs ρ σ (ab0 K)
 |.a3 fz xs,ρ,σ,K=>II X xs ρ σ (ZZ K fz)
 |.tr x rest,ρ,σ,K=>vE X x ρ σ (Z0 (vE X rest ρ) K)
 |.eg kvs,ρ,σ,K=>II X kvs ρ σ (Vt K)
 |.eh fz elt gens,ρ,σ,K=>pT (Vn ρ (h5 gens)) (CJ X gens (JH (vE X elt)) ρ σ [] (MS K fz)) False
 |.pR e,ρ,σ,K=>vE X e ρ σ (ab1 K)
 |.sN,_,_,_=>False
def II(X:gB):dS→cV→bS→(List bZ→bS→Prop)→Prop
 |.N,_,σ,K=>K [] σ
 |.J e r,ρ,σ,K=>vE X e ρ σ (kEs (II X r ρ) K)
def QQ(X:gB):dS→cV→bS→KE→Prop
 |.N,_,_,_=>False
 |.J e r,ρ,σ,K=>match r with
  |.N=>vE X e ρ σ K
  |_=>vE X e ρ σ (Wq K (QQ X r ρ))
def Y6(X:gB):dS→cV→bS→KE→Prop
 |.N,_,_,_=>False
 |.J e r,ρ,σ,K=>match r with
  |.N=>vE X e ρ σ K
  |_=>vE X e ρ σ (kOr K (Y6 X r ρ))
def W6(X:gB):se→cV→bZ→bS→(Bool→bS→Prop)→Prop
 |.N,_,_,_,_=>False
 |.J op e r,ρ,a,σ,K=>vE X e ρ σ (match r with
  |.N=>kCs X op a K
  |_=>ab2 X op a (W6 X r ρ) K)
def Y7(X:gB)(tp:Bool):ub→cV→bS→KL→Prop
 |.cE e,ρ,σ,K=>vE X e ρ σ (Nm tp K)
 |.gb e,ρ,σ,K=>vE X e ρ σ (W4 tp K)
 |.yC e,ρ,σ,K=>vE X e ρ σ (Z2 tp K)
 |.zt a b,ρ,σ,K=>vE X a ρ σ (ab3 (vE X b ρ) tp K)
def mn(X:gB):dS→cV→bS→(Bool→bS→Prop)→Prop
 |.N,_,σ,K=>K ar σ
 |.J e r,ρ,σ,K=>vE X e ρ σ (W5 (mn X r ρ) K)
def CJ(X:gB):kG→(cV→bS→List bl→KL→Prop)→cV→bS→List bl→KL→Prop
 |.N,g,ρ,σ,acc,K=>g ρ σ acc K
 |.J xs tp it ifs r,g,ρ,σ,acc,K=>Y7 X tp it ρ σ (Nn (Af (mn X ifs) (CJ X r g)) ρ xs tp acc K)
end
def Z5(K:KS)(a:cV)(c:bZ)(b:bS):Prop:=K .cc a b
def Wr(K:KS)(a:cV)(d:Nat)(b:bZ)(c:bS):Prop:=wf a d b fun a=>K .cc a c
def Z6(K:KS)(a:cV)(d:List Nat)(b:List bZ)(c:bS):Prop:=lu (sn b.length 1000) fun e=>zw d b a fun a=>K .cc a c
def ab4(K:KS)(a:cV)(e:List Nat)(b:bZ)(d:bS):Prop:=lu (oe b) fun c=>qL e c a fun a=>K .cc a d
def Z7(K:bS→Prop)(b a d:bZ)(c:bS):Prop:=lu (l4 c a d b) K
def Z8(d:bS→KE→Prop)(K:bS→Prop)(b a:bZ)(c:bS):Prop:=d c (Z7 K b a)
def QR(c d:bS→KE→Prop)(K:bS→Prop)(a:bZ)(b:bS):Prop:=c b (Z8 d K a)
def Z9(h i a d:bS→KE→Prop)(K:bS→Prop)(c b:bZ)(e:bS):Prop:=Vo c fun f=>Vo b fun g=>QR h i (QR a d K (.f g)) (.f f) e
def ab5(e f g a c:bS→KE→Prop)(K:bS→Prop)(b:bZ)(d:bS):Prop:=e d (Z9 f g a c K b)
def ab6(K:KS)(b:cV)(a:bZ)(c:bS):Prop:=K (.cw a) b c
def ab7(c d:bS→KS→Prop)(K:KS)(b:bZ)(a:bS):Prop:=lu (qa a b) fun e=>pT e (c a K) (d a K)
def aaa(a:cV→bS→KS→Prop)(e:List Nat)(f:Bool)(K:KS)(b:cV)(c:List bl)(d:bS):Prop:=jZ a e f K c b d
def zx(c:cV→bS→KE→Prop)(b:cV)(a:bS)(K:Bool→bS→Prop):Prop:=c b a (lS K)
def Dk(c:cV→bS→KS→Prop)(K:KS)(e:ue)(a:cV)(b:bS):Prop:=flw e (c a b K) (K .gX a b) fun d=>K (.cw d) a b
mutual
def vS(X:gB):Cy→cV→bS→KS→Prop
 |.df e,ρ,σ,K=>vE X e ρ σ (Z5 K ρ)
 |.ch x e,ρ,σ,K=>vE X e ρ σ (Wr K ρ x)
 |.ep xs es,ρ,σ,K=>II X es ρ σ (Z6 K ρ xs)
 |.i0 xs e,ρ,σ,K=>vE X e ρ σ (ab4 K ρ xs)
 |.jc o i e,ρ,σ,K=>vE X e ρ σ (QR (vE X o ρ) (vE X i ρ) (K .cc ρ))
 |.oW o i o' i' a b,ρ,σ,K=>vE X a ρ σ (ab5 (vE X b ρ) (vE X o ρ) (vE X i ρ) (vE X o' ρ) (vE X i' ρ) (K .cc ρ))
 |.cw e,ρ,σ,K=>vE X e ρ σ (ab6 K ρ)
 |.cB c a b,ρ,σ,K=>vE X c ρ σ (ab7 (fG X a ρ) (fG X b ρ) K)
 |.p8 n c b,ρ,σ,K=>qb (zx (vE X c)) (fG X b) K n ρ σ
 |.fT xs tp it b,ρ,σ,K=>Y7 X tp it ρ σ (aaa (fG X b) xs tp K ρ)
 |.gX,ρ,σ,K=>K .gX ρ σ
 |.vY b,ρ,σ,K=>fG X b ρ σ K
 |.sN,_,_,_=>False
def fG(X:gB):cW→cV→bS→KS→Prop
 |.N,ρ,σ,K=>K .cc ρ σ
 |.J s r,ρ,σ,K=>vS X s ρ σ (Dk (fG X r) K)
end
def aab(d:cV→bS→(List bZ→bS→Prop)→Prop)(b:cV)(K:List bZ→bS→Prop)(a:bZ)(c:bS):Prop:=d b c (Y5 K a)
def G6(b:gB):List (b4×cv)→cV→bS→(List bZ→bS→Prop)→Prop
 |[],_,a,K=>K [] a
 |e::d,c,a,K=>vE b e.2 c a (aab (G6 b d) c K)
noncomputable def l5(b:dz)(a:List bZ):Option (List bZ):=
 if a.length=b.b9 then O a else if a.length+b.c3.length=b.b9 then O (a++b.c3.map .f) else b1
def lG(e:Bool)(d:Nat)(a:KE)(g:ue)(h:cV)(b:bS):Prop:=flw g (a (.f .bX) (b.take d)) False fun c=>pT e (a c b) (Vo c fun f=>a (.f f) (b.take d))
def Ag(d:gB)(a:dz)(g:cW)(f:List bZ)(b:bS)(c:KE):Prop:=QP f (a.cn.length-a.b9) fun e=>fG d g e b (lG a.cR b.length c)
def Ws(fz:Bool)(d e:Nat)(c:KE)(a:List bZ)(b:bS):Prop:=pT fz (uP a fun a=>c (.f (.gJ d a)) (b.take e)) (c (.fK b.length) (b++[O (.jW d a)]))
def Y8(c:gB)(h:lb)(g:Nat)(f:List (b4×cv))(e:List bZ)(a:bS)(b:KE):Prop:=QP e 0 fun d=>G6 c f (b1::d) a (Ws h.ey g a.length b)
def vC(a:rg):Nat→cK
 | 0,_,_,_,_=>False
 |h+1,c,e,g,f=>pT (jJ c 1000)
  (lu (a.p9[c]?) fun b=>match b.cN with
   |.cA l=>lu (l5 b e) fun k=>Ag ⟨a,vC a h⟩ b l k g f
   |.tu _ _=>False)
  (lu (a.e7[c-1000]?) fun d=>lu (a.p9[d.gv]?) fun b=>match b.cN with
   |.tu j i=>pT (dY (j=c-1000∧e.length=b.b9∧i.map (·.1)=d.dj)) (Y8 ⟨a,vC a h⟩ d j i e g f) False
   |.cA _=>False)
inductive Op where
 |d0|iQ|kB|uQ|uR|kq|g9|kC|uS|uT|uU|hV|e5|eL|cI|gy|dt|ew|nv|sq|j0|gx (u:Unit)
noncomputable def Op.cT:Op→b4
 |.d0=>"push" |.iQ=>"self" |.kB=>"getl" |.uQ=>"geti" |.uR=>"getg" |.kq=>"dup" |.g9=>"blockgiven" |.kC=>"setl" |.uS=>"seti" |.uT=>"setg" |.uU=>"setc"
 |.hV=>"jumpif" |.e5=>"jumpunless" |.eL=>"jumpnil" |.cI=>"jump" |.gy=>"pop" |.dt=>"swap" |.ew=>"leave" |.nv=>"text" |.sq=>"undef" |.j0=>"lambda" |.gx _=>"fail"
def Op.tb{a:Type}(i u x c k w b h t l f j e d p r q s v y o g:a)(n:Op):a:=@Op.rec (fun m=>a) i u x c k w b h t l f j e d p r q s v y o (fun m=>g) n
def Op.ctorIdx:Op→Nat:=Op.tb 0 1 2 3 4 5 6 7 8 9 10 11 12 13 14 15 16 17 18 19 20 21
noncomputable def fu:List Op:=[.d0,.iQ,.kB,.uQ,.uR,.kq,.g9,.kC,.uS,.uT,.uU,.hV,.e5,.eL,.cI,.gy,.dt,.ew,.nv,.sq,.j0,.gx ()]
def Op.eI(a:Nat):Op:=fu[a]?.getD (.gx ())
def Op.Vu(a:Op):Op.eI a.ctorIdx=a:=by induction a<;>rfl
noncomputable instance:DecidableEq Op:=fun b a=>decidable_of_iff (b.ctorIdx=a.ctorIdx) ⟨fun c=>(Op.Vu b).symm.trans ((congrArg Op.eI c).trans (Op.Vu a)),congrArg Op.ctorIdx⟩
def Op.b8:Op→Bool:=Op.tb b2 b2 b2 b2 b2 b2 b2 b2 b2 b2 b2 ar ar ar ar b2 b2 b2 b2 b2 b2 b2
def Op.cg:Op→Bool:=Op.tb b2 b2 b2 b2 b2 b2 b2 b2 b2 b2 b2 ar ar b2 b2 b2 b2 b2 b2 b2 b2 b2
def Op.dR:Op→Bool:=Op.tb b2 b2 b2 b2 b2 b2 b2 b2 b2 b2 b2 b2 b2 b2 ar b2 b2 ar b2 b2 b2 ar
def Op.i6:Op→Bool:=Op.tb ar ar ar ar ar ar ar b2 b2 b2 b2 b2 b2 b2 b2 b2 b2 b2 b2 b2 b2 b2
def Op.fQ:Op→Bool:=Op.tb b2 b2 b2 b2 b2 b2 b2 ar ar ar ar b2 b2 b2 b2 b2 b2 b2 b2 b2 b2 b2
def Op.c0:Op→Nat:=Op.tb 0 0 0 0 0 1 0 1 1 1 1 1 1 1 0 1 2 1 0 0 0 0
def Op.fS:Op→Nat:=Op.tb 1 1 1 1 1 2 1 0 0 0 0 0 0 1 0 0 2 0 1 1 1 0
structure R where
 bV:Op
 t:Nat
 a:bl
 b:bl
 c:bl
 e6:Int
structure Ct where
 mF:bl
 d1:Nat
 iz:Nat
 cP:Nat
 dG:Nat
noncomputable def Ct.c4(a:Ct)(b:Nat):Bool:=dY (a.d1≤b)&&dY (b<a.iz)
noncomputable def gZ:bl→Bool
 |.bX|.b3 _=>ar
 |.Z a=>a==0||a==5
 |.ad b=>(["s","self","text","undef","lambda","way"] :List b4).contains b
 |_=>b2
def sr(b:bl):Bool:=b.kA.any fun a=>a==0||a==1
noncomputable def dW:bl→Bool
 |.bX=>ar
 |_=>b2
def lv(a:b4)(b:bl):Bool:=b.tv.any fun c=>c==a
def rP(b:Int)(a:bl):Bool:=a.kA.any fun c=>c==b
def R.cF(f:Bool)(a:R):Bool:=
 have b:=dW a.a&&dW a.b&&dW a.c
 have c:=rP 0 a.a&&sr a.b&&dW a.c
 have e:=lv "@x" a.a&&dW a.b&&dW a.c
 have d:=lv "$x" a.a&&dW a.b&&dW a.c
 a.bV.tb (gZ a.a&&dW a.b&&dW a.c) b c e d b b c e d (lv "C" a.a&&dW a.b&&dW a.c) b b b b b b b
  ((lv "t" a.a||lv "u" a.a)&&dW a.b&&dW a.c) (lv "u" a.a&&dW a.b&&dW a.c) (f&&rP 0 a.a&&dW a.b&&dW a.c) (lv "E" a.a&&lv "t" a.b&&dW a.c)
abbrev Kd:=List (Sum Int b4×bl)
structure ej where
 pc:Nat
 jm:List bl
 fU:Kd
 ek:List bl
noncomputable def dI:bl→Bool
 |.bX=>b2
 |.b3 a=>a
 |_=>ar
def oG(a:R):bl:=a.bV.tb a.a a.a a.b a.a a.a a.a a.a a.b a.a a.a a.a a.a a.a a.a a.a a.a a.a a.a a.a a.a a.a a.a
inductive nw where
 |cc (jm:List bl) (kd:Kd) (d:Option bl)|cI (jm:List bl) (b:Bool)|gG (d:bl)|gx
def ql(e:List bl)(d:bl→List bl→Option nw):Option nw:=@List.rec bl (fun a=>Option nw) b1 (fun b c a=>d b c) e
noncomputable def Wt(b:List bl)(c:Kd)(a:b4):Option nw:=O (.cc (.ad a::b) c (O (.ad a)))
def yP(e:R)(d:List bl)(a:Kd):Option nw:=(jM (oG e)).bind fun b=>(fA b a).map fun c=>.cc (c::d) a b1
def wg(a:R)(g:List bl)(d:Kd):Option nw:=ql g fun b e=>(jM (oG a)).bind fun c=>(gY b).map fun f=>.cc e (gF d c b) (O (.cQ [.ad a.bV.cT,oG a,.ad f]))
def Ah(f:Bool)(e:R)(a:List bl)(b:Kd):Option nw:=e.bV.tb
 (O (.cc (e.a::a) b b1)) (O (.cc (.ad "self"::a) b b1)) (yP e a b) (yP e a b) (yP e a b)
 (ql a fun c d=>O (.cc (c::c::d) b b1)) (O (.cc (.b3 f::a) b b1)) (wg e a b) (wg e a b) (wg e a b) (wg e a b)
 (ql a fun c d=>O (.cI d (dI c))) (ql a fun c d=>O (.cI d (!dI c))) (ql a fun c d=>O (.cI (c::d) (dW c))) (O (.cI a ar))
 (ql a fun g d=>O (.cc d b b1)) (ql a fun c d=>ql d fun h d=>O (.cc (h::c::d) b b1)) (ql a fun c g=>(gY c).map fun i=>.gG (.cQ [.ad "leave",.ad i]))
 (Wt a b "text") (Wt a b "undef") (Wt a b "lambda") (O .gx)
noncomputable def G7(a:List bl)(b:Option bl):List bl:=b.elim a fun c=>a++[c]
noncomputable def zy(a:List bl)(c:List bl)(e:Kd)(d:Option Ct):Sum (List bl) ej:=d.elim (.inl (a++[.ad "fail"])) fun b=>.inr ⟨b.cP,.ad "way"::c.drop (c.length-b.dG),e,a++[.ad "fail"]⟩
def rQ(f:List Ct)(d j:Nat)(i:List bl)(e:Kd)(a:List bl):nw→Sum (List bl) ej
 |.cc b g c=>.inr ⟨d+1,b,g,G7 a c⟩
 |.cI b h=>.inr ⟨cond h j (d+1),b,e,a⟩
 |.gG c=>.inl (a++[c])
 |.gx=>zy a i e (f.find? (·.c4 d))
def eT(d:List Ct)(c:Bool)(e:Nat)(b:R)(a:ej):Option (Sum (List bl) ej):=(Ah c b a.jm a.fU).map (rQ d e b.t a.jm a.fU a.ek)
structure Nc where
 a2:List (Option R)
 f6:List Ct
 cp:List Nat
noncomputable def MT:List (Option R)→Nat→Option (Nat×R)
 |[],_=>b1
 |c::d,a=>c.elim (MT d (a+1)) fun b=>O (a,b)
def G8(b:List (Option R))(a:Nat):Option (Nat×R):=MT (b.drop a) a
inductive NP(a2:List (Option R)):Nat→Nat→Prop
 |cy (a:Nat):NP a2 a a
 |d9 {a b:Nat} (h:a2[a]? =O b1) (k:NP a2 (a+1) b):NP a2 a b
def NP.o9{b:List (Option R)}{a:Nat}(c:b[a]? =O b1):NP b a (a+1):=.d9 c (.cy _)
def IJ{c:Type}{a:List c}{b:Nat}{d:c}(e:a[b]? =O d):a.drop b=d::a.drop (b+1):=by
 obtain ⟨f,rfl⟩:=fJ.mp e
 exact TR f
def DA{d:Type}{a f:List d}{b:Nat}{c:d}(e:a.drop b=c::f):a[b]? =O c∧a.drop (b+1)=f:=by
 have g:(a.drop b)[0]? =O c:=by refine bT e ?_;rfl
 rw [L8] at g
 exact ⟨g,by (refine gT Uj ?_;refine bT e ?_);rfl⟩
def JI{c:List (Option R)}{a:Nat}{b:R}(d:c[a]? =O (O b)):G8 c a=O (a,b):=by
 unfold G8
 refine bT (IJ d) ?_;rfl
def Rc{a:List (Option R)}{b c:Nat}(e:NP a b c):G8 a b=G8 a c:=by
 induction e with
 |cy=>rfl
 |d9 f _ d=>
  refine gT d ?_
  unfold G8
  refine bT (IJ f) ?_;rfl
def DB{e:List (Option R)}{c:Nat×R}:∀{b:List (Option R)}{a:Nat},e.drop a=b→MT b a=O c→NP e a c.1∧e[c.1]? =O (O c.2)
 |some i::b,a,d,f=>dg f▸⟨.cy _,(DA d).1⟩
 |none::b,a,d,f=>
  have h:=DA d
  have g:=DB h.2 f
  ⟨.d9 h.1 g.1,g.2⟩
def kZ(b:Nc)(c:Bool):Nat→ej→Option (List bl×Bool)
 | 0,a=>O (a.ek,b2)
 |g+1,a=>(G8 b.a2 a.pc).bind fun d=>(eT b.f6 c d.1 d.2 a).bind fun f=>match f with
  |.inl h=>O (h,ar)
  |.inr e=>kZ b c g e
def Lq(a b:List bl×Bool):Prop:=a.1 <+: b.1∧(a.2=ar→b.1=a.1∧b.2=ar)
def Lq.cy(a:List bl×Bool):Lq a a:=⟨jU _,fun b=>⟨rfl,b⟩⟩
def Lq.ci{e f d:List bl×Bool}(a:Lq e f)(b:Lq f d):Lq e d:=⟨a.1.trans b.1,fun c=>⟨(b.2 (a.2 c).2).1.trans (a.2 c).1,(b.2 (a.2 c).2).2⟩⟩
def lf{d c:Type}{b:Option d}{f:d→Option c}{g:c}{e:Prop}(h:b.bind f=O g)(i:∀a,b=O a→f a=O g→e):e:=by
 induction b with
 |none=>exact cG h
 |some a=>exact i a rfl h
def fV{d b:Type}{c:Option d}{f:d→b}{g:b}{e:b→Prop}(h:c.map f=O g)(i:∀a,c=O a→e (f a)):e g:=by
 induction c with
 |none=>exact cG h
 |some a=>exact dg h▸i a rfl
def qN{b:Nc}{d:Bool}{a e g:Nat}{h c:List bl}{f:Kd}(j:NP b.a2 e g):kZ b d a ⟨e,h,f,c⟩=kZ b d a ⟨g,h,f,c⟩:=by
 induction a with
 |zero=>rfl
 |succ a=>exact congrArg (fun i=>jG i _) (Rc j)
def rk{a:Nc}{c:Bool}{e:Nat}{b:ej}{f:R}(i:a.a2[b.pc]? =O (O f)):kZ a c (e+1) b=(eT a.f6 c b.pc f b).bind fun d=>match d with
 |.inl h=>O (h,ar)
 |.inr g=>kZ a c e g:=congrArg (fun d=>jG d _) (JI i)
def xr{d:Nc}{f:Bool}{j n:Nat}{l m:List bl}{k:Kd}{i:List bl×Bool}{o:Prop}(a:kZ d f (j+1) ⟨n,l,k,m⟩=O i)
  (t:∀b p c,NP d.a2 n b→d.a2[b]? =O (O p)→eT d.f6 f b p ⟨b,l,k,m⟩=O c→(∀e,c=.inl e→i=(e,ar))→(∀g,c=.inr g→kZ d f j g=O i)→o):o:=
 lf a fun b q a=>lf a fun c s a=>by
  obtain ⟨r,u⟩:=DB rfl q
  refine t b.1 b.2 c r u s (fun e h=>?_) fun g h=>?_
  ·rw [h] at a;exact (dg a).symm
  ·rw [h] at a;exact a
def nW{c e:List bl}{f:Kd}{b:Option Ct}{d:Sum (List bl) ej→Prop}(g:b=b1→d (.inl (c++[.ad "fail"])))(h:∀a,b=O a→d (.inr ⟨a.cP,.ad "way"::e.drop (e.length-a.dG),f,c++[.ad "fail"]⟩)):d (zy c e f b):=by
 induction b with
 |none=>exact g rfl
 |some a=>exact h a rfl
def Ol(a:List bl):∀b,a <+: G7 a b
 |none=>jU _
 |some c=>vP _ _
noncomputable def By:Sum (List bl) ej→List bl
 |.inl b=>b
 |.inr a=>a.ek
def EX{f:List Ct}{e:Bool}{k:Nat}{j:R}{b:ej}{a:Sum (List bl) ej}(h:eT f e k j b=O a):b.ek <+: By a:=
 fV (e:=fun a=>b.ek <+: By a) h fun g c=>by
  induction g with
  |cc i l d=>exact Ol _ d
  |cI i m=>exact jU _
  |gG d=>exact vP _ _
  |gx=>exact nW (d:=fun a=>b.ek <+: By a) (fun c=>vP _ _) fun c c=>vP _ _
def HJ{i:Nc}{e:Bool}:∀{b:Nat}{a:ej}{c:List bl×Bool},kZ i e b a=O c→a.ek <+: c.1:=by
 intro b
 induction b with
 |zero=>
  intro a c d
  exact dg d▸jU _
 |succ b l=>
  intro a c d
  exact xr d fun o p h f f j g n=>(EX j).trans (by
  induction h with
  |inl m=>refine bT (g m rfl) ?_;exact jU _
  |inr k=>exact l (n k rfl))
def dT{a:Type}{b:a→Prop}{c d:a}(e:O c=O d)(f:b c):b d:=dg e▸f
def fc{c:List bl}{e:bl→List bl→Option nw}{f:nw}{d:Prop}(g:ql c e=O f)(h:∀a b,c=a::b→e a b=O f→d):d:=by
 induction c with
 |nil=>exact cG g
 |cons a b=>exact h a b rfl g
def JJ(a:Op)(e:List bl)(f:Kd):nw→Prop
 |.cc b g c=>a.dR=b2∧b.length+a.c0=e.length+a.fS
 |.cI b d=>a.b8=ar∧(d=b2→a.dR=b2)
 |.gG c=>True
 |.gx=>a=.gx ()
def MU{h:R}{g:List bl}{c:Kd}{e:nw}{f:nw→Prop}(d:yP h g c=O e)(j:∀b a,jM (oG h)=O b→fA b c=O a→f (.cc (a::g) c b1)):f e:=
 lf d fun b k d=>fV d fun a i=>j b a k i
def MV{f:R}{j:List bl}{i:Kd}{g:nw}{h:nw→Prop}(b:wg f j i=O g)(k:∀a c d e,j=a::c→jM (oG f)=O d→gY a=O e→h (.cc c (gF i d a) (O (.cQ [.ad f.bV.cT,oG f,.ad e])))):h g:=
 fc b fun a c m b=>lf b fun d n b=>fV b fun e l=>k a c d e m n l
def Om{a:R}{d:List bl}{c:Kd}{b:nw}(e:a.bV.dR=b2)(i:a.bV.c0=0)(g:a.bV.fS=1)(h:yP a d c=O b):JJ a.bV d c b:=MU h fun k j f f=>⟨e,by (refine bT i ?_;refine bT g ?_);rfl⟩
def On{a:R}{d:List bl}{c:Kd}{b:nw}(e:a.bV.dR=b2)(j:a.bV.c0=1)(h:a.bV.fS=0)(i:wg a d c=O b):JJ a.bV d c b:=MV i fun k l m n g f f=>⟨e,by (refine bT j ?_;refine bT h ?_;refine bT g ?_);rfl⟩
def Oo{c:Op}{g:List bl}{j m:Kd}{k:Option bl}{e:nw}{f:bl→List bl→List bl}(h:c.dR=b2)(l:∀a b,(f a b).length+c.c0=(a::b).length+c.fS)(d:(ql g fun a b=>O (.cc (f a b) m k))=O e):JJ c g j e:=fc d fun a b i d=>dT d ⟨h,i▸l a b⟩
def DC{a:Op}{f:List bl}{h:Kd}{d:nw}{i:bl→List bl→List bl}{j:bl→Bool}(g:a.dR=b2)(k:a.b8=ar)(c:(ql f fun b e=>O (.cI (i b e) (j b)))=O d):JJ a f h d:=fc c fun b e m c=>dT c ⟨k,fun l=>g⟩
def xt{l:Bool}{e:R}{g:List bl}{f:Kd}{h:nw}:Ah l e g f=O h→JJ e.bV g f h:=by
 refine bU fun i=>?_
 obtain ⟨m,q,t,v,r,s⟩:=e
 refine i ?_;try clear i
 induction m
 case kB|uQ|uR=>exact Om rfl rfl rfl
 case kC|uS|uT|uU=>exact On rfl rfl rfl
 case kq|gy=>exact Oo rfl fun c c=>rfl
 case dt=>exact fun a=>fc a fun d b j a=>fc a fun o p n a=>dT a ⟨rfl,by (refine bT j ?_;refine bT n ?_);rfl⟩
 case hV|e5=>exact DC (i:=fun c b=>b) rfl rfl
 case eL=>exact DC (i:=fun d b=>d::b) rfl rfl
 case cI=>exact fun a=>dT a ⟨rfl,fun k=>dy k⟩
 case ew=>exact fun a=>fc a fun d b j a=>fV a fun u c=>trivial
 case gx=>exact fun a=>dT a rfl
 all_goals exact fun a=>dT a ⟨rfl,rfl⟩
inductive cx(X:Nc):Nat→Prop
 |dH {p:Nat} (h:p∈X.cp):cx X p
 |lg {p:Nat} (h:cx X p) (e:X.a2[p]? =O b1):cx X (p+1)
 |eK {p:Nat} {r:R} (h:cx X p) (e:X.a2[p]? =O (O r)) (k:r.bV.dR=b2):cx X (p+1)
 |cI {p:Nat} {r:R} (h:cx X p) (e:X.a2[p]? =O (O r)) (k:r.bV.b8=ar):cx X r.t
 |dJ {p:Nat} {r:R} {c:Ct} (h:cx X p) (e:X.a2[p]? =O (O r)) (hc:c∈X.f6) (k:c.c4 p=ar):cx X c.cP
structure yQ(X:Nc)(h:Nat→Nat)(p:Nat)(r:R):Prop where
 c0:r.bV.c0≤h p
 eK:r.bV.dR=b2→h (p+1)+r.bV.c0=h p+r.bV.fS
 cI:r.bV.b8=ar→h r.t+r.bV.c0=h p+r.bV.fS
 dJ:∀c∈X.f6,c.c4 p=ar→h c.cP=c.dG+1
 gx:r.bV=.gx ()→∀c∈X.f6,c.c4 p=ar→c.dG≤h p
structure eb(X:Nc)(h:Nat→Nat):Prop where
 dH:∀p∈X.cp,h p=0
 kJ:∀p,cx X p→p<X.a2.length
 lg:∀p,cx X p→X.a2[p]? =O b1→h (p+1)=h p
 dh:∀p r,cx X p→X.a2[p]? =O (O r)→yQ X h p r
def fm(b:Nc)(c:Bool):Prop:=∀(d:Nat)(a:R),b.a2[d]? =O (O a)→a.cF c=ar
noncomputable def MW:List (Sum Int b4):=[.inl 0,.inl 1,.inr "@x",.inr "$x"]
def DD(c:Kd):Prop:=∀(a:Sum Int b4),a∈MW→∃b,fA a c=O b∧gZ b=ar
def ug(h:Kd)(c b:Sum Int b4)(e:bl):fA b (gF h c e)=if b=c then O e else fA b h:=by
 unfold fA gF
 by_cases i:h.any (fun a=>dY (a.1=c))=ar
 ·rw [if_pos i,List.find?_map,show ((fun a:Sum Int b4×bl=>dY (a.1=b)) ∘ fun a=>if a.1=c then (a.1,e) else a)=fun a=>dY (a.1=b) from funext fun a=>by
   show dY ((if a.1=c then (a.1,e) else a).1=b)=_
   split<;>rfl]
  cases l:h.find? fun a=>dY (a.1=b) with
  |none=>
   refine bU fun k=>?_
   obtain ⟨d,j,g⟩:=tS.mp i
   refine k ?_;try clear k
   by_cases f:b=c
   ·exact absurd (f▸g) (T8.mp l d j)
   ·refine bT (if_neg f) ?_;rfl
  |some d=>
   obtain rfl:d.1=b:=of_decide_eq_true (Md (p:=fun a:Sum Int b4×bl=>dY (a.1=b)) l)
   show O (if d.1=c then (d.1,e) else d).2=_
   split<;>rfl
 ·(refine bT (if_neg i) ?_;rw [List.find?_append])
  by_cases f:b=c
  ·subst f
   (rewrite [T8.mpr fun d j g=>i (tS.mpr ⟨d,j,g⟩)];refine bT (if_pos rfl) ?_;rewrite [tT];refine bT (decide_eq_true (rfl:(b,e).1=b)) ?_)
   rfl
  ·(refine bT (if_neg f) ?_;rewrite [tT];refine bT (decide_eq_false (show¬(c,e).1=b from fun g=>f g.symm)) ?_)
   show ((h.find? _).or b1).map _=_
   (refine bT Option.or_none ?_;rfl)
def DD.fS{b:Kd}(e:DD b)(d:Sum Int b4){a:bl}(c:gZ a=ar):DD (gF b d a):=fun f g=>by
 rw [ug]
 split
 ·exact ⟨a,rfl,c⟩
 ·exact e f g
def oX{b c:Bool}{a:Prop}(f:(b||c)=ar)(d:b=ar→a)(e:c=ar→a):a:=(nR.mp f).elim d e
def eE{b d:Bool}{a:Prop}(c:(b&&d)=ar)(e:b=ar→d=ar→a):a:=e (iX.mp c).1 (iX.mp c).2
def G9{c:Type}{b:Option c}{e:c→Bool}{d:Prop}(f:b.any e=ar)(g:∀a,b=O a→e a=ar→d):d:=by
 induction b with
 |none=>exact dy f
 |some a=>exact g a rfl f
def No{a:bl}{c:Int}{b:bl→Prop}(d:a.kA=O c)(e:b (.Z c)):b a:=by
 cases a<;>first|exact dg d▸e|exact cG d
def W7{a:bl}{c:b4}{b:bl→Prop}(d:a.tv=O c)(e:b (.ad c)):b a:=by
 cases a<;>first|exact dg d▸e|exact cG d
def j1{b:b4}{a:bl}(c:lv b a=ar):a=.ad b:=G9 c fun e d c=>W7 (b:=fun a=>a=.ad b) d (congrArg _ (dr c))
def mG{b:Int}{a:bl}(c:rP b a=ar):a=.Z b:=G9 c fun e d c=>No (b:=fun a=>a=.Z b) d (congrArg _ (dr c))
def tw{a:bl}(c:sr a=ar):a=.Z 0∨a=.Z 1:=G9 c fun e d c=>No (b:=fun a=>a=.Z 0∨a=.Z 1) d (oX c (fun b=>.inl (congrArg _ (dr b))) fun b=>.inr (congrArg _ (dr b)))
def iA{a:bl}(b:dW a=ar):a=.bX:=by
 cases a<;>first|rfl|exact dy b
def W8{a:bl→Prop}(j:a .bX)(f:∀h,a (.b3 h))(i:∀c,(c==0||c==5)=ar→a (.Z c))(g:∀e,e∈(["s","self","text","undef","lambda","way"] :List b4)→a (.ad e)){b:bl}(d:gZ b=ar):a b:=by
 cases b<;>first|exact j|exact f _|exact i _ d|exact g _ (rb.mp d)|exact dy d
def uV{a:bl}(e:gZ a=ar):∃d,gY a=O d:=
 W8 (a:=fun a=>∃d,gY a=O d) ⟨_,rfl⟩ (fun f=>by induction f<;>exact ⟨_,rfl⟩) (fun h e=>oX e (fun b=>by refine bT (dr b) ?_;exact ⟨_,rfl⟩) fun b=>by refine bT (dr b) ?_;exact ⟨_,rfl⟩)
  (fun c g=>⟨_,if_pos (of_decide_eq_true (lD.mp (show (["s","self","text","undef","lambda","way"] :List b4).all (fun c=>dY ((GK c).length≤100000))=ar by decide+kernel) c g))⟩) e
def kK(a:List bl):Prop:=∀b∈a,gZ b=ar
def kK.J{b:bl}{a:List bl}(d:gZ b=ar)(c:kK a):kK (b::a):=lY.mpr ⟨d,c⟩
def kK.head{a:bl}{b:List bl}(c:kK (a::b)):gZ a=ar:=c a (fD ..)
def kK.w2{b:bl}{a:List bl}(e:kK (b::a)):kK a:=fun d c=>e d (ia _ c)
structure Dl(X:Nc)(h:Nat→Nat)(s:ej):Prop where
 mH:cx X s.pc
 cC:s.jm.length=h s.pc
 hM:∀v∈s.jm,gZ v=ar
 fU:DD s.fU
def zz(d:List bl)(b:Op):nw→Prop
 |.cc a c e=>kK a∧DD c
 |.cI a f=>kK a∧a.length+b.c0=d.length+b.fS
 |_=>True
def ab8(d:Bool)(a:R)(c:List bl)(e:Kd):Prop:=∃b,Ah d a c e=O b∧zz c a.bV b
section
variable{d e:Bool}{b:R}{a:List bl}{c:Kd}
def xu(m:kK a)(h:DD c){f:Sum Int b4}(k:jM (oG b)=O f)(n:f∈MW):∃g,yP b a c=O g∧zz a b.bV g:=by
 obtain ⟨l,i,j⟩:=h f n
 exact ⟨.cc (l::a) c b1,by unfold yP;refine bT k ?_;exact congrArg (nG _) i,m.J j,h⟩
def tx(i:kK a)(n:DD c){f:Sum Int b4}(l:jM (oG b)=O f)(o:1≤a.length):∃j,wg b a c=O j∧zz a b.bV j:=by
 induction a with
 |nil=>cases o
 |cons g k=>
  obtain ⟨h,m⟩:=uV i.head
  exact ⟨.cc k (gF c f g) (O (.cQ [.ad b.bV.cT,oG b,.ad h])),by
   show ((jM (oG b)).bind fun f=>(gY g).map fun h=>nw.cc k (gF c f g) (O (.cQ [.ad b.bV.cT,oG b,.ad h])))=_
   (refine bT l ?_;refine bT m ?_);rfl,i.w2,n.fS f i.head⟩
def qr{j:bl→List bl→Option nw}{i:Op}(k:kK a)(m:1≤a.length)(l:∀f h,gZ f=ar→kK h→∃g,j f h=O g∧zz (f::h) i g):∃g,ql a j=O g∧zz a i g:=by
 induction a with
 |nil=>cases m
 |cons f h=>exact l f h k.head k.w2
def uh{f g:Bool}(h:(f&&g)=ar):f=ar:=(iX.mp h).1
def DE{g:bl}(i:sr g=ar):∃h,jM g=O h∧h∈MW:=by
 rcases tw i with f|f
 ·exact ⟨.inl 0,by refine bT f ?_;rfl,fD ..⟩
 ·exact ⟨.inl 1,by refine bT f ?_;rfl,ia _ (fD ..)⟩
def xv{f:bl}{j:Option bl}{i:Op}(l:kK a)(k:DD c)(h:gZ f=ar):∃g,O (nw.cc (f::a) c j)=O g∧zz a i g:=⟨_,rfl,l.J h,k⟩
def sV{g:b4}{f:bl}{i j:Bool}(h:(lv g f&&i&&j)=ar):jM f=O (.inr g):=by refine bT (j1 (uh (uh h))) ?_;rfl
def Oq(j:b.cF e=ar)(f:kK a)(g:DD c)(h:b.bV.c0≤a.length):ab8 d b a c:=by
 refine bU fun t=>?_
 obtain ⟨x,k,o,i,m,n⟩:=b
 refine t ?_;try clear t
 induction x
 case d0=>exact xv f g (uh (uh j))
 case iQ|nv|sq|j0=>exact xv f g (by decide+kernel)
 case g9=>exact xv f g rfl
 case kB=>obtain ⟨v,s,y⟩:=DE (g:=i) (iX.mp (uh j)).2;exact xu (b:=⟨.kB,k,o,i,m,n⟩) f g s y
 case uQ=>exact xu (b:=⟨.uQ,k,o,i,m,n⟩) f g (sV j) (gj (i:=2) rfl)
 case uR=>exact xu (b:=⟨.uR,k,o,i,m,n⟩) f g (sV j) (gj (i:=3) rfl)
 case kC=>obtain ⟨v,s,_⟩:=DE (g:=i) (iX.mp (uh j)).2;exact tx (b:=⟨.kC,k,o,i,m,n⟩) f g s h
 case uS=>exact tx (b:=⟨.uS,k,o,i,m,n⟩) f g (sV j) h
 case uT=>exact tx (b:=⟨.uT,k,o,i,m,n⟩) f g (sV j) h
 case uU=>exact tx (b:=⟨.uU,k,o,i,m,n⟩) f g (sV j) h
 case gy=>exact qr f h fun r l w q=>⟨_,rfl,q,g⟩
 case kq=>exact qr f h fun r l p q=>⟨_,rfl,(q.J p).J p,g⟩
 case dt=>
  induction a with
  |nil=>cases h
  |cons r l=>
   induction l with
   |nil=>cases yz h
   |cons z l=>exact ⟨_,rfl,(f.w2.w2.J f.head).J f.w2.head,g⟩
 case ew=>exact qr f h fun r l p w=>by obtain ⟨A,u⟩:=uV p;exact ⟨.gG _,by refine bT u ?_;rfl,trivial⟩
 case cI=>exact ⟨_,rfl,f,rfl⟩
 case eL=>exact qr f h fun r l p q=>⟨_,rfl,q.J p,rfl⟩
 case hV|e5=>exact qr f h fun r l p q=>⟨_,rfl,q,rfl⟩
 case gx=>exact ⟨_,rfl,trivial⟩
end
section
variable{a:Nc}{d c:Bool}{b:Nat→Nat}
def Ai(L:eb a b)(z:fm a d){k:ej}{y:R}(u:Dl a b k)(g:a.a2[k.pc]? =O (O y)):
  ∃o,eT a.f6 c k.pc y k=O o∧∀m,o=.inr m→Dl a b m:=by
 have j:=L.dh _ _ u.mH g
 refine bU fun x=>?_
 obtain ⟨v,I,T,Q⟩:=k
 obtain ⟨p,l,s,n⟩:=u
 obtain ⟨K,t,i⟩:=Oq (d:=c) (z _ _ g) s n (l.symm▸j.c0)
 refine x ?_;try clear x
 have f:=xt t
 refine ⟨_,congrArg (nG _) t,fun m e=>?_⟩
 induction K with
 |cc F X C=>exact t9 e▸⟨.eK p g f.1,vL (f.2.trans (l▸(j.eK f.1).symm)),i.1,i.2⟩
 |cI F P=>
  induction P with
  |true=>exact t9 e▸⟨.cI p g f.1,vL (i.2.trans (l▸(j.cI f.1).symm)),i.1,n⟩
  |false=>exact t9 e▸⟨.eK p g (f.2 rfl),vL (i.2.trans (l▸(j.eK (f.2 rfl)).symm)),i.1,n⟩
 |gG C=>cases e
 |gx=>
  revert e
  refine nW (d:=fun o=>o=.inr m→Dl a b m) (fun W e=>nomatch e) fun h w e=>t9 e▸ ?_
  have q:=TS w
  have r:h.c4 v=ar:=Md (p:=fun h:Ct=>h.c4 v) w
  refine ⟨.dJ p g q r,?_,kK.J (by decide+kernel) fun A G=>s A (T5 G),n⟩
  show (I.drop _).length+1=b h.cP
  (refine bT zc ?_;refine bT (j.dJ h q r) ?_;refine bT (TC (l▸j.gx f h q r)) ?_;rfl)
def x8(l:eb a b):∀(h:Nat){e:Nat},a.a2.length≤e+h→cx a e→∃g i,NP a.a2 e g∧a.a2[g]? =O (O i)∧cx a g∧b g=b e:=by
 intro h
 induction h with
 |zero=>
  intro e k f
  exact absurd (l.kJ e f) (jI.mpr k)
 |succ h q=>
  intro e k f
  cases j:a.a2[e]? with
  |none=>exact absurd (l.kJ e f) (jI.mpr (TT.mp j))
  |some o=>
   induction o with
   |some i=>exact ⟨e,i,.cy _,j,f,rfl⟩
   |none=>
    refine bU fun m=>?_
    obtain ⟨g,i,n,s,p,r⟩:=q (y4 e h▸k) (.lg f j)
    refine m ?_;try clear m
    exact ⟨g,i,.d9 j n,s,p,r.trans (l.lg e f j)⟩
def xw(h:eb a b)(k:fm a d):∀(f:Nat){g:ej},Dl a b g→∃w,kZ a c f g=O w:=by
 intro f
 induction f with
 |zero=>
  intro g e
  exact ⟨_,rfl⟩
 |succ f l=>
  intro m e
  obtain ⟨A,s,q,t⟩:=m
  refine bU fun i=>?_
  obtain ⟨x,C,o,j,n,r⟩:=x8 h a.a2.length (B8 _ _) e.mH
  obtain ⟨u,p,y⟩:=Ai (c:=c) (k:=⟨x,s,q,t⟩) h k ⟨n,e.cC.trans r.symm,e.hM,e.fU⟩ j
  refine i ?_;try clear i
  (refine bT (qN o) ?_;refine bT (rk j) ?_;refine bT p ?_)
  induction u with
  |inl z=>exact ⟨_,rfl⟩
  |inr v=>exact l (y v rfl)
end
def NP.ci{a:List (Option R)}{c d e:Nat}(g:NP a c d)(b:NP a d e):NP a c e:=by
 induction g with
 |cy=>exact b
 |d9 h _ f=>exact .d9 h (f b)
inductive IK(Y:Nc)(Np:Bool)(Rl:ej→ej→Prop)(s2:ej):Sum (List bl) ej→Prop
 |gG {q:Nat} {r:R} {d:List bl} (np:NP Y.a2 s2.pc q) (hr:Y.a2[q]? =O (O r)) (ho:eT Y.f6 Np q r s2=O (.inl d)):IK Y Np Rl s2 (.inl d)
 |d9 {q q':Nat} {r:R} {a b:ej} (np:NP Y.a2 s2.pc q) (hr:Y.a2[q]? =O (O r)) (ho:eT Y.f6 Np q r s2=O (.inr b)) (np':NP Y.a2 b.pc q') (hR:Rl a {b with pc:=q'}):IK Y Np Rl s2 (.inr a)
 |gi {q:Nat} {a:ej} (np:NP Y.a2 s2.pc q) (hR:Rl a {s2 with pc:=q}):IK Y Np Rl s2 (.inr a)
structure Q6(X Y:Nc)(Np:Bool)(Rl:ej→ej→Prop):Prop where
 ek:∀{s1 s2},Rl s1 s2→s1.ek=s2.ek
 lg:∀{s1 s2},Rl s1 s2→X.a2[s1.pc]? =O b1→∃q,NP Y.a2 s2.pc q∧Rl {s1 with pc:=s1.pc+1} {s2 with pc:=q}
 dh:∀{s1 s2 r o},Rl s1 s2→X.a2[s1.pc]? =O (O r)→eT X.f6 Np s1.pc r s1=O o→IK Y Np Rl s2 o
section
variable{c b:Nc}{a:Bool}{d:ej→ej→Prop}
def Q6.ab9(q:Q6 c b a d){i m:Nat}(g:NP c.a2 i m):∀{f e:ej},f.pc=i→d f e→∃j,NP b.a2 e.pc j∧d {f with pc:=m} {e with pc:=j}:=by
 induction g with
 |cy i=>exact fun {f e} k h=>⟨e.pc,.cy _,k▸h⟩
 |d9 k _ o=>
  intro f e g h
  refine bU fun l=>?_
  obtain ⟨j,r,p⟩:=q.lg h (g▸k)
  obtain ⟨t,n,s⟩:=o (congrArg pI g) p
  refine l ?_;try clear l
  exact ⟨t,r.ci n,s⟩
def IL(r:Q6 c b a d):∀(i:Nat){t g:ej}{f:Nat}{m:List bl×Bool},i≤f→d t g→(∀e,∃h,kZ b a e g=O h)→kZ c a i t=O m→∃h,kZ b a f g=O h∧Lq m h:=by
 intro i
 induction i with
 |zero=>
  intro t g f m _ u n s
  obtain ⟨h,v⟩:=n f
  exact ⟨h,v,dg s▸⟨by refine bT (r.ek u) ?_;exact HJ v,fun aa=>dy aa⟩⟩
 |succ i w=>
  intro I g f m k u n s
  obtain ⟨ai,ag,af,ah⟩:=I
  exact xr s fun ak al l R F L K x=>by
   refine bU fun A=>?_
   obtain ⟨X,G,P⟩:=r.ab9 R rfl u
   refine A ?_;try clear A
   have o:∀e,kZ b a e g=kZ b a e {g with pc:=X}:=fun e=>qN G
   cases r.dh P F L with
   |gi j W=>
    have y:∀e,kZ b a e g=_:=fun e=>(o e).trans (qN j)
    rw [y]
    exact w (lC k) W (fun e=>y e▸n e) (x _ rfl)
   |gG j p q=>
    induction f with
    |zero=>cases k
    |succ f=>
    (rewrite [o];refine bT (qN j) ?_;refine bT (rk p) ?_)
    refine ⟨_,congrArg (fun l=>jG l _) q,?_⟩
    refine bT (K _ rfl) ?_
    exact Lq.cy _
   |@d9 ab C ac ae Q j p q Y T=>
    induction f with
    |zero=>cases k
    |succ f=>
    have z:∀e,kZ b a (e+1) g=kZ b a e {Q with pc:=C}:=fun e=>by
     (rewrite [o];refine bT (qN j) ?_;refine bT (rk p) ?_)
     exact (congrArg (fun l=>jG l _) q).trans (qN Y)
    rw [z]
    exact w (yz k) T (fun e=>z e▸n (e+1)) (x _ rfl)
def fH(c b:Nc):Prop:=c.cp.length=b.cp.length∧∀(j k h:Nat),c.cp[j]? =O k→b.cp[j]? =O h→∀(a:Bool)(e:Kd)(f:Nat)(g:List bl×Bool),DD e→kZ c a f ⟨k,[],e,[]⟩=O g→∃i,kZ b a f ⟨h,[],e,[]⟩=O i∧Lq g i
def fH.cy(c:Nc):fH c c:=⟨rfl,fun m n l g f a k j e i h=>by
 obtain rfl:=dg (g.symm.trans f)
 exact ⟨e,h,Lq.cy e⟩⟩
def fH.ci{c b f:Nc}(e:fH c b)(m:fH b f):fH c f:=⟨e.1.trans m.1,fun i q w j s a h g v l t=>by
 have k:=gS (l:=b.cp) (e.1▸(fJ.mp j).1)
 obtain ⟨o,n,p⟩:=e.2 i q _ j k a h g v l t
 obtain ⟨r,u,x⟩:=m.2 i _ w k s a h g o l n
 exact ⟨r,u,p.ci x⟩⟩
def n8{v:Bool}{t:Nat→Nat}{d:Bool→ej→ej→Prop}(g:b.cp=c.cp)(l:eb b t)(o:fm b v)(q:∀a,Q6 c b a (d a))(r:∀a e f,e∈c.cp→DD f→d a ⟨e,[],f,[]⟩ ⟨e,[],f,[]⟩):fH c b:=
 ⟨congrArg qE g.symm,fun w e z i n a f k y m u=>by
  rw [g,i] at n
  obtain rfl:=dg n
  have j:=gj i
  have h:e∈b.cp:=g▸j
  exact IL (q a) k (dX k) (r a e f j m) (fun s=>xw l o s ⟨.dH h,(l.dH e h).symm,(fun x p=>absurd p gD),m⟩) u⟩
def DF{g:List Ct}{f:Nat}{e:Ct}(h:g.find? (·.c4 f)=O e):e∈g∧e.c4 f=ar:=⟨TS h,Md (p:=fun e:Ct=>e.c4 f) h⟩
def IM{l:List Ct}{k:Nat}{i:R}{p e:ej}{h:Nat→Prop}(m:eT l a k i p=O (.inr e))(o:i.bV.dR=b2→h (k+1))(u:i.bV.b8=ar→h i.t)(y:∀j∈l,j.c4 k=ar→h j.cP):h e.pc:=by
 suffices r:∀g,eT l a k i p=O g→∀e,g=.inr e→h e.pc from r _ m e rfl
 refine fun g m=>fV (e:=fun g=>∀e,g=.inr e→h e.pc) m fun w t e=>?_
 have n:=xt t
 induction w with
 |cc v z s=>exact fun f=>t9 f▸o n.1
 |cI v x=>induction x with
  |true=>exact fun f=>t9 f▸u n.1
  |false=>exact fun f=>t9 f▸o (n.2 rfl)
 |gG s=>exact fun f=>nomatch f
 |gx=>exact nW (d:=fun g=>g=.inr e→h e.pc) (fun A f=>nomatch f) fun j q f=>t9 f▸y j (DF q).1 (DF q).2
def HK{e h:ej}{i:R}(f:cx c e.pc)(g:c.a2[e.pc]? =O (O i))(k:eT c.f6 a e.pc i e=O (.inr h)):cx c h.pc:=IM k (.eK f g) (.cI f g) fun m l j=>.dJ f g l j
end
def l6(a:Nc)(b:Nat):Prop:=(b∉a.cp)∧(∀(d:Nat)(c:R),a.a2[d]? =O (O c)→c.bV.b8=ar→c.t≠b)∧(∀e∈a.f6,e.cP≠b)
section
variable{b:Nc}{a:Nat}(c:l6 b a)
include c
def l6.Ha:a∉b.cp:=c.1
def l6.Vv:∀(e:Nat)(d:R),b.a2[e]? =O (O d)→d.bV.b8=ar→d.t≠a:=c.2.1
def l6.ct:∀d∈b.f6,d.cP≠a:=c.2.2
end
structure IN(X Y:Nc)(p k:Nat):Prop where
 cC:Y.a2.length=X.a2.length
 f6:Y.f6=X.f6
 cp:Y.cp=X.cp
 je:∀q,(q<p∨p+k≤q)→Y.a2[q]? =X.a2[q]?
 lT:∀m,p<m→m<p+k→l6 X m
section
variable{d f:Nc}{a b:Nat}{g h:Nat→Nat}
structure Nq(d f:Nc)(h:Nat→Nat)(q:Nat)(r:R):Prop where
 t:yQ f h q r
 eK:r.bV.dR=b2→cx d (q+1)
 cI:r.bV.b8=ar→cx d r.t
 dJ:∀c∈f.f6,c.c4 q=ar→cx d c.cP
inductive uW(d f:Nc)(h:Nat→Nat)(q:Nat):Prop
 |lg (e:f.a2[q]? =O b1) (z:cx d (q+1)) (b:h (q+1)=h q)
 |dh (r:R) (e:f.a2[q]? =O (O r)) (b:Nq d f h q r)
def oH(a b c:Nat):(c<a∨a+b≤c)∨(a≤c∧c<a+b):=(TK c a).elim (fun e=>.inl (.inl e)) fun e=>(TK c (a+b)).elim (fun i=>.inr ⟨e,i⟩) fun i=>.inl (.inr i)
def Nr{a b c:Nat}(g:c<a∨a+b≤c):¬(a<c∧c<a+b):=fun e=>g.elim (Nat.lt_asymm e.1) fun i=>jI.mpr i e.2
def wh{a b c:Nat}(g:c<a∨a+b≤c):¬(a<c+1∧c+1<a+b):=fun i=>g.elim (fun e=>jI.mpr (qk i.1) e) fun e=>jI.mpr (uL e) i.2
def uW.Nt{c:Nat}(j:uW d f h c)(k:f.a2[c]? =O b1):cx d (c+1)∧h (c+1)=h c:=by
 induction j with
 |lg _ i b=>exact ⟨i,b⟩
 |dh l e _=>rw [k] at e;cases e
def uW.Aj{e:Nat}{i:R}(k:uW d f h e)(j:f.a2[e]? =O (O i)):Nq d f h e i:=by
 induction k with
 |lg c _ _=>rw [j] at c;cases c
 |dh l c b=>rw [j] at c;cases c;exact b
def IN.gK(j:IN d f a b)(x:eb d g)(p:∀c,¬(a<c∧c<a+b)→h c=g c)(r:∀c,a≤c→c<a+b→cx d c→uW d f h c):eb f h:=by
 have t:∀c,cx f c→cx d c:=fun c k=>by
  induction k with
  |dH A=>exact .dH (j.cp▸A)
  |@lg c _ i l=>exact (oH a b c).elim (fun e=>.lg l (j.je c e▸i)) fun e=>((r c e.1 e.2 l).Nt i).1
  |@eK c s _ i n l=>exact (oH a b c).elim (fun e=>.eK l (j.je c e▸i) n) fun e=>((r c e.1 e.2 l).Aj i).eK n
  |@cI c s _ i n l=>exact (oH a b c).elim (fun e=>.cI l (j.je c e▸i) n) fun e=>((r c e.1 e.2 l).Aj i).cI n
  |@dJ c s q _ i o n l=>exact (oH a b c).elim (fun e=>.dJ l (j.je c e▸i) (j.f6▸o) n) fun e=>((r c e.1 e.2 l).Aj i).dJ q o n
 refine ⟨fun c k=>?_,fun c k=>j.cC▸x.kJ c (t c k),fun c k i=>(oH a b c).elim (fun e=>?_) fun e=>((r c e.1 e.2 (t c k)).Nt i).2,fun c s k i=>(oH a b c).elim (fun e=>?_) fun e=>((r c e.1 e.2 (t c k)).Aj i).t⟩
 ·rw [j.cp] at k
  exact (p c fun m=>(j.lT c m.1 m.2).Ha k).trans (x.dH c k)
 ·(refine bT (p _ (wh e)) ?_;refine bT (p c (Nr e)) ?_)
  exact x.lg c (t c k) (j.je c e▸i)
 ·have y:d.a2[c]? =O (O s):=j.je c e▸i
  have v:=x.dh c s (t c k) y
  have w:=p c (Nr e)
  refine ⟨w.symm▸v.c0,fun m=>?_,fun m=>?_,fun q o m=>?_,fun m q o z=>w.symm▸v.gx m q (j.f6▸o) z⟩
  ·(refine bT (p _ (wh e)) ?_;refine bT w ?_);exact v.eK m
  ·(refine bT w ?_;refine bT (p _ fun u=>(j.lT _ u.1 u.2).Vv c s y m rfl) ?_);exact v.cI m
  ·rw [j.f6] at o
   exact (p _ fun u=>(j.lT _ u.1 u.2).ct q o rfl).trans (v.dJ q o m)
inductive wi(a b:Nat)(Mid:ej→ej→Prop)(s1 s2:ej):Prop
 |cZ (e:s1=s2) (g:¬(a<s1.pc∧s1.pc<a+b))
 |lT (g:Mid s1 s2)
def IN.sim(p:IN d f a b){o:Bool}{m:ej→ej→Prop}{A:R}(I:d.a2[a]? =O (O A))(T:∀{c i},m c i→c.ek=i.ek)(Q:∀{c i},m c i→d.a2[c.pc]? ≠O b1)
  (L:∀{v u w l},eT d.f6 o a A ⟨a,v,u,w⟩=O l→IK f o (wi a b m) ⟨a,v,u,w⟩ l)
  (P:∀{c i s l},m c i→d.a2[c.pc]? =O (O s)→eT d.f6 o c.pc s c=O l→IK f o (wi a b m) i l):Q6 d f o (wi a b m):=by
 have F:∀{j},¬(a<j∧j<a+b)→j≠a→j<a∨a+b≤j:=fun g n=>(oH a b _).elim id fun k=>absurd ⟨y5 k.1 n.symm,k.2⟩ g
 refine ⟨fun r=>?_,fun {c i} r e=>?_,fun {c i s l} r e t=>?_⟩
 ·induction r with
  |cZ e _=>exact congrArg ej.ek e
  |lT g=>exact T g
 ·induction r with
  |lT g=>exact absurd e (Q g)
  |cZ y x=>
   subst y
   have q:=F x fun n=>by rw [n,I] at e;cases e
   exact ⟨_,.o9 (p.je _ q▸e),.cZ rfl (wh q)⟩
 ·induction r with
  |lT g=>exact P g e t
  |cZ y x=>
   subst y
   refine bU fun G=>?_
   obtain ⟨j,v,u,w⟩:=c
   refine G ?_;try clear G
   by_cases n:j=a
   ·subst n
    rw [I] at e;cases e
    exact L t
   ·have q:=F x n
    have z:=(p.je _ q).trans e
    have K:eT f.f6 o j s ⟨j,v,u,w⟩=O l:=by refine bT p.f6 ?_;exact t
    induction l with
    |inl ab=>exact .gG (.cy _) z K
    |inr ac=>exact .d9 (.cy _) z K (.cy _) (.cZ rfl (IM (h:=fun C=>¬(a<C∧C<a+b)) t (fun Y=>wh q) (fun X k=>(p.lT _ k.1 k.2).Vv _ s e X rfl) fun W aa Y k=>(p.lT _ k.1 k.2).ct W aa rfl))
def IN.w3{l:Bool}(i:IN d f a b)(n:eb f h)(k:fm f l){j:ej→ej→Prop}(m:∀e,Q6 d f e (wi a b j)):fH d f:=
 n8 i.cp n k m fun e q p o r=>.cZ rfl fun c=>(i.lT _ c.1 c.2).Ha o
end
def su(b a:Nc)(c:Bool):Prop:=(∃d,eb a d)∧fm a c∧fH b a
noncomputable def Nc.qm(a:Nc)(c:Nat)(b:Option R):Nc:={a with a2:=a.a2.set c b}
def Nc.fb(b:Nc)(a:Nat)(d c:Option R):Nc:=(b.qm a d).qm (a+1) c
def Nc.sv(b:Nc)(a:Nat)(c d e:Option R):Nc:=(b.fb a c d).qm (a+2) e
def Ak{a c:Nat}{b:Nat→Prop}(f:a≤c)(i:c<a+2)(h:b a)(d:b (a+1)):b c:=
 (TA f).elim (fun g=>g▸h) fun e=>r6 e (qk i)▸d
def DG{a c:Nat}{b:Nat→Prop}(f:a≤c)(j:c<a+3)(i:b a)(d:b (a+1))(h:b (a+2)):b c:=
 (TA f).elim (fun g=>g▸i) fun e=>Ak e j d h
def rl(a:Nat):a≠a+1:=kW (h9 a)
def QS(a:Nat):a≠a+2:=kW (qA (h9 a))
def qc(a b:Nat):¬(a<a+b∧a+b<a+b):=fun c=>B9 _ c.2
section
variable{c:Nc}{b h:Nat}{f j k:R}{i:Bool}{d:Nat→Nat}
def gC{a:Nat}{e:Option R}(g:c.a2[a]? =O e):a<c.a2.length:=(fJ.mp g).1
def hO{g:Option R}{a:Nat}(e:b≠a):(c.qm b g).a2[a]? =c.a2[a]? :=pi e
def w4(a:Option R)(e:b<c.a2.length):(c.qm b a).a2[b]? =O a:=Gj e
def jz{a:Option R}:(c.qm b a).a2.length=c.a2.length:=m9
def oI(a e:Option R)(g:b<c.a2.length):(c.fb b a e).a2[b]? =O a:=(hO (rl b).symm).trans (w4 a g)
def oJ(g a:Option R)(e:b+1<c.a2.length):(c.fb b g a).a2[b+1]? =O a:=w4 a (jz.symm▸e)
def Al(a e g:Option R)(l:b<c.a2.length):(c.sv b a e g).a2[b]? =O a:=(hO (QS b).symm).trans (oI a e l)
def Nu(e a g:Option R)(l:b+1<c.a2.length):(c.sv b e a g).a2[b+1]? =O a:=(hO (rl _).symm).trans (oJ e a l)
def Nv(l e a:Option R)(g:b+2<c.a2.length):(c.sv b l e a).a2[b+2]? =O a:=w4 a (Eq.mpr (congrArg (b+2< ·) (jz.trans jz)) g)
def oK{g e h:Nat}(n:e<b∨b+g≤e)(m:b≤h)(o:h<b+g):h≠e:=fun l=>n.elim (fun a=>jI.mpr m (l.symm▸a)) fun a=>jI.mpr a (l▸o)
def Os(e:Option R):IN c (c.qm b e) b 1:=⟨jz,rfl,rfl,fun m g=>hO (oK g (dX b) (h9 b)),fun h a l=>absurd a (jI.mpr (qk l))⟩
def xx(g m:Option R)(l:l6 c (b+1)):IN c (c.fb b g m) b 2:=⟨jz.trans jz,rfl,rfl,fun o a=>(hO (oK a (fM b) (h9 _))).trans (hO (oK a (dX b) (qA (h9 b)))),fun h e n=>r6 e (qk n)▸l⟩
def Ot(l n o:Option R)(m:l6 c (b+1))(e:l6 c (b+2)):IN c (c.sv b l n o) b 3:=⟨jz.trans (jz.trans jz),rfl,rfl,fun q a=>(hO (oK a (fg b 2) (h9 _))).trans ((hO (oK a (fM b) (qA (h9 _)))).trans (hO (oK a (dX b) (B7 (nI 2))))),fun h g p=>Ak g p m e⟩
def sW{a:Option R}(m:fm c i)(o:∀f,a=O f→f.cF i=ar):fm (c.qm b a) i:=fun l f e=>by
 by_cases g:b=l
 ·subst g
  have n:b<c.a2.length:=jz (c:=c) (a:=a)▸gC e
  exact o f (dg ((w4 a n).symm.trans e))
 ·exact m l f ((hO g).symm.trans e)
def Bz{a e:Option R}(l:fm c i)(m:∀f,a=O f→f.cF i=ar)(g:∀f,e=O f→f.cF i=ar):fm (c.fb b a e) i:=sW (sW l m) g
def kr:∀f:R,b1=O f→f.cF i=ar:=fun e a=>cG a
def sX(d:f.cF i=ar):∀j,O f=O j→j.cF i=ar:=fun e a=>dg a▸d
noncomputable def rR(d:Nat→Nat)(h e:Nat):Nat→Nat:=fun a=>if a=h then e else d a
def jA(d:Nat→Nat)(h a:Nat):rR d h a h=a:=if_pos rfl
def j2(d:Nat→Nat){h a:Nat}(g:Nat)(e:a≠h):rR d h g a=d a:=if_neg e
def ui(d:Nat→Nat)(h a:Nat):rR d h (d h) a=d a:=by
 by_cases e:a=h
 ·(refine bT e ?_;rw [jA])
 ·exact j2 d _ e
def l6.Hb(m:l6 c (b+1))(n:cx c (b+1)):cx c b:=by
 generalize e:b+1=h at n
 induction n with
 |dH p=>exact absurd (e▸p) m.Ha
 |lg a g=>exact mB e▸a
 |eK a g l=>exact mB e▸a
 |cI a g l=>exact absurd e.symm (m.Vv _ _ g l)
 |dJ a g o l=>exact absurd e.symm (m.ct _ o)
inductive Dm(G:Nat→Nat→List bl→List bl→Prop):ej→ej→Prop
 |mk {h q:Nat} {sk st:List bl} {kd:Kd} {ds:List bl} (g:G h q sk st):Dm G ⟨h,sk,kd,ds⟩ ⟨q,st,kd,ds⟩
def W9{e:Nc}{n:Nat}{G:Nat→Nat}(u:IN c e b n)(x:eb e G)(v:fm e i)(z:c.a2[b]? =O (O f)){q:Nat→Nat→List bl→List bl→Prop}(A:∀{a l g m o},eT c.f6 a b f ⟨b,l,g,m⟩=O o→IK e a (wi b n (Dm q)) ⟨b,l,g,m⟩ o)
  (t:∀{a h y l w g m},q h y l w→∃f,c.a2[h]? =O (O f)∧∀{o},eT c.f6 a h f ⟨h,l,g,m⟩=O o→IK e a (wi b n (Dm q)) ⟨y,w,g,m⟩ o):su c e i:=by
 refine ⟨⟨_,x⟩,v,u.w3 x v (j:=Dm q) fun a=>u.sim z (fun d=>?_) (fun d=>?_) A (fun d r C=>?_)⟩
 ·induction d;rfl
 ·induction d with|mk s=>
  refine bU fun p=>?_
  obtain ⟨f,r,_⟩:=t (a:=a) (g:=[]) (m:=[]) s
  refine p ?_;try clear p
  refine bT r ?_;exact fun F=>nomatch F
 ·induction d with|mk s=>
  refine bU fun p=>?_
  obtain ⟨f,I,n⟩:=t s
  refine p ?_;try clear p
  rw [I] at r
  cases r
  exact n C
inductive Y9(h q:Nat)(G:List bl→List bl→Prop):Nat→Nat→List bl→List bl→Prop
 |mk {sk st:List bl} (g:G sk st):Y9 h q G h q sk st
def w5{h l o:Nat}{m:List bl→List bl→Prop}{n g:List bl}{e:Kd}{a:List bl}(p:m n g):wi b o (Dm (Y9 h l m)) ⟨h,n,e,a⟩ ⟨l,g,e,a⟩:=.lT (.mk (.mk p))
def Nw{a e:Option R}(q:eb c d)(n:l6 c (b+1)){l:Nat}(p:cx c b→uW c (c.fb b a e) (rR d (b+1) l) b)(o:cx c b→cx c (b+1)→uW c (c.fb b a e) (rR d (b+1) l) (b+1)):eb (c.fb b a e) (rR d (b+1) l):=
 (xx a e n).gK q (fun m r=>j2 _ _ fun g=>r (g▸⟨h9 b,h9 _⟩)) fun m s t=>Ak (b:=fun m=>cx c m→uW c (c.fb b a e) (rR d (b+1) l) m) s t p fun g=>o (n.Hb g) g
def Xa{a e:Option R}(I:eb c d)(w:fm c i)(v:c.a2[b]? =O (O f))(y:c.a2[b+1]? =O (O j))(u:l6 c (b+1))(C:∀f,a=O f→f.cF i=ar)(G:∀f,e=O f→f.cF i=ar){s:Nat}
  (A:cx c b→uW c (c.fb b a e) (rR d (b+1) s) b) (z:cx c b→cx c (b+1)→uW c (c.fb b a e) (rR d (b+1) s) (b+1)) {r:Nat} {p:List bl→List bl→Prop}
  (x:∀{n l g m o},eT c.f6 n b f ⟨b,l,g,m⟩=O o→IK (c.fb b a e) n (wi b 2 (Dm (Y9 (b+1) r p))) ⟨b,l,g,m⟩ o)
  (F:∀{n l t g m o},p l t→eT c.f6 n (b+1) j ⟨b+1,l,g,m⟩=O o→IK (c.fb b a e) n (wi b 2 (Dm (Y9 (b+1) r p))) ⟨r,t,g,m⟩ o):su c (c.fb b a e) i:=
 W9 (xx a e u) (Nw I u A z) (Bz w C G) v x fun q=>by
  induction q with|mk q=>exact ⟨j,y,F q⟩
section
variable{q:List Ct}{r:Bool}{s p:Nat}{n:List bl}{g:Kd}{l:List bl}{o:Sum (List bl) ej}{m:Sum (List bl) ej→Prop}
def Fs{v:bl→List bl→List bl}{w:List bl}(d:(ql n fun a e=>O (.cc (v a e) g b1)).map (rQ q b p w g l)=O o)(x:∀a e,n=a::e→m (.inr ⟨b+1,v a e,g,l⟩)):m o:=
 fV d fun u t=>fc t fun a e y t=>dT (b:=fun u=>m (rQ q b p w g l u)) t (x a e y)
def MX{v:bl→List bl→List bl}{w:bl→Bool}{x:List bl}(d:(ql n fun a e=>O (.cI (v a e) (w a))).map (rQ q b p x g l)=O o)(y:∀a e,n=a::e→m (.inr ⟨cond (w a) p (b+1),v a e,g,l⟩)):m o:=
 fV d fun u t=>fc t fun a e z t=>dT (b:=fun u=>m (rQ q b p x g l u)) t (y a e z)
def Vw{a:bl}{t:List bl}(d:(O (nw.cc (a::n) g b1)).map (rQ q b p t g l)=O o)(e:m (.inr ⟨b+1,a::n,g,l⟩)):m o:=dT d e
def Xb{u:List bl}(d:(yP f n g).map (rQ q b p u g l)=O o)(v:∀a,m (.inr ⟨b+1,a::n,g,l⟩)):m o:=
 fV d fun t w=>MU (f:=fun t=>m (rQ q b p u g l t)) w fun e a e e=>v a
def Vx(w:f.bV=.kq)(d:eT q r b f ⟨s,n,g,l⟩=O o)(u:∀a e,n=a::e→m (.inr ⟨b+1,a::a::e,g,l⟩)):m o:=by
 refine bU fun t=>?_
 obtain ⟨v,p,z,A,x,y⟩:=f
 obtain rfl:v=.kq:=w
 refine t ?_;try clear t
 exact Fs (v:=fun a e=>a::a::e) d u
def Nx(w:f.bV=.gy)(d:eT q r b f ⟨s,n,g,l⟩=O o)(u:∀e a,n=e::a→m (.inr ⟨b+1,a,g,l⟩)):m o:=by
 refine bU fun t=>?_
 obtain ⟨v,p,z,A,x,y⟩:=f
 obtain rfl:v=.gy:=w
 refine t ?_;try clear t
 exact Fs (v:=fun e a=>a) d u
def Ft(C:f.bV=.dt)(d:eT q r b f ⟨s,n,g,l⟩=O o)(y:∀e t u,n=e::t::u→m (.inr ⟨b+1,t::e::u,g,l⟩)):m o:=by
 refine bU fun w=>?_
 obtain ⟨z,p,K,L,G,I⟩:=f
 obtain rfl:z=.dt:=C
 refine w ?_;try clear w
 exact fV d fun v a=>fc a fun e u F a=>fc a fun t A x a=>dT (b:=fun v=>m (rQ q b p n g l v)) a (y e t A (x▸F))
def Ny(u:f.bV=.d0)(d:eT q r b f ⟨s,n,g,l⟩=O o)(e:m (.inr ⟨b+1,f.a::n,g,l⟩)):m o:=by
 refine bU fun a=>?_
 obtain ⟨t,p,x,y,v,w⟩:=f
 obtain rfl:t=.d0:=u
 refine a ?_;try clear a
 exact Vw d e
def w6(u:f.bV=.cI)(d:eT q r b f ⟨s,n,g,l⟩=O o)(e:m (.inr ⟨f.t,n,g,l⟩)):m o:=by
 refine bU fun a=>?_
 obtain ⟨t,p,x,y,v,w⟩:=f
 obtain rfl:t=.cI:=u
 refine a ?_;try clear a
 exact dT d e
def Rd(w:f.bV.i6=ar)(d:eT q r b f ⟨s,n,g,l⟩=O o)(e:∀a,m (.inr ⟨b+1,a::n,g,l⟩)):m o:=by
 refine bU fun u=>?_
 obtain ⟨v,p,A,C,y,z⟩:=f
 refine u ?_;try clear u
 induction v<;>first|exact dy w|exact Vw d (e _)|exact Xb d e|exact Fs (v:=fun a t=>a::a::t) d fun a t x=>x▸e a
structure Re(op:Op):Prop where
 e:op.dR=b2
 t:op.fS=op.c0+1
def DH{a:Op}(e:a.i6=ar):Re a:=by
 induction a<;>first|exact dy e|exact ⟨rfl,rfl⟩
end
def oh{e:Op→Prop}{a:Op}(g:f.bV=a)(d:e f.bV):e a:=g▸d
def JK(q:eb c d)(y:fm c i)(a:c.a2[b]? =O (O f))(e:c.a2[b+1]? =O (O j))(r:f.bV.i6=ar)(l:j.bV=.gy)(C:l6 c (b+1)):su c (c.fb b b1 b1) i:=by
 have v:=oI (c:=c) b1 b1 (gC a)
 have w:=oJ (c:=c) b1 b1 (gC e)
 have o:=DH r
 refine Xa q y a e C kr kr (s:=d b) (r:=b+2) (p:=fun z t=>∃g,z=g::t) (fun n=>.lg v (.eK n a o.e) ((jA ..).trans (j2 _ _ (rl b)).symm)) (fun n s=>.lg w (.eK s e (by refine bT l ?_;rfl)) ?_) (fun m=>Rd r m fun g=>.gi (.d9 v (.o9 w)) (w5 ⟨g,rfl⟩)) (fun A m=>Nx l m fun G t F=>?_)
 ·have u:=(q.dh _ _ n a).eK o.e
  rw [o.t,← nH,nS] at u
  (rewrite [jA];refine bT (j2 _ _ (rl _).symm) ?_)
  exact mB ((oh (e:=fun p=>p.dR=b2→d (b+2)+p.c0=d (b+1)+p.fS) l (q.dh _ _ s e).eK rfl).trans (vL u))
 ·refine bU fun x=>?_
  obtain ⟨g,rfl⟩:=A
  refine x ?_;try clear x
  exact (GY F).2▸ .gi (.cy _) (.cZ rfl (qc b 2))
def Ou(A:eb c d)(F:fm c i)(n:c.a2[b]? =O (O f))(o:c.a2[b+1]? =O (O j))(r:f.bV=.dt)(s:j.bV=.dt)(K:l6 c (b+1)):su c (c.fb b b1 b1) i:=by
 have y:=oI (c:=c) b1 b1 (gC n)
 have z:=oJ (c:=c) b1 b1 (gC o)
 have p:∀{m:Nat}{f:R},cx c m→c.a2[m]? =O (O f)→f.bV=.dt→cx c (m+1)∧d (m+1)=d m:=fun a e x=>⟨.eK a e (by refine bT x ?_;rfl),vL (oh (e:=fun v=>v.dR=b2→d _+v.c0=d _+v.fS) x (A.dh _ _ a e).eK rfl)⟩
 refine Xa A F n o K kr kr (s:=d (b+1)) (r:=b+2) (p:=fun G q=>∃g l u,G=g::l::u∧q=l::g::u) (fun a=>.lg y (p a n r).1 ?_) (fun a w=>.lg z (p w o s).1 ?_) (fun t=>Ft r t fun l g q e=>.gi (.d9 y (.o9 z)) (w5 ⟨g,l,q,rfl,e⟩)) (fun I t=>Ft s t fun g l q e=>?_)
 ·rw [ui,ui];exact (p a n r).2
 ·rw [ui,ui];exact (p w o s).2
 ·refine bU fun C=>?_
  obtain ⟨P,L,u,rfl,rfl⟩:=I
  refine C ?_;try clear C
  cases e
  exact .gi (.cy _) (.cZ rfl (qc b 2))
def HL(s:eb c d)(t:fm c i)(a:c.a2[b]? =O (O f))(n:c.a2[b+1]? =O (O j))(C:f.bV=.kq)(p:j.bV=.dt)(Q:l6 c (b+1)):su c (c.fb b (O f) b1) i:=by
 have x:=oI (c:=c) (O f) b1 (gC a)
 have y:=oJ (c:=c) (O f) b1 (gC n)
 have v:rR d (b+1) (d (b+1))=d:=funext (ui d _)
 refine Xa s t a n Q (sX (t _ _ a)) kr (s:=d (b+1)) (r:=b+2) (p:=fun q g=>(∃e w,q=e::e::w)∧q=g) (fun l=>v.symm▸ .dh f x ⟨let m:=s.dh _ _ l a;⟨m.c0,m.eK,m.cI,m.dJ,m.gx⟩,.eK l a,.cI l a,fun X=>.dJ l a⟩) (fun l u=>v.symm▸ .lg y (.eK u n (by refine bT p ?_;rfl)) ?_)
  (fun {W q F I K} o=>Vx (m:=fun G=>G=K→_) C o (fun e g A P=>?_) rfl) (fun L o=>Ft p o fun R e g A=>?_)
 ·exact vL (oh (e:=fun r=>r.dR=b2→d _+r.c0=d _+r.fS) p (s.dh _ _ u n).eK rfl)
 ·subst P
  exact .d9 (b:=⟨b+1,e::e::g,F,I⟩) (.cy _) x o (.o9 y) (w5 ⟨⟨e,g,rfl⟩,rfl⟩)
 ·refine bU fun z=>?_
  obtain ⟨⟨T,w,rfl⟩,rfl⟩:=L
  refine z ?_;try clear z
  cases A
  exact .gi (.cy _) (.cZ rfl (qc b 2))
end
def Op.eM(a:Op)(b:Bool):Bool:=b==(a== .hV)
noncomputable def Op.fN:Op→Op
 |.hV=>.e5
 |_=>.hV
noncomputable def R.cE(a:Op)(c:Nat)(b:Int):R:=⟨a,c,.bX,.bX,.bX,b⟩
def lU{a:Op}{b:Op→Prop}(d:a.cg=ar)(c:b .hV)(e:b .e5):b a:=by
 induction a<;>first|exact dy d|exact c|exact e
def xy{b:Op}{a:Op→Prop}(f:b.fQ=ar)(c:a .kC)(g:a .uS)(d:a .uT)(e:a .uU):a b:=by
 induction b<;>first|exact dy f|exact c|exact g|exact d|exact e
def MY{b:Op}{a:Op→Prop}(f:b.b8=ar)(c:a .hV)(g:a .e5)(d:a .eL)(e:a .cI):a b:=by
 induction b<;>first|exact dy f|exact c|exact g|exact d|exact e
def JL{a:Op}(b:a.cg=ar):a.dR=b2:=lU (b:=fun a=>a.dR=b2) b rfl rfl
def rm{a:Op}(b:a.cg=ar):a.b8=ar:=lU (b:=fun a=>a.b8=ar) b rfl rfl
def aac{a:Op}(c:a.cg=ar):a≠ .gx ():=lU (b:=fun a=>a≠ .gx ()) c (fun b=>nomatch b) fun b=>nomatch b
def xz{b a:Nat}(d:a≠b+1):¬(b<a∧a<b+2):=fun c=>d (r6 (qk c.2) c.1)
section
variable{f:Nc}{b:Nat}{d e h:R}{g:Bool}{c:Nat→Nat}
def yQ.br(q:yQ f c b d)(i:d.bV.cg=ar):1≤c b∧c (b+1)+1=c b∧c d.t+1=c b:=by
 refine bU fun l=>?_
 obtain ⟨n,o,p,_,_⟩:=q
 obtain ⟨a,m,j,k,r,s⟩:=d
 refine l ?_;try clear l
 exact lU (b:=fun a=>a.c0≤c b→(a.dR=b2→c (b+1)+a.c0=c b+a.fS)→(a.b8=ar→c m+a.c0=c b+a.fS)→1≤c b∧c (b+1)+1=c b∧c m+1=c b) i (fun j k i=>⟨j,k rfl,i rfl⟩) (fun j k i=>⟨j,k rfl,i rfl⟩) n o p
def Xc{f n:Nc}{c a:Nat→Nat}{i:Nat}(y:yQ f c b d)(j:e.bV.cg=ar)(l:1≤a i)(m:a (i+1)+1=a i)(p:a e.t+1=a i)(t:∀j∈n.f6,j.c4 i=ar→a j.cP=j.dG+1):yQ n a i e:=by
 refine bU fun o=>?_
 obtain ⟨k,q,w,x,u,v⟩:=e
 refine o ?_;try clear o
 exact ⟨lU (b:=fun k=>k.c0≤a i) j l l,fun s=>lU (b:=fun k=>a (i+1)+k.c0=a i+k.fS) j m m,fun s=>lU (b:=fun k=>a q+k.c0=a i+k.fS) j p p,t,fun r=>absurd r (aac j)⟩
section
variable{m:List Ct}{k:Bool}{n j:Nat}{o:List bl}{a:Kd}{i:List bl}{p:Sum (List bl) ej}{l:Sum (List bl) ej→Prop}
def xA(q:Bool):Op.eM .hV q=q:=by induction q<;>rfl
def xB(q:Bool):Op.eM .e5 q= !q:=by induction q<;>rfl
def tz(C:d.bV.cg=ar)(c:eT m k b d ⟨n,o,a,i⟩=O p)(s:∀q r,o=q::r→l (.inr ⟨cond (d.bV.eM (dI q)) d.t (b+1),r,a,i⟩)):l p:=by
 refine bU fun v=>?_
 obtain ⟨t,j,z,A,w,x⟩:=d
 refine v ?_;try clear v
 refine lU (b:=fun t=>eT m k b ⟨t,j,z,A,w,x⟩ ⟨n,o,a,i⟩=O p→(∀q r,o=q::r→l (.inr ⟨cond (t.eM (dI q)) j (b+1),r,a,i⟩))→l p) C (fun c s=>?_) (fun c s=>?_) c s
 ·exact MX (v:=fun y r=>r) (w:=dI) c fun q r u=>xA (dI q)▸s q r u
 ·exact MX (v:=fun y r=>r) (w:=fun q=>!dI q) c fun q r u=>xB (dI q)▸s q r u
def EY{q:bl}{r:List bl}(y:d.bV.cg=ar):eT m k b d ⟨n,q::r,a,i⟩=O (.inr ⟨cond (d.bV.eM (dI q)) d.t (b+1),r,a,i⟩):=by
 refine bU fun t=>?_
 obtain ⟨s,j,w,x,u,v⟩:=d
 refine t ?_;try clear t
 exact lU (b:=fun s=>eT m k b ⟨s,j,w,x,u,v⟩ ⟨n,q::r,a,i⟩=O (.inr ⟨cond (s.eM (dI q)) j (b+1),r,a,i⟩)) y (by rw [xA];rfl) (by rw [xB];rfl)
def Xd{s:bl}{Q:Nat}(c:eT m k b d ⟨n,s::o,a,i⟩=O p)(L:d.bV.fQ=ar)(r:∀I A,(∀t,eT m k b d ⟨Q,s::t,a,i⟩=O (.inr ⟨b+1,t,I,A⟩))→l (.inr ⟨b+1,o,I,A⟩)):l p:=by
 have G:∀q,Ah k d q a=wg d q a:=fun q=>by
  refine bU fun C=>?_
  obtain ⟨u,j,z,F,x,y⟩:=d
  refine C ?_;try clear C
  exact xy (a:=fun u=>Ah k ⟨u,j,z,F,x,y⟩ q a=wg ⟨u,j,z,F,x,y⟩ q a) L rfl rfl rfl rfl
 unfold eT at c r
 dsimp only at c r
 rw [G] at c
 refine fV (e:=l) c fun w v=>MV (h:=fun w=>l (rQ m b d.t (s::o) a i w)) v fun R T w W K v P=>?_
 cases K
 refine r _ _ fun t=>?_
 rw [G]
 show nG _ ((jM (oG d)).bind fun r=>(gY s).map fun n=>nw.cc t (gF a r s) (O (.cQ [.ad d.bV.cT,oG d,.ad n])))=_
 (refine bT v ?_;refine bT P ?_);rfl
end
def JM(r:eb f c)(P:fm f g)(l:f.a2[b]? =O (O d))(n:f.a2[b+1]? =O (O e))(k:d.bV.cg=ar)(s:e.bV=.cI)(v:d.t=b+2)(I:l6 f (b+1)):su f (f.fb b (O (.cE d.bV.fN e.t d.e6)) b1) g:=by
 have F:=oI (c:=f) (O (.cE d.bV.fN e.t d.e6)) b1 (gC l)
 have G:=oJ (c:=f) (O (.cE d.bV.fN e.t d.e6)) b1 (gC n)
 have K:(R.cE d.bV.fN e.t d.e6).bV.cg=ar:=lU (b:=fun j=>j.fN.cg=ar) k rfl rfl
 have aa:∀i,d.bV.fN.eM i= !(d.bV.eM i):=fun i=>lU (b:=fun j=>j.fN.eM i= !(j.eM i)) k (by induction i<;>rfl) (by induction i<;>rfl)
 have y:rR c (b+1) (c (b+1))=c:=funext (ui c _)
 have w:e.bV.b8=ar:=by refine bT s ?_;rfl
 have Q:=I.Vv _ _ n w
 have Y:cx f b→cx f e.t:=fun a=>.cI (.eK a l (JL k)) n w
 have z:∀a:cx f b,1≤c b∧c (b+1)+1=c b∧c (b+2)+1=c b∧c e.t=c (b+1):=fun a=>by
  refine bU fun m=>?_
  obtain ⟨q,i,o⟩:=(r.dh _ _ a l).br k
  refine m ?_;try clear m
  rw [v] at o
  exact ⟨q,i,o,oh (e:=fun j=>j.b8=ar→c e.t+j.c0=c (b+1)+j.fS) s (r.dh _ _ (.eK a l (JL k)) n).cI rfl⟩
 refine Xa r P l n I (sX (lU (b:=fun j=>R.cF g (R.cE j.fN e.t d.e6)=ar) k rfl rfl)) kr (s:=c (b+1)) (r:=e.t) (p:=fun A u=>A=u) (fun a=>y.symm▸ .dh _ F ⟨?_,fun C=>.eK a l (JL k),fun C=>Y a,fun C=>.dJ a l⟩) (fun a ae=>y.symm▸ .lg G (v▸ .cI a l (rm k)) ?_)
  (fun {af A T W ag} t=>tz k t fun p u ac=>?_) (fun ab t=>w6 s t (.gi (.cy _) (.cZ (congrArg (fun X=>ej.mk _ X _ _) ab) (xz Q))))
 ·subst ac
  refine .d9 (.cy _) F (EY K) (q':=cond (d.bV.fN.eM (dI p)) e.t (b+2)) ?_ ?_
  ·show NP _ (cond (d.bV.fN.eM (dI p)) e.t (b+1)) _
   cases d.bV.fN.eM (dI p)
   ·exact .o9 G
   ·exact .cy _
  ·show wi b 2 _ _ ⟨cond (d.bV.fN.eM (dI p)) e.t (b+2),u,T,W⟩
   (rewrite [aa];refine bT v ?_)
   cases d.bV.eM (dI p)
   ·exact w5 rfl
   ·exact .cZ rfl (qc b 2)
 ·refine bU fun m=>?_
  obtain ⟨q,i,o,x⟩:=z a
  refine m ?_;try clear m
  have L:=r.dh _ _ a l
  exact Xc L K q i (show c e.t+1=c b by refine bT x ?_;exact i) L.dJ
 ·refine bU fun m=>?_
  obtain ⟨q,i,o,x⟩:=z a
  refine m ?_;try clear m
  exact mB (o.trans i.symm)
def Ov(s:eb f c)(P:fm f g)(o:f.a2[b]? =O (O d))(k:f.a2[b+1]? =O (O e))(t:d.bV=.d0)(m:e.bV.cg=ar)(z:l6 f (b+1)):
  su f (f.fb b b1 (if e.bV.eM (dI d.a) then O (.cE .cI e.t e.e6) else b1)) g:=by
 have C:=z.Vv _ _ k (rm m)
 have X:cx f (b+1)→cx f e.t:=fun a=>.cI a k (rm m)
 have F:∀a:cx f b,cx f (b+1)∧c (b+2)=c b∧c e.t=c b:=fun a=>by
  have l:cx f (b+1):=.eK a o (by refine bT t ?_;rfl)
  have I:c (b+1)=c b+1:=oh (e:=fun x=>x.dR=b2→c (b+1)+x.c0=c b+x.fS) t (s.dh _ _ a o).eK rfl
  refine bU fun n=>?_
  obtain ⟨ak,j,p⟩:=(s.dh _ _ l k).br m
  refine n ?_;try clear n
  exact ⟨l,mB (j.trans I),mB (p.trans I)⟩
 have A:∀j,(e.bV.eM (dI d.a)=ar→j=O (.cE .cI e.t e.e6))→(e.bV.eM (dI d.a)=b2→j=b1)→su f (f.fb b b1 j) g:=fun j u y=>by
  have K:=oI (c:=f) b1 j (gC o)
  have r:=oJ (c:=f) b1 j (gC k)
  have aa:∀d,j=O d→d.cF g=ar:=fun ae a=>by
   cases i:e.bV.eM (dI d.a) with
   |true=>rw [u i] at a;exact dg a▸rfl
   |false=>rw [y i] at a;exact cG a
  refine Xa s P o k z kr aa (s:=c b) (r:=b+1) (p:=fun G w=>G=d.a::w) (fun a=>.lg K (F a).1 ((jA ..).trans (j2 _ _ (rl b)).symm)) (fun a l=>?_) (fun v=>Ny t v (.gi (.o9 K) (w5 rfl))) (fun {ag G w Q T ah} Y v=>tz m v fun ai af ac=>?_)
  ·refine bU fun n=>?_
   obtain ⟨_,ab,R⟩:=F a
   refine n ?_;try clear n
   cases i:e.bV.eM (dI d.a) with
   |true=>
    obtain rfl:=u i
    refine .dh _ r ⟨⟨fy _,(fun a=>dy a),fun q=>?_,fun p L W=>(j2 _ _ (z.ct p L)).trans ((s.dh _ _ l k).dJ p L W),(fun a=>nomatch a)⟩,(fun a=>dy a),fun q=>X l,fun q=>.dJ l k⟩
    exact ((j2 _ _ C).trans R).trans (jA ..).symm
   |false=>
    obtain rfl:=y i
    exact .lg r (.eK l k (JL m)) ((j2 _ _ (rl _).symm).trans (ab.trans (jA ..).symm))
  ·subst Y
   cases ac
   cases i:e.bV.eM (dI d.a) with
   |true=>
    obtain rfl:=u i
    exact .d9 (b:=⟨e.t,w,Q,T⟩) (.cy _) r rfl (.cy _) (.cZ rfl (xz C))
   |false=>
    obtain rfl:=y i
    exact .gi (.o9 r) (.cZ rfl (qc b 2))
 split
 ·rename_i i;exact A _ (fun q=>rfl) fun a=>dy (a.symm.trans i)
 ·rename_i i;exact A _ (fun a=>absurd a i) fun q=>rfl
end
section
variable{d:Nc}{b:Nat}{g h k:R}{i:Bool}{c:Nat→Nat}
def Vy{e:Op→Prop}{a f:Op}(j:f=a)(c:e a):e f:=j▸c
inductive G2(b t tt:Nat)(a:bl):Nat→Nat→List bl→List bl→Prop
 |mq {st:List bl}:G2 b t tt a (b+1) (b+1) (a::st) st
 |DI {st:List bl}:G2 b t tt a t tt (a::st) st
def JN{e:R}(u:eb d c)(G:fm d i)(r:d.a2[b]? =O (O g))(p:d.a2[b+1]? =O (O h))(q:d.a2[h.t]? =O (O e))(w:g.bV=.d0)(j:h.bV=.cI)(n:e.bV.cg=ar)(y:l6 d (b+1)):
  su d (d.fb b b1 (O {h with t:=if e.bV.eM (dI g.a) then e.t else h.t+1})) i:=by
 have ac:h.bV.b8=ar:=by refine bT j ?_;rfl
 have I:∀a,a=(if e.bV.eM (dI g.a) then e.t else h.t+1)→(cx d b→cx d (b+1)∧cx d a∧c a=c b)∧a≠b+1:=fun a z=>by
  refine ⟨fun l=>?_,?_⟩
  ·have o:cx d (b+1):=.eK l r (by refine bT w ?_;rfl)
   have F:cx d h.t:=.cI o p ac
   have P:c (b+1)=c b+1:=oh (e:=fun f=>f.dR=b2→c (b+1)+f.c0=c b+f.fS) w (u.dh _ _ l r).eK rfl
   have Y:c h.t=c (b+1):=oh (e:=fun f=>f.b8=ar→c h.t+f.c0=c (b+1)+f.fS) j (u.dh _ _ o p).cI rfl
   refine bU fun v=>?_
   obtain ⟨_,aa,x⟩:=(u.dh _ _ F q).br n
   refine v ?_;try clear v
   refine bT z ?_
   split
   ·exact ⟨o,.cI F q (rm n),mB (x.trans (Y.trans P))⟩
   ·exact ⟨o,.eK F q (JL n),mB (aa.trans (Y.trans P))⟩
  ·refine bT z ?_
   split
   ·exact y.Vv _ _ q (rm n)
   ·intro l
    rw [mB l,r] at q
    cases q
    rw [w] at n
    exact dy n
 have A:cond (e.bV.eM (dI g.a)) e.t (h.t+1)=if e.bV.eM (dI g.a) then e.t else h.t+1:=by cases e.bV.eM (dI g.a)<;>rfl
 generalize (if e.bV.eM (dI g.a) then e.t else h.t+1)=a at I A⊢
 obtain ⟨C,L⟩:=I a rfl
 have Q:=oI (c:=d) b1 (O {h with t:=a}) (gC r)
 have X:=oJ (c:=d) b1 (O {h with t:=a}) (gC p)
 have ab:({h with t:=a}:R).cF i=ar:=(show h.cF i=ar from G _ _ p)
 have ah:=Nw (a:=b1) (e:=O {h with t:=a}) (l:=c b) u y (fun l=>.lg Q (C l).1 ((jA ..).trans (j2 _ _ (rl b)).symm)) fun l o=>.dh _ X ⟨⟨Vy (e:=fun f=>f.c0≤_) j (fy _),fun m=>?_,fun T=>?_,fun x W ai=>(j2 _ _ (y.ct x W)).trans ((u.dh _ _ o p).dJ x W ai),fun m=>?_⟩,fun m=>?_,fun T=>(C l).2.1,fun T=>.dJ o p⟩
 ·refine W9 (xx b1 (O {h with t:=a}) y) ah (Bz G kr (sX ab)) r (q:=G2 b h.t a g.a) (fun s=>Ny w s (.gi (.o9 Q) (.lT (.mk .mq)))) fun {aq al m an af ae ag} ak=>?_
  cases ak with
  |mq=>exact ⟨h,p,fun s=>w6 j s (.d9 (b:=⟨a,af,ae,ag⟩) (.cy _) X (by
    refine bU fun v=>?_
    obtain ⟨f,K,av,aa,ao,aw⟩:=h
    obtain rfl:f=.cI:=j
    refine v ?_;try clear v
    rfl) (.cy _) (.lT (.mk .DI)))⟩
  |DI=>exact ⟨e,q,fun s=>tz n s fun au am z=>by
    cases z
    exact .gi (.cy _) (.cZ (congrArg (fun K=>ej.mk K _ _ _) A) (A▸xz L))⟩
 ·rw [j] at m;exact dy m
 ·refine Vy (e:=fun f=>rR c (b+1) (c b) a+f.c0=rR c (b+1) (c b) (b+1)+f.fS) j ?_
  (rewrite [jA];refine bT (j2 _ _ L) ?_)
  exact (C l).2.2
 ·rw [j] at m;cases m
 ·rw [j] at m;exact dy m
inductive G3(b:Nat):Nat→Nat→List bl→List bl→Prop
 |mq {v:bl} {st:List bl}:G3 b (b+1) (b+1) (v::v::st) (v::st)
 |DI {v:bl} {st:List bl}:G3 b (b+2) (b+3) (v::st) st
structure Rf(op:Op):Prop where
 e:op.dR=b2
 j:op.b8=b2
 p:op.fS=0
 t:op.c0=1
 f:op≠ .gx ()
def DJ{e:Op}(f:e.fQ=ar):Rf e:=xy f ⟨rfl,rfl,rfl,rfl,fun a=>nomatch a⟩ ⟨rfl,rfl,rfl,rfl,fun a=>nomatch a⟩ ⟨rfl,rfl,rfl,rfl,fun a=>nomatch a⟩ ⟨rfl,rfl,rfl,rfl,fun a=>nomatch a⟩
def JO(p:eb d c)(I:fm d i)(r:d.a2[b]? =O (O g))(j:d.a2[b+1]? =O (O h))(q:d.a2[b+2]? =O (O k))(v:g.bV=.kq)(Q:h.bV.fQ=ar)(F:k.bV=.gy)(t:l6 d (b+1))(u:l6 d (b+2)):
  su d (d.sv b b1 (O h) b1) i:=by
 have T:=Al (c:=d) b1 (O h) b1 (gC r)
 have X:=Nu (c:=d) b1 (O h) b1 (gC j)
 have R:=Nv (c:=d) b1 (O h) b1 (gC q)
 have e:=DJ Q
 have y:cx d b→(cx d (b+1)∧cx d (b+2)∧cx d (b+3))∧c (b+3)+1=c b:=fun f=>by
  have w:cx d (b+1):=.eK f r (by refine bT v ?_;rfl)
  have n:cx d (b+2):=.eK w j e.e
  have ah:c (b+1)+1=c b+2:=oh (e:=fun l=>l.dR=b2→c (b+1)+l.c0=c b+l.fS) v (p.dh _ _ f r).eK rfl
  have Y:=(p.dh _ _ w j).eK e.e
  rw [e.p,e.t] at Y
  have af:c (b+3)+1=c (b+2):=oh (e:=fun l=>l.dR=b2→c (b+3)+l.c0=c (b+2)+l.fS) F (p.dh _ _ n q).eK rfl
  exact ⟨⟨w,n,.eK n q (by refine bT F ?_;rfl)⟩,af.trans (mB (mB ((congrArg pI Y).trans ah)))⟩
 have ag:b+1≠b+2:=rl _
 have s:∀{a:Nat},a≠b+1→a≠b+2→rR (rR c (b+1) (c b)) (b+2) (c (b+3)) a=c a:=fun am ao=>(j2 _ _ ao).trans (j2 _ _ am)
 have A:rR (rR c (b+1) (c b)) (b+2) (c (b+3)) (b+1)=c b:=(j2 _ _ ag).trans (jA ..)
 have K:rR (rR c (b+1) (c b)) (b+2) (c (b+3)) (b+2)=c (b+3):=jA ..
 have P:=Ot b1 (O h) b1 t u
 have ai:=P.gK p (h:=rR (rR c (b+1) (c b)) (b+2) (c (b+3))) (fun a L=>s (fun f=>L (f▸⟨h9 b,qA (h9 _)⟩)) fun f=>L (f▸⟨qA (h9 b),h9 _⟩)) fun a ab ac=>DG (b:=fun a=>cx d a→uW d (d.sv b b1 (O h) b1) (rR (rR c (b+1) (c b)) (b+2) (c (b+3))) a) ab ac
  (fun f=>.lg T (y f).1.1 (A.trans (s (rl b) (QS b)).symm)) (fun x=>?_) fun ak=>.lg R (y (t.Hb (u.Hb ak))).1.2.2 ((s (QS _).symm (rl _).symm).trans K.symm)
 ·refine W9 P ai (sW (Bz I kr (sX (I _ _ j))) kr) r (q:=G3 b) (fun o=>Vx v o fun al ae G=>by
   subst G
   exact .gi (.o9 T) (.lT (.mk .mq))) fun {az aq a aw ae av ay} an=>?_
  induction an with
  |mq=>exact ⟨h,j,fun o=>Xd (Q:=b+1) o Q fun aB aA m=>.d9 (.cy _) X (m _) (.o9 R) (.lT (.mk .DI))⟩
  |DI=>exact ⟨k,q,fun o=>Nx F o fun al au G=>by
    cases G
    exact .gi (.cy _) (.cZ rfl (qc b 3))⟩
 ·refine bU fun aa=>?_
  obtain ⟨⟨_,n,_⟩,m⟩:=y (t.Hb x)
  refine aa ?_;try clear aa
  refine .dh _ X ⟨⟨?_,fun W=>?_,fun a=>absurd (e.j.symm.trans a) kx,fun z C m=>(s (t.ct z C) (u.ct z C)).trans ((p.dh _ _ x j).dJ z C m),fun a=>absurd a e.f⟩,fun W=>n,fun a=>absurd (e.j.symm.trans a) kx,fun W=>.dJ x j⟩
  ·(refine bT A ?_;refine bT e.t ?_;refine gT m ?_);exact iF (fy _)
  ·(refine bT A ?_;refine bT e.t ?_;refine bT e.p ?_)
   exact (congrArg (· +1) K).trans m
def i7(g:R):Option R:=if g.bV.cg then O (.cE .gy 0 g.e6) else b1
def Rg(a:g.bV.cg=ar):i7 g=O (.cE .gy 0 g.e6):=if_pos a
def Rh(a:g.bV.cg=b2):i7 g=b1:=if_neg (by refine bT a ?_;exact kx)
def Xe{s:List Ct}{r:Bool}{t:Nat}{f:List bl}{e:Kd}{j:List bl}{a:Sum (List bl) ej}{o:Sum (List bl) ej→Prop}(x:g.bV.b8=ar)(G:g.bV.cg=b2)(F:g.t=b+1)(c:eT s r b g ⟨t,f,e,j⟩=O a)(q:o (.inr ⟨b+1,f,e,j⟩)):o a:=by
 refine bU fun u=>?_
 obtain ⟨m,w,C,v,y,z⟩:=g
 obtain rfl:w=b+1:=F
 refine u ?_;try clear u
 refine MY (a:=fun m=>m.cg=b2→eT s r b ⟨m,b+1,C,v,y,z⟩ ⟨t,f,e,j⟩=O a→o a) x (fun l=>dy l) (fun l=>dy l) (fun A c=>?_) (fun A c=>dT c q) G c
 refine MX (v:=fun n p=>n::p) (w:=dW) c fun n p I=>?_
 refine gT I ?_
 cases dW n<;>exact q
def Ow(p:eb d c)(y:fm d i)(f:d.a2[b]? =O (O g))(q:g.bV.b8=ar)(o:g.t=b+1):su d (d.qm b (i7 g)) i:=by
 have l:=w4 (c:=d) (i7 g) (gC f)
 have j:=Os (c:=d) (b:=b) (i7 g)
 have x:cx d b→cx d (b+1):=fun a=>o▸ .cI a f q
 cases m:g.bV.cg with
 |true=>
  rw [Rg m] at l j⊢
  have u:=j.gK p (h:=c) (fun e e=>rfl) fun C r s=>r6 r (qk s)▸fun a=>.dh _ l (let ⟨A,F,_⟩:=(p.dh _ _ a f).br m;⟨⟨A,fun e=>F,(fun a=>dy a),(p.dh _ _ a f).dJ,(fun a=>nomatch a)⟩,fun e=>x a,(fun a=>dy a),fun e=>.dJ a f⟩)
  refine W9 j u (sW y (sX rfl)) f (q:=fun e e e e=>False) (fun t=>tz m t fun z I G=>?_) fun w=>w.elim
  subst G
  refine .d9 (.cy _) l rfl (.cy _) (.cZ ?_ ?_)
  ·refine bT o ?_;cases g.bV.eM (dI z)<;>rfl
  ·refine bT o ?_;cases g.bV.eM (dI z)<;>exact qc b 1
 |false=>
  rw [Rh m] at l j⊢
  have u:=j.gK p (h:=c) (fun e e=>rfl) fun C r s=>r6 r (qk s)▸fun a=>.lg l (x a) (by
   have n:=(p.dh _ _ a f).cI q
   rw [o] at n
   exact MY (a:=fun v=>v.cg=b2→c (b+1)+v.c0=c b+v.fS→c (b+1)=c b) q (fun a=>dy a) (fun a=>dy a) (fun e n=>mB n) (fun e n=>n) m n)
  exact W9 j u (sW y kr) f (q:=fun e e e e=>False) (fun t=>Xe q m o t (.gi (.o9 l) (.cZ rfl (qc b 1)))) fun w=>w.elim
end
inductive lm(X:Nc):Nat→Nat→Prop
 |cy (a:Nat):lm X a a
 |d9 {a b:Nat} {r:R} (e:X.a2[a]? =O (O r)) (c:r.bV=.cI) (k:lm X r.t b):lm X a b
def lm.ci{a:Nc}{c d e:Nat}(h:lm a c d)(b:lm a d e):lm a c e:=by
 induction h with
 |cy=>exact b
 |d9 i f _ g=>exact .d9 i f (g b)
inductive Vz(X:Nc)(r:R):R→Prop
 |je (c:r.bV.b8=b2):Vz X r r
 |to {t:Nat} (c:r.bV.b8=ar) (k:lm X r.t t):Vz X r {r with t:=t}
 |ew {e:Nat} {re:R} (c:r.bV=.cI) (k:lm X r.t e) (he:X.a2[e]? =O (O re)) (hre:re.bV=.ew):Vz X r (.cE .ew 0 r.e6)
inductive Wu(X Y:Nc):ej→ej→Prop
 |mq {a b:Nat} {sk ds:List bl} {kd:Kd} (k:lm X a b):Wu X Y ⟨a,sk,kd,ds⟩ ⟨b,sk,kd,ds⟩
 |DI {a b e:Nat} {sk ds:List bl} {kd:Kd} {r2 re:R} (y:Y.a2[b]? =O (O r2)) (y2:r2.bV=.ew) (k:lm X a e) (x:X.a2[e]? =O (O re)) (x2:re.bV=.ew):Wu X Y ⟨a,sk,kd,ds⟩ ⟨b,sk,kd,ds⟩
section
variable{l j:List Ct}{f:Bool}{i h n o g:Nat}{c m:R}{b:List bl}{a:Kd}{d:List bl}{k:Sum (List bl) ej}{e:Sum (List bl) ej→Prop}
def Ri(y:c.bV=.ew)(I:m.bV=.ew)(G:eT l f i c ⟨n,b,a,d⟩=O k)(z:∀q,eT j f h m ⟨o,b,a,d⟩=O (.inl q)→e (.inl q)):e k:=by
 refine bU fun t=>?_
 obtain ⟨C,g,W,Y,P,Q⟩:=c
 obtain ⟨x,r,u,F,v,w⟩:=m
 obtain rfl:C=.ew:=y
 obtain rfl:x=.ew:=I
 refine t ?_;try clear t
 exact fV G fun p s=>fc s fun T L aa K=>fV (e:=fun p=>Ah f ⟨.ew,r,u,F,v,w⟩ b a=O p→e (rQ l i g b a d p)) K (fun X R A=>z _ (congrArg (nG (rQ j h r b a d)) A)) s
def Ox{r:nw}{e:nw→Prop}(C:c.bV.b8=ar)(p:Ah f c b a=O r)(q:∀s t,e (.cI s t)):e r:=by
 refine bU fun x=>?_
 obtain ⟨v,g,A,t,y,z⟩:=c
 refine x ?_;try clear x
 exact MY (a:=fun v=>Ah f ⟨v,g,A,t,y,z⟩ b a=O r→e r) C (fun p=>fc p fun w s u p=>dT p (q _ _)) (fun p=>fc p fun w s u p=>dT p (q _ _)) (fun p=>fc p fun w s u p=>dT p (q _ _)) (fun p=>dT p (q _ _)) p
def Xf(x:c.bV.b8=ar)(w:eT l f i c ⟨n,b,a,d⟩=O k)(u:∀q p,eT j f h {c with t:=g} ⟨o,b,a,d⟩=O (.inr ⟨cond q g (h+1),p,a,d⟩)→e (.inr ⟨cond q c.t (i+1),p,a,d⟩)):e k:=
 fV w fun r s=>Ox (e:=fun r=>Ah f c b a=O r→e (rQ l i c.t b a d r)) x s (fun p q v=>u q p (congrArg (nG (rQ j h g b a d)) v)) s
end
section
variable{a b:Nc}{d:Bool}{c:Nat→Nat}
def lm.mH(n:eb a c){e f:Nat}(k:lm a e f)(g:cx a e):cx a f∧c f=c e:=by
 induction k with
 |cy=>exact ⟨g,rfl⟩
 |@d9 e f p j i _ m=>
  obtain ⟨l,o⟩:=m (.cI g j (by refine bT i ?_;rfl))
  exact ⟨l,o.trans (oh (e:=fun h=>h.b8=ar→c p.t+h.c0=c e+h.fS) i (n.dh _ _ g j).cI rfl)⟩
def yQ.eI{h:Nat}{g:R}(f:b.f6=a.f6)(e:yQ a c h g):yQ b c h g:=⟨e.c0,e.eK,e.cI,f▸e.dJ,f▸e.gx⟩
def JP(s:eb a c)(Q:fm a d)(X:b.a2.length=a.a2.length)(C:b.f6=a.f6)(I:b.cp=a.cp)(W:∀h:Nat,a.a2[h]? ≠O b1)(P:∀(h:Nat)(i:R),a.a2[h]? =O (O i)→∃l,b.a2[h]? =O (O l)∧Vz a i l):eb b c∧fm b d∧fH a b:=by
 have p:∀{h:Nat}{v:Option R}{K:Prop},b.a2[h]? =O v→(∀i l,v=O l→a.a2[h]? =O (O i)→Vz a i l→K)→K:=fun {h v K} e f=>by
  cases g:a.a2[h]? with
  |none=>exact absurd (X▸gC e) (jI.mpr (TT.mp g))
  |some ao=>induction ao with
   |none=>exact absurd g (W h)
   |some i=>
    refine bU fun w=>?_
    obtain ⟨ai,ak,al⟩:=P h i g
    refine w ?_;try clear w
    exact f i ai (dg (e.symm.trans ak)) g al
 have x:∀{h:Nat},cx b h→cx a h:=fun {h:Nat} (ah:cx b h)=>by
  induction ah with
  |dH m=>exact .dH (I▸m)
  |lg _ e t=>exact p e fun r r g=>cG g
  |eK _ e f t=>
   refine p e fun i l g k F=>?_
   obtain rfl:=dg g
   induction F with
   |ew=>exact dy f
   |_=>exact .eK t k f
  |cI _ e f t=>
   refine p e fun i l g k F=>?_
   obtain rfl:=dg g
   induction F with
   |je j=>exact absurd (j.symm.trans f) kx
   |to j av=>exact (av.mH s (.cI t k j)).1
   |ew=>exact dy f
  |dJ _ e am f t=>exact p e fun i l g k y=>.dJ t k (C▸am) f
 have ac:eb b c:=⟨fun n m=>s.dH n (I▸m),fun n m=>X▸s.kJ n (x m),fun n m e=>p e (fun r r g=>cG g),fun n l m e=>p e fun i r g k y=>by
  obtain rfl:=dg g
  have o:=(s.dh n i (x m) k).eI C
  induction y with
  |je j=>exact o
  |to j f=>exact ⟨o.c0,o.eK,fun h=>(congrArg (· +i.bV.c0) (f.mH s (.cI (x m) k j)).2).trans (o.cI j),o.dJ,o.gx⟩
  |ew j f G L=>
   have ae:=f.mH s (.cI (x m) k (by refine bT j ?_;rfl))
   have h:c _=c n:=ae.2.trans (oh (e:=fun u=>u.b8=ar→c i.t+u.c0=c n+u.fS) j o.cI rfl)
   exact ⟨h▸oh (e:=fun u=>u.c0≤c _) L (s.dh _ _ ae.1 G).c0,(fun g=>dy g),(fun g=>dy g),o.dJ,(fun g=>nomatch g)⟩⟩
 have Y:fm b d:=fun h l e=>p e fun i r g k y=>by
  obtain rfl:=dg g
  induction y with
  |ew=>rfl
  |je=>exact Q h _ k
  |to=>exact (show i.cF d=ar from Q h i k)
 refine ⟨ac,Y,n8 (d:=fun r=>Wu a b) I ac Y (fun aq=>⟨fun c=>?_,fun r e=>absurd e (W _),fun {aC az i v} ay z q=>?_⟩) fun aq n aA m aD=>.mq (.cy _)⟩
 ·induction c<;>rfl
 ·induction ay with
  |mq f=>induction f with
   |d9 e j f=>
    rw [z] at e;cases e
    exact w6 j q (.gi (.cy _) (.mq f))
   |cy=>
    refine bU fun w=>?_
    obtain ⟨l,A,an⟩:=P _ i z
    refine w ?_;try clear w
    induction an with
    |je j=>induction v with
     |inl ag=>exact .gG (.cy _) A (C.symm▸q)
     |inr af=>obtain ⟨_,_,_,_⟩:=af;exact .d9 (.cy _) A (C.symm▸q) (.cy _) (.mq (.cy _))
    |to j f=>exact Xf j q fun aw aB e=>.d9 (.cy _) A e (.cy _) (.mq (by induction aw;exact .cy _;exact f))
    |ew j f G L=>exact w6 j q (.gi (.cy _) (.DI A rfl f G L))
  |DI T aa f k ab=>induction f with
   |d9 e j f=>
    rw [z] at e;cases e
    exact w6 j q (.gi (.cy _) (.DI T aa f k ab))
   |cy=>
    rw [z] at k;cases k
    exact Ri ab aa q fun ag au=>.gG (.cy _) T au
def Rj(s:eb a c)(C:fm a d)(F:b.a2.length=a.a2.length)(p:b.f6=a.f6)(r:b.cp=a.cp)(i:∀e:Nat,cx a e→b.a2[e]? =a.a2[e]?)(L:∀e:Nat,¬cx a e→∀m,b.a2[e]? ≠O (O m)):eb b c∧fm b d∧fH a b∧(∀e,cx b e↔cx a e):=by
 have n:∀e,cx b e→cx a e:=fun e t=>by
  induction t with
  |dH g=>exact .dH (r▸g)
  |lg _ f h=>exact .lg h (i _ h▸f)
  |eK _ f k h=>exact .eK h (i _ h▸f) k
  |cI _ f k h=>exact .cI h (i _ h▸f) k
  |dJ _ f x k h=>exact .dJ h (i _ h▸f) (p▸x) k
 have G:∀e,cx a e→cx b e:=fun e t=>by
  induction t with
  |dH g=>exact .dH (r▸g)
  |lg g f h=>exact .lg h ((i _ g).trans f)
  |eK g f k h=>exact .eK h ((i _ g).trans f) k
  |cI g f k h=>exact .cI h ((i _ g).trans f) k
  |dJ g f x k h=>exact .dJ h ((i _ g).trans f) (p▸x) k
 have z:eb b c:=⟨fun j g=>s.dH j (r▸g),fun j g=>F▸s.kJ j (n j g),fun j g f=>s.lg j (n j g) (i _ (n j g)▸f),fun j m g f=>(s.dh j m (n j g) (i _ (n j g)▸f)).eI p⟩
 have y:fm b d:=fun e m f=>(UX (cx a e)).elim (fun l=>C e m (i e l▸f)) fun l=>absurd f (L e l m)
 refine ⟨z,y,n8 (d:=fun T q w=>q=w∧cx a q.pc) r z y (fun I=>⟨fun c=>c.1▸rfl,fun {q w} o f=>⟨_,.o9 (o.1▸(i _ o.2).trans f),o.1▸rfl,.lg o.2 f⟩,fun {q w m K} o u v=>?_⟩) fun I j R g i=>⟨rfl,.dH g⟩,fun e=>⟨n e,G e⟩⟩
 refine bU fun A=>?_
 obtain ⟨rfl,l⟩:=o
 refine A ?_;try clear A
 induction K with
 |inl Q=>exact .gG (.cy _) ((i _ l).trans u) (p.symm▸v)
 |inr P=>exact .d9 (.cy _) ((i _ l).trans u) (p.symm▸v) (.cy _) ⟨rfl,HK l u v⟩
end
noncomputable def c6(a:List (Option R))(b:Nat):Nat:=((a.take b).filterMap id).length
def R.iY(b:Nat→Nat)(a:R):R:=if a.bV.b8 then {a with t:=b a.t} else a
noncomputable def Ct.fI(b:Nat→Nat)(a:Ct):Option Ct:=if b a.d1<b a.iz then O {a with d1:=b a.d1,iz:=b a.iz,cP:=b a.cP} else b1
def Nc.fI(a:Nc):Nc:=⟨((a.a2.filterMap id).map (R.iY (c6 a.a2))).map O,a.f6.filterMap (Ct.fI (c6 a.a2)),a.cp.map (c6 a.a2)⟩
def VA{b:List (Option R)}{c:Nat}{a:Option R}(d:b[c]? =O a):c6 b (c+1)=c6 b c+(a.elim 0 fun e=>1):=by
 unfold c6
 (refine bT qC ?_;refine bT d ?_;refine bT L1 ?_;refine bT dZ ?_)
 induction a<;>rfl
def BA{a:List (Option R)}{b:Nat}(c:a[b]? =O b1):c6 a (b+1)=c6 a b:=VA c
def oY{a:List (Option R)}{b:Nat}{c:R}(d:a[b]? =O (O c)):c6 a (b+1)=c6 a b+1:=VA d
def aad{a:List (Option R)}{c b:Nat}(e:NP a c b):c6 a c=c6 a b:=by
 induction e with
 |cy=>rfl
 |d9 f _ d=>exact (BA f).symm.trans d
def wj(a:List (Option R)){c b:Nat}(d:c≤b):c6 a c≤c6 a b:=by
 obtain ⟨f,e⟩:a.take c <+: a.take b:=List.take_prefix_take_left d
 unfold c6
 (refine gT e ?_;refine bT L1 ?_;refine bT dZ ?_)
 exact fg _ _
def Xg{b:List (Option R)}:∀{a:Nat}{d:R},b[a]? =O (O d)→(b.filterMap id)[c6 b a]? =O d:=by
 induction b with
 |nil=>exact fun c=>cG c
 |cons e g f=>
  intro a d c
  induction a with
  |zero=>
   obtain rfl:e=O d:=dg c
   rfl
  |succ a=>induction e<;>exact f (a:=a) c
def VC{e:List (Option R)}:∀{a:Nat}{f:R},(e.filterMap id)[a]? =O f→∃b,e[b]? =O (O f)∧c6 e b=a:=by
 induction e with
 |nil=>exact fun c=>cG c
 |cons h i g=>
  intro a f c
  induction h with
  |none=>exact (g c).elim fun b d=>⟨b+1,d⟩
  |some j=>induction a with
   |zero=>exact ⟨0,congrArg O c,rfl⟩
   |succ a=>exact (g (a:=a) c).elim fun b d=>⟨b+1,d.1,congrArg pI d.2⟩
def Hc{a:List (Option R)}{b c:Nat}{f:R}(e:a[b]? =O (O f))(d:b<c):c6 a b<c6 a c:=hH (oY e▸h9 _:c6 a b<c6 a (b+1)) (wj a d)
def Xh{a:List (Option R)}{d c:Nat}{i g:R}(h:a[d]? =O (O i))(f:a[c]? =O (O g))(e:c6 a d=c6 a c):d=c:=
 r6 (ra fun b=>kW (Hc f b) e.symm) (ra fun b=>kW (Hc h b) e)
def uX{a:List (Option R)}{b c:Nat}{f:R}(e:a[b]? =O (O f)):c6 a c≤c6 a b↔c≤b:=⟨fun g=>ra fun d=>jI.mpr g (Hc e d),wj a⟩
def JQ{a:List (Option R)}{b c:Nat}{e:R}(d:a[b]? =O (O e)):c6 a b<c6 a c↔b<c:=by
 rw [← Nat.not_le,← Nat.not_le,uX d]
section
variable{a:Nc}{c:Bool}{b:Nat→Nat}
def DK(d:Nat):a.fI.a2[d]? =((a.a2.filterMap id)[d]?).map fun e=>O (e.iY (c6 a.a2)):=by
 show (((a.a2.filterMap id).map (R.iY (c6 a.a2))).map O)[d]? =_
 (refine bT lO ?_;rw [i4]);rfl
def iK{e:Nat}{d:R}(f:a.a2[e]? =O (O d)):a.fI.a2[c6 a.a2 e]? =O (O (d.iY (c6 a.a2))):=by (rewrite [DK];refine bT (Xg f) ?_);rfl
def rn{g:Nat}{f:Option R}(h:a.fI.a2[g]? =O f):∃e d,a.a2[e]? =O (O d)∧c6 a.a2 e=g∧f=O (d.iY (c6 a.a2)):=by
 rw [DK] at h
 exact fV (e:=fun f=>∃e d,a.a2[e]? =O (O d)∧c6 a.a2 e=g∧f=O (d.iY (c6 a.a2))) h fun d b=>have ⟨e,i,j⟩:=VC b;⟨e,d,i,j,rfl⟩
def x9(e:Nat):a.fI.a2[e]? ≠O b1:=fun f=>by
 obtain ⟨h,g,_,_,d⟩:=rn f
 exact cG d
def iL(e:Nat→Nat)(d:R):(d.iY e).bV=d.bV:=by unfold R.iY;split<;>rfl
def Rk(f:Nat→Nat)(e:R)(d:Bool):(e.iY f).cF d=e.cF d:=by unfold R.iY;split<;>rfl
def rS(e:Nat→Nat){d:R}(f:d.bV.b8=ar):(d.iY e).t=e d.t:=by unfold R.iY;(refine bT (if_pos f) ?_;rfl)
def Oy(e:Bool)(h:Nat→Nat)(d:R)(g:List bl)(f:Kd):Ah e (d.iY h) g f=Ah e d g f:=by unfold R.iY;split<;>rfl
noncomputable def Ct.He(e:Nat→Nat)(d:Ct):Ct:={d with d1:=e d.d1,iz:=e d.iz,cP:=e d.cP}
def IO{e:Nat→Nat}{f d:Ct}(b:f.fI e=O d):d=f.He e:=by
 unfold Ct.fI at b
 split at b
 ·exact (dg b).symm
 ·exact cG b
def qW{d:Nat}{g:R}(f:a.a2[d]? =O (O g))(e:Ct):(e.He (c6 a.a2)).c4 (c6 a.a2 d)=e.c4 d:=by
 show (dY (c6 a.a2 e.d1≤c6 a.a2 d)&&dY (c6 a.a2 d<c6 a.a2 e.iz))=(dY (e.d1≤d)&&dY (d<e.iz))
 rw [decide_eq_decide.mpr (uX f),decide_eq_decide.mpr (JQ f)]
def uk{e:Nat}{h:R}{d f:Ct}(i:a.a2[e]? =O (O h))(g:d.fI (c6 a.a2)=O f):f.c4 (c6 a.a2 e)=d.c4 e:=IO g▸qW i d
def ya{f:Nat}{j:R}{d:Ct}(e:a.a2[f]? =O (O j))(h:d.c4 f=ar):d.fI (c6 a.a2)=O (d.He (c6 a.a2)):=
 eE h fun g i=>if_pos (kT ((uX e).mpr (of_decide_eq_true g)) (Hc e (of_decide_eq_true i)))
def HM{e:Nat}{k:R}(g:a.a2[e]? =O (O k)):∀(d:List Ct),(d.filterMap (Ct.fI (c6 a.a2))).find? (·.c4 (c6 a.a2 e))=(d.find? (·.c4 e)).map (Ct.He (c6 a.a2)):=by
 intro d
 induction d with
 |nil=>
  exact rfl
 |cons h d i=>
  (refine bT Ce ?_;rw [tT])
  cases f:h.c4 e with
  |true=>(refine bT (ya g f) ?_;rewrite [tT,qW g];refine bT f ?_);rfl
  |false=>
   refine gT (i) ?_
   cases j:h.fI (c6 a.a2) with
   |none=>rfl
   |some l=>(rewrite [tT];refine bT (uk g j) ?_;refine bT f ?_;rfl)
def uY{f:Nat}{m:R}{e:Ct}{g:Prop}(n:a.a2[f]? =O (O m))(k:e∈a.fI.f6)(l:e.c4 (c6 a.a2 f)=ar)(i:∀d,d∈a.f6→d.c4 f=ar→e=d.He (c6 a.a2)→g):g:=by
 obtain ⟨d,j,h⟩:=Gn.mp k
 exact i d j ((uk n h).symm.trans l) (IO h)
def Am(k:eb a b){e:Nat}(h:cx a e):∃d f,a.a2[d]? =O (O f)∧c6 a.a2 d=c6 a.a2 e∧cx a d∧b d=b e:=by
 refine bU fun g=>?_
 obtain ⟨d,f,i,l,j⟩:=x8 k _ (B8 _ e) h
 refine g ?_;try clear g
 exact ⟨d,f,l,(aad i).symm,j⟩
open Classical in
def w7(a:Nc)(b:Nat→Nat)(i:Nat):Nat:=if e:∃p r,a.a2[p]? =some (some r)∧c6 a.a2 p=i then b e.choose else 0
def yb{d:Nat}{h:R}(i:a.a2[d]? =O (O h)):w7 a b (c6 a.a2 d)=b d:=by
 have e:∃f g,a.a2[f]? =O (O g)∧c6 a.a2 f=c6 a.a2 d:=⟨d,h,i,rfl⟩
 unfold w7
 refine bT (dif_pos e) ?_
 obtain ⟨g,j,k⟩:=e.choose_spec
 (refine bT (Xh j i k) ?_;rfl)
def mI(h:eb a b){d:Nat}(e:cx a d):w7 a b (c6 a.a2 d)=b d:=by
 obtain ⟨k,l,f,i,j,g⟩:=Am h e
 (refine gT i ?_;refine bT (yb f) ?_;refine bT g ?_;rfl)
def vz(v:eb a b){p:Nat}(s:cx a.fI p):∃g j,a.a2[g]? =O (O j)∧c6 a.a2 g=p∧cx a g:=by
 have m:∀{n o},cx a n→c6 a.a2 n=o→∃g j,a.a2[g]? =O (O j)∧c6 a.a2 g=o∧cx a g:=fun {n o} r d=>
  have ⟨u,j,e,y,k,_⟩:=Am v r
  ⟨u,j,e,y.trans d,k⟩
 induction s with
 |dH w=>
  refine bU fun f=>?_
  obtain ⟨z,x,d⟩:=hJ.mp w
  refine f ?_;try clear f
  exact m (.dH x) d
 |lg _ d _=>exact absurd d (x9 _)
 |eK _ d i l=>
  refine bU fun f=>?_
  obtain ⟨g,j,e,rfl,k⟩:=l
  refine f ?_;try clear f
  rw [iK e] at d;cases d
  exact m (.eK k e (iL (c6 a.a2) j▸i)) (oY e)
 |cI _ d i l=>
  refine bU fun f=>?_
  obtain ⟨g,j,e,rfl,k⟩:=l
  refine f ?_;try clear f
  rw [iK e] at d;cases d
  have i:=iL (c6 a.a2) j▸i
  exact m (.cI k e i) (rS _ i).symm
 |dJ _ d t i l=>
  refine bU fun f=>?_
  obtain ⟨g,j,e,rfl,k⟩:=l
  refine f ?_;try clear f
  exact uY e t i fun A q i d=>d▸m (.dJ k e q i) rfl
def EZ(m:eb a b){g:Nat}(j:cx a g):cx a.fI (c6 a.a2 g):=by
 induction j with
 |dH l=>exact .dH (Cf l)
 |lg _ d f=>exact BA d▸f
 |@eK g h _ d e f=>exact oY d▸ .eK f (iK d) ((congrArg Op.dR (iL _ h)).trans e)
 |@cI g h _ d e f=>exact rS (c6 a.a2) e▸ .cI f (iK d) ((congrArg Op.b8 (iL _ h)).trans e)
 |@dJ g h i _ d k e f=>exact .dJ (c:=i.He (c6 a.a2)) f (iK d) (Gn.mpr ⟨i,k,ya d e⟩) ((qW d i).trans e)
noncomputable def Fu(e:Nat→Nat):Sum (List bl) ej→Sum (List bl) ej
 |.inl f=>.inl f
 |.inr d=>.inr {d with pc:=e d.pc}
def HN{h:Bool}{e:Nat}{g:R}{d:ej}{i:Sum (List bl) ej}(k:a.a2[e]? =O (O g))(o:eT a.f6 h e g d=O i)(l:Nat):
  eT a.fI.f6 h (c6 a.a2 e) (g.iY (c6 a.a2)) {d with pc:=l}=O (Fu (c6 a.a2) i):=
 fV (e:=fun i=>eT a.fI.f6 h (c6 a.a2 e) (g.iY (c6 a.a2)) {d with pc:=l}=O (Fu (c6 a.a2) i)) o fun q n=>by
  show (Ah h (g.iY (c6 a.a2)) d.jm d.fU).map _=_
  (rewrite [Oy];refine bT n ?_)
  refine congrArg O ?_
  have r:=xt n
  induction q with
  |cc j p m=>exact congrArg (fun f=>G1 (ej.mk f j p (G7 d.ek m))) (oY k).symm
  |cI j s=>induction s with
   |true=>exact congrArg (fun f=>G1 (ej.mk f j d.fU d.ek)) (rS _ r.1)
   |false=>exact congrArg (fun f=>G1 (ej.mk f j d.fU d.ek)) (oY k).symm
  |gG m=>rfl
  |gx=>
   refine (congrArg (zy d.ek d.jm d.fU) (HM k a.f6)).trans ?_
   show _=Fu _ (zy d.ek d.jm d.fU (a.f6.find? (·.c4 e)))
   cases a.f6.find? (·.c4 e)<;>rfl
def E0(f:eb a b):eb a.fI (w7 a b):=by
 refine ⟨fun o v=>?_,fun n i=>?_,fun n x h=>absurd h (x9 n),fun n w i h=>?_⟩
 ·refine bU fun g=>?_
  obtain ⟨t,r,rfl⟩:=hJ.mp v
  refine g ?_;try clear g
  exact (mI f (.dH r)).trans (f.dH t r)
 ·refine bU fun g=>?_
  obtain ⟨o,s,e,rfl,_⟩:=vz f i
  refine g ?_;try clear g
  exact gC (iK e)
 ·refine bU fun g=>?_
  obtain ⟨o,s,e,rfl,l⟩:=vz f i
  refine g ?_;try clear g
  rw [iK e] at h;cases h
  have j:=f.dh o s l e
  have m:=yb (b:=b) e
  refine ⟨by (rewrite [iL];refine bT m ?_);exact j.c0,fun d=>?_,fun d=>?_,fun u q d=>uY e q d fun p k d h=>?_,fun i u q d=>uY e q d fun p k d h=>?_⟩
  ·rw [iL] at d⊢
   (refine gT (oY e) ?_;refine bT (mI f (.eK l e d)) ?_;refine bT m ?_);exact j.eK d
  ·rw [iL] at d⊢
   (refine bT (rS _ d) ?_;refine bT (mI f (.cI l e d)) ?_;refine bT m ?_);exact j.cI d
  ·exact h▸(mI f (.dJ l e k d)).trans (j.dJ p k d)
  ·rw [iL] at i
   exact m▸h▸j.gx i p k d
def JR{h:Bool}:Q6 a a.fI h fun d f=>f={d with pc:=c6 a.a2 d.pc} where
 ek b:=by (refine bT b ?_;rfl)
 lg {d f} b e:=⟨f.pc,.cy _,by (refine bT b ?_;refine bT (BA e) ?_;rfl)⟩
 dh {d f m i} b e j:=by
  subst b
  have g:=HN e j (c6 a.a2 d.pc)
  induction i with
  |inl l=>exact .gG (.cy _) (iK e) g
  |inr k=>exact .d9 (.cy _) (iK e) g (.cy _) rfl
def Oz(s:eb a b)(l:fm a c):eb a.fI (w7 a b)∧fm a.fI c∧fH a a.fI:=by
 have f:=E0 s
 have g:fm a.fI c:=fun j v q=>by
  obtain ⟨d,k,e,_,n⟩:=rn q
  exact dg n▸(Rk _ k c).trans (l d k e)
 refine ⟨f,g,(et ..).symm,fun j d r e u x w i z t p=>?_⟩
 obtain rfl:c6 a.a2 d=r:=dg ((show (a.cp.map (c6 a.a2))[j]? =O (c6 a.a2 d) by (rewrite [i4];refine bT e ?_);rfl).symm.trans u)
 have h:c6 a.a2 d∈a.fI.cp:=Cf (gj e)
 exact IL JR i (dX i) rfl (fun o=>xw f g o ⟨.dH h,(f.dH _ h).symm,(fun y m=>absurd m gD),t⟩) p
end
structure Cd where
 a2:List R
 b6:List Ct
 cp:List Nat
noncomputable def Cd.nc(a:Cd):Nc:=⟨a.a2.map O,a.b6,a.cp⟩
def Cd.c2(a:Cd)(b:Nat):Bool:=a.a2.any (fun c=>c.bV.b8&&c.t==b)||a.b6.any (fun d=>d.cP==b)||a.cp.contains b
def Cd.cX(b:Cd)(a:List (Option R)):Cd:=⟨(a.filterMap id).map (R.iY (c6 a)),b.b6.filterMap (Ct.fI (c6 a)),b.cp.map (c6 a)⟩
noncomputable def Cd.j3(a:Cd)(b:List (Option R)):Nc:=⟨b,a.b6,a.cp⟩
noncomputable abbrev cb:=List (Option R)
noncomputable def fb(d:cb)(a:Nat)(c b:Option R):cb:=(d.set a c).set (a+1) b
noncomputable def sv(c:cb)(a:Nat)(b d e:Option R):cb:=((c.set a b).set (a+1) d).set (a+2) e
def j4(e:Cd)(a:cb)(b:Nat)(c:R→R→Option cb):cb:=match a[b]?.join,a[b+1]?.join with
 |some f,O d=>if e.c2 (b+1) then a else (c f d).getD a
 |_,_=>a
def gM(d:Cd)(a:cb)(b:Nat):cb:=j4 d a b fun e c=>if e.bV.i6&&c.bV== .gy then O (fb a b b1 b1) else b1
def gN(e:Cd)(a:cb)(c:Nat):cb:=j4 e a c fun b d=>if d.bV== .dt then (if b.bV== .dt then O (fb a c b1 b1) else if b.bV== .kq then O (fb a c (O b) b1) else b1) else b1
def gO(e:Cd)(c:cb)(b:Nat):cb:=j4 e c b fun a d=>if a.bV.cg&&d.bV== .cI&&a.t==b+2 then O (fb c b (O (.cE a.bV.fN d.t a.e6)) b1) else b1
def fv(f:Cd)(c:cb)(e:Nat):cb:=j4 f c e fun d a=>if d.bV== .d0 then
 (if a.bV.cg then O (fb c e b1 (if a.bV.eM (dI d.a) then O (.cE .cI a.t a.e6) else b1))
  else if a.bV== .cI then (match f.a2[a.t]? with
   |some b=>if b.bV.cg then O (fb c e b1 (O {a with t:=if b.bV.eM (dI d.a) then b.t else a.t+1})) else b1
   |none=>b1) else b1) else b1
def fW(d:Cd)(a:cb)(b:Nat):cb:=match a[b]?.join,a[b+1]?.join,a[b+2]?.join with
 |some f,O c,O e=>if f.bV== .kq&&c.bV.fQ&&e.bV== .gy&& !d.c2 (b+1)&& !d.c2 (b+2) then sv a b b1 (O c) b1 else a
 |_,_,_=>a
noncomputable def dk(a:Cd)(c:Cd→cb→Nat→cb)(b:Nat):cb:=(f5 b).foldl (c a) (a.a2.map O)
def eX(a:Cd):Cd:=a.cX (dk a gM (a.a2.length-1))
def fZ(a:Cd):Cd:=a.cX (dk a gN (a.a2.length-1))
def fq(a:Cd):Cd:=a.cX (dk a gO (a.a2.length-1))
def fE(a:Cd):Cd:=a.cX (dk a fv (a.a2.length-1))
def ff(a:Cd):Cd:=a.cX (dk a fW (a.a2.length-2))
def d4(b:Nat)(a:R):Option R:=if a.bV.b8&&a.t==b+1 then i7 a else O a
def dM(a:Cd):Cd:=a.cX (a.a2.mapIdx d4)
def mJ(c:List R)(b:Nat):Nat→Nat→Nat
 | 0,_=>b
 |e+1,a=>match c[a]? with
  |some d=>if d.bV=.cI then mJ c b e d.t else a
  |none=>a
def mr(b:List R)(a:Nat):Nat:=mJ b a b.length a
def gP(b:List R)(c:Nat):Bool:=match b[c]? with
 |some a=>a.bV== .ew
 |none=>b2
def dE(b:List R)(a:R):R:=if a.bV.b8 then (if a.bV== .cI&&gP b (mr b a.t) then .cE .ew 0 a.e6 else {a with t:=mr b a.t}) else a
def eo(a:Cd):Cd:=a.cX ((a.a2.map (dE a.a2)).map O)
def gz{c:Type}{i:c→Nat→c}{d:Nat→c→Prop}{h:c}:∀{a:Nat},d 0 h→(∀b e,b<a→d b e→d (b+1) (i e b))→d a ((f5 a).foldl i h):=by
 intro a
 induction a with
 |zero=>
  intro f _
  exact f
 |succ a j=>
  intro f g
  (refine bT vT ?_;refine bT tR ?_)
  exact g a _ (h9 a) (j f fun b e k=>g b e (qA k))
def gk(a:Cd)(b:Bool):Prop:=(∃c,eb a.nc c)∧(fm a.nc b)
section
variable{b:Cd}{c:Bool}(a:gk b c)
include a
def gk.gK:∃d,eb b.nc d:=a.1
def gk.cF:fm b.nc c:=a.2
end
def qn(b a:Cd)(c:Bool):Prop:=gk a c∧fH b.nc a.nc
section
variable{a:Cd}{b:Bool}
def gn(a:Cd)(b:Bool)(i:Nat)(d:cb):Prop:=(∃h,eb (a.j3 d) h)∧(fm (a.j3 d) b)∧(fH a.nc (a.j3 d))∧(d.length=a.a2.length)∧(∀(g:Nat)(c:R),d[g]? =O (O c)→c.bV.b8=ar→a.c2 c.t=ar∨∃e,a.a2[c.t-1]? =O e∧e.bV.cg=ar∧a.c2 (c.t-1)=ar∧1≤c.t)∧(∀(f:Nat)(e:R),a.a2[f]? =O e→e.bV.cg=ar→a.c2 f=ar→d[f]? =O (O e)∨∃c,d[f]? =O (O c)∧c.bV.cg=ar)
section
variable{c:Cd}{f:Bool}{g:Nat}{d:cb}(e:gn c f g d)
include e
def gn.gK:∃a,eb (c.j3 d) a:=e.1
def gn.cF:fm (c.j3 d) f:=e.2.1
def gn.w3:fH c.nc (c.j3 d):=e.2.2.1
def gn.cC:d.length=c.a2.length:=e.2.2.2.1
def gn.iV:∀(h:Nat)(a:R),d[h]? =O (O a)→a.bV.b8=ar→c.c2 a.t=ar∨∃b,c.a2[a.t-1]? =O b∧b.bV.cg=ar∧c.c2 (a.t-1)=ar∧1≤a.t:=e.2.2.2.2.1
def gn.cR:∀(a:Nat)(b:R),c.a2[a]? =O b→b.bV.cg=ar→c.c2 a=ar→d[a]? =O (O b)∨∃h,d[a]? =O (O h)∧h.bV.cg=ar:=e.2.2.2.2.2
end
def lK{d:Nat}{c:R}(f:a.a2[d]? =O c)(e:c.bV.b8=ar):a.c2 c.t=ar:=
 nR.mpr (.inl (nR.mpr (.inl (tS.mpr ⟨c,gj f,iX.mpr ⟨e,beq_self_eq_true _⟩⟩))))
def dF{d:Nat}{e:R}:a.nc.a2[d]? =O (O e)↔a.a2[d]? =O e:=by
 show (a.a2.map O)[d]? =_↔_
 rw [i4]
 cases a.a2[d]? with
 |none=>exact ⟨fun c=>cG c,fun c=>cG c⟩
 |some f=>exact ⟨fun c=>congrArg O (dg (dg c)),fun c=>congrArg O c⟩
def sY(c:Nat):a.nc.a2[c]? ≠O b1:=by
 show (a.a2.map O)[c]? ≠_
 rw [i4]
 cases a.a2[c]? <;>exact fun d=>nomatch d
def oL(e:gk a b):gn a b 0 (a.a2.map O):=⟨
 e.gK,
 e.cF,
 fH.cy _,
 et ..,
 (fun i j c d=>.inl (lK (dF.mp c) d)),
 (fun f g c d h=>.inl (dF.mpr c))⟩
def lL{c:cb}{e:Nat}{d:R}(g:c[e]?.join=O d):c[e]? =O (O d):=lf g fun i f h=>f.trans (congrArg O h)
def DL{d c:Bool}(e:(d||c)=b2):d=b2∧c=b2:=Ga.mp e
def Xi{c:Type}{e:List c}{f:c→Bool}(i:e.any f=b2){d:c}(j:d∈e)(g:f d=ar){h:Prop}:h:=dy (i.symm.trans (tS.mpr ⟨d,j,g⟩))
def gn.mK{o:Nat}{i:cb}(k:gn a b o i){d:Nat}{j e:R}{l:Prop}(h:i[d]? =O (O j))(f:j.bV.cg=b2)(p:a.a2[d]? =O e)(g:e.bV.cg=ar)(m:a.c2 d=ar):l:=by
 refine (k.cR d e p g m).elim (fun c=>?_) fun ⟨q,c,n⟩=>?_
 ·rw [h] at c;cases c;exact dy (f.symm.trans g)
 ·rw [h] at c;cases c;exact dy (f.symm.trans n)
def ul(a:Cd)(e:cb):Prop:=∀(d:Nat)(c:R),e[d]? =O (O c)→c.bV.b8=ar→a.c2 c.t=ar
def oZ{u:Nat}{f:cb}(n:gn a b u f){e:Nat}{p:R}(r:f[e]? =O (O p))(g:p.bV.cg=b2∨ul a f)(l:a.c2 (e+1)=b2):l6 (a.j3 f) (e+1):=by
 have h:∀{j:Nat},a.c2 j=ar→j≠e+1:=fun s c=>dy (l.symm.trans (c▸s))
 obtain ⟨w,d⟩:=DL l
 refine ⟨fun c=>dy (d.symm.trans (rb.mpr c)),fun o i q m=>(n.iV o i q m).elim h fun ⟨y,k,v,d,z⟩=>g.elim (fun g c=>?_) fun t=>h (t o i q m),fun a x c=>Xi (DL w).2 x (beq_iff_eq.mpr c)⟩
 rw [c] at k d
 exact n.mK r g k v d
end
section
variable{a:Cd}{b:Bool}
def nx(a:Cd)(c:Nat):Prop:=a.c2 c=ar∨∃d,a.a2[c-1]? =O d∧d.bV.cg=ar∧a.c2 (c-1)=ar∧1≤c
def gn.gi{d:Nat}{c:cb}(e:gn a b d c):gn a b (d+1) c:={e with}
def uZ{d:cb}{c e:Nat}(f h:Option R)(g:e<c∨c+2≤e):(fb d c f h)[e]? =d[e]? :=(hO (c:=⟨d.set c f,[],[]⟩) (oK g (fM c) (h9 _))).trans (hO (c:=⟨d,[],[]⟩) (oK g (dX c) (qA (h9 c))))
def JS{f:cb}{c d:Nat}(e g i:Option R)(h:d<c∨c+3≤d):(sv f c e g i)[d]? =f[d]? :=(hO (c:=⟨fb f c e g,[],[]⟩) (oK h (fg c 2) (h9 _))).trans (uZ e g (h.imp id lC))
def tA(c:cb)(f:Nat)(e d:Option R):(fb c f e d).length=c.length:=m9.trans m9
def mL{d:cb}{e c:Nat}{o m:R}{g h:Option R}{f:Nat→Option (Option R)→Prop}(l:d[e]? =O (O o))(n:d[e+1]? =O (O m))(k:∀{c},c<e∨e+2≤c→f c d[c]?)(p:f e (O g))(j:f (e+1) (O h)):f c (fb d e g h)[c]? :=
 (oH e 2 c).elim (fun i=>(congrArg (f c) (uZ g h i)).mpr (k i)) fun i=>Ak (b:=fun c=>f c (fb d e g h)[c]?) i.1 i.2 ((oI (c:=⟨d,[],[]⟩) g h (gC (c:=⟨d,[],[]⟩) l)).symm▸p) ((oJ (c:=⟨d,[],[]⟩) g h (gC (c:=⟨d,[],[]⟩) n)).symm▸j)
def gn.CK{d:Nat}{e:cb}{c r:R}{k p:Option R}(h:gn a b d e)(l:e[d]? =O (O c))(q:e[d+1]? =O (O r))(u:a.c2 (d+1)=b2)(n:su (a.j3 e) (a.j3 (fb e d k p)) b)
  (z:∀c,k=O c→c.bV.b8=ar→nx a c.t) (s:∀c,p=O c→c.bV.b8=ar→nx a c.t) (t:c.bV.cg=b2∨∃c,k=O c∧c.bV.cg=ar):gn a b (d+1) (fb e d k p):=⟨
 n.1,
 n.2.1,
 h.w3.ci n.2.2,
 (tA ..).trans h.cC,
 (fun o c=>mL (f:=fun o j=>j=O (O c)→c.bV.b8=ar→nx a c.t) l q (fun {o} _=>h.iV o c) (fun g=>z c (dg g)) fun g=>s c (dg g)),
 (fun f i=>mL (f:=fun f j=>a.a2[f]? =O i→i.bV.cg=ar→a.c2 f=ar→j=O (O i)∨∃c,j=O (O c)∧c.bV.cg=ar) l q (fun {f} _=>h.cR f i) (fun C x m=>t.elim (fun g=>h.mK l g C x m) fun w=>by obtain ⟨c,A,v⟩:=w;exact .inr ⟨c,congrArg O A,v⟩) fun y y m=>dy (u.symm.trans m))⟩
set_option tactic.hygienic true in
def oM{e:cb}{g:Nat}{i:R→R→Option cb}{h:cb→Prop}(j:h e)(m:∀d c f,e[g]? =some (some d)→e[g+1]? =some (some c)→a.c2 (g+1)=false→i d c=some f→h f):h (j4 a e g i):=by
 unfold j4
 split
 ·rename_i d c k o
  split
  ·exact j
  ·rename_i l
   cases n:i d c with
   |none=>exact j
   |some f=>exact m d c f (lL k) (lL o) (Bool.eq_false_iff.mpr l) n
 ·exact j
def v0{f:Type}{a:Prop}[Decidable a]{g h:Option f}{d:f}{c:Prop}(e:(if a then g else h)=O d)(i:a→g=O d→c)(j:¬a→h=O d→c):c:=by
 split at e
 ·exact i ‹_› e
 ·exact j ‹_› e
def jR{c:Type}{a:Prop}[Decidable a]{e:Option c}{f:c}{d:Prop}(h:(if a then e else b1)=O f)(g:a→e=O f→d):d:=v0 h g fun i=>cG
def o0:∀c,(b1:Option R)=O c→c.bV.b8=ar→nx a c.t:=fun e d=>cG d
def DM{c:R}(f:c.bV.i6=ar):c.bV.cg=b2:=by
 refine bU fun d=>?_
 obtain ⟨e,k,i,j,g,h⟩:=c
 refine d ?_;try clear d
 induction e<;>first|rfl|exact f.symm
def OA{c:R}(e:c.bV.fQ=ar):c.bV.cg=b2:=xy (a:=fun d=>d.cg=b2) e rfl rfl rfl rfl
def qX(j:gk a b)(f:Nat):gn a b f (dk a gM f):=
 gz (d:=gn a b) (oL j) fun i q t c=>oM (h:=gn a b (i+1)) c.gi fun u p s d g h m=>jR m fun n l=>eE n fun e k=>dT (b:=gn a b (i+1)) l (c.gK.elim fun r o=>c.CK d g h (JK o c.cF d g e (dr k) (oZ c d (.inl (DM e)) h)) o0 o0 (.inl (DM e)))
def CL{d:R}{c:Op}(a:d.bV=c)(e:c.cg=b2):d.bV.cg=b2:=a▸e
def sF(o:gk a b)(l:Nat):gn a b l (dk a gN l):=
 gz (d:=gn a b) (oL o) fun k t w c=>oM (h:=gn a b (k+1)) c.gi fun x r v d i j h=>jR h fun m h=>c.gK.elim fun u n=>v0 h
  (fun e g=>dT (b:=gn a b (k+1)) g (have f:=CL (dr e) rfl;c.CK d i j (Ou n c.cF d i (dr e) (dr m) (oZ c d (.inl f) j)) o0 o0 (.inl f)))
  fun s h=>jR h fun e g=>dT (b:=gn a b (k+1)) g (have f:=CL (dr e) rfl;c.CK d i j (HL n c.cF d i (dr e) (dr m) (oZ c d (.inl f) j)) (fun q g p=>dy ((congrArg Op.b8 (dr e)).symm.trans (dg g▸p))) o0 (.inl f))
def E1:ul a (a.a2.map O):=fun e f d c=>lK (dF.mp d) c
def qY(t:gk a b)(l:Nat):gn a b l (dk a gO l)∧ul a (dk a gO l):=
 gz (d:=fun k c=>gn a b k c∧ul a c) ⟨oL t,E1⟩ fun k c I ⟨g,j⟩=>oM (h:=fun c=>gn a b (k+1) c∧ul a c) ⟨g.gi,j⟩ fun e o G h i r x=>jR x fun m d=>eE m fun m z=>eE m fun s q=>dT (b:=fun c=>gn a b (k+1) c∧ul a c) d (by
  have p:a.c2 o.t=ar:=j _ _ i (by refine bT (dr q) ?_;rfl)
  have u:(R.cE e.bV.fN o.t e.e6).bV.cg=ar:=lU (b:=fun v=>v.fN.cg=ar) s rfl rfl
  refine g.gK.elim fun F y=>⟨g.CK h i r (JM y g.cF h i s (dr q) (dr z) (oZ g h (.inr j) r)) (fun f d A=>dT (b:=fun e:R=>nx a e.t) d (.inl p)) o0 (.inr ⟨_,rfl,u⟩),fun n f=>?_⟩
  exact mL (f:=fun n w=>w=O (O f)→f.bV.b8=ar→a.c2 f.t=ar) h i (fun {n} _=>j n f) (fun d C=>dT (b:=fun e:R=>a.c2 e.t=ar) (dg d) p) fun d=>cG (dg d))
def VD(a:Cd)(e:cb):Prop:=∀(c:Nat)(d:R),a.a2[c]? =O d→d.bV.cg=ar→a.c2 c=ar→e[c]? =O (O d)
def An(a:Cd)(b:Bool)(e:Nat)(c:cb):Prop:=gn a b e c∧VD a c∧∀d,e<d→c[d]? =(a.a2.map O)[d]?
def Ao{c:Nat}{d:cb}{e o:R}{j:Option R}(K:An a b c d)(h:d[c]? =O (O e))(l:d[c+1]? =O (O o))(n:a.c2 (c+1)=b2)(m:e.bV.cg=b2)(t:su (a.j3 d) (a.j3 (fb d c b1 j)) b)(p:∀e,j=O e→e.bV.b8=ar→nx a e.t):An a b (c+1) (fb d c b1 j):=
 ⟨K.1.CK h l n t o0 p (.inl m),fun f g=>mL (f:=fun f s=>a.a2[f]? =O g→g.bV.cg=ar→a.c2 f=ar→s=O (O g)) h l (fun {f} _=>K.2.1 f g) (fun v q i=>K.1.mK h m v q i) (fun r r i=>dy (n.symm.trans i)),fun u k=>(uZ _ _ (.inr k)).trans (K.2.2 u (q8 k))⟩
def ro(y:gk a b)(h:Nat):gn a b h (dk a fv h)∧VD a (dk a fv h)∧∀f,h<f→(dk a fv h)[f]? =(a.a2.map O)[f]? :=
 gz (d:=An a b) ⟨oL y,(fun F t C e e=>dF.mpr C),fun f e=>rfl⟩ fun n G P K=>oM (h:=An a b (n+1)) ⟨K.1.gi,K.2.1,fun f A=>K.2.2 f (q8 A)⟩ fun p l L g i r c=>jR c fun k c=>K.1.gK.elim fun I x=>by
  have k:=dr k
  have s:a.a2[n+1]? =O l:=dF.mp ((K.2.2 (n+1) (h9 n)).symm.trans i)
  have q:=CL k rfl
  have w:=oZ K.1 g (.inl q) r
  refine v0 c (fun u d=>dT d (Ao K g i r q (Ov x K.1.cF g i k u w) fun z d e=>jR d fun e d=>dT (b:=fun p:R=>nx a p.t) d (.inl (show a.c2 l.t=ar from lK s (rm u))))) fun e c=>jR c fun m c=>?_
  have m:=dr m
  have v:a.c2 l.t=ar:=lK s (by refine bT m ?_;rfl)
  cases j:a.a2[l.t]? with
  |none=>rw [j] at c;exact cG c
  |some t=>
   rw [j] at c
   refine jR c fun o d=>dT d (Ao K g i r q (JN x K.1.cF g i (K.2.1 _ _ j o v) k m o w) fun z d e=>dT (b:=fun p:R=>nx a p.t) d ?_)
   show nx a (if _ then _ else _)
   split
   ·exact .inl (lK j (rm o))
   ·exact .inr ⟨t,j,o,v,iF (fy _)⟩
def sG(d:gk a b)(c:Nat):gn a b c (dk a fv c):=(ro d c).1
def rp{c:cb}{e d:Nat}{s q o:R}{g i h:Option R}{f:Nat→Option (Option R)→Prop}(n:c[e]? =O (O s))(r:c[e+1]? =O (O q))(k:c[e+2]? =O (O o))(m:∀{d},d<e∨e+3≤d→f d c[d]?)(t:f e (O g))(l:f (e+1) (O i))(p:f (e+2) (O h)):f d (sv c e g i h)[d]? :=
 (oH e 3 d).elim (fun j=>(congrArg (f d) (JS g i h j)).mpr (m j)) fun j=>DG (b:=fun d=>f d (sv c e g i h)[d]?) j.1 j.2 ((Al (c:=⟨c,[],[]⟩) g i h (gC (c:=⟨c,[],[]⟩) n)).symm▸t) ((Nu (c:=⟨c,[],[]⟩) g i h (gC (c:=⟨c,[],[]⟩) r)).symm▸l) ((Nv (c:=⟨c,[],[]⟩) g i h (gC (c:=⟨c,[],[]⟩) k)).symm▸p)
def DN{c:Bool}(d:(!c)=ar):c=b2:=by induction c<;>first|rfl|exact dy d
set_option tactic.hygienic true in
def w8{e:cb}{d:Nat}{j:cb→Prop}(i:j e)(p:∀h f g,e[d]? =some (some h)→e[d+1]? =some (some f)→e[d+2]? =some (some g)→h.bV=.kq→f.bV.fQ=true→g.bV=.gy→a.c2 (d+1)=false→a.c2 (d+2)=false→j (sv e d none (some f) none)):j (fW a e d):=by
 unfold fW
 split
 ·rename_i h f g l o q
  split
  ·rename_i c
   exact eE c fun c k=>eE c fun c m=>eE c fun c r=>eE c fun i n=>p h f g (lL l) (lL o) (lL q) (eq_of_beq i) n (eq_of_beq r) (DN m) (DN k)
  ·exact i
 ·exact i
def qZ(t:gk a b)(e:Nat):gn a b e (dk a fW e):=
 gz (d:=gn a b) (oL t) fun u A G c=>w8 (j:=gn a b (u+1)) c.gi fun d z F f g l m r y s q=>c.gK.elim fun C x=>
  have o:=JO x c.cF f g l m r y (oZ c f (.inl (CL m rfl)) s) (oZ c g (.inl (OA r)) q)
  ⟨
   o.1,
   o.2.1,
   c.w3.ci o.2.2,
   (m9.trans (tA ..)).trans c.cC,
   (fun p d=>rp (f:=fun p k=>k=O (O d)→d.bV.b8=ar→nx a d.t) f g l (fun {p} _=>c.iV p d) (fun i=>cG (dg i)) (fun i=>c.iV _ d (g.trans i)) fun i=>cG (dg i)),
   (fun h j=>rp (f:=fun h k=>a.a2[h]? =O j→j.bV.cg=ar→a.c2 h=ar→k=O (O j)∨∃d,k=O (O d)∧d.bV.cg=ar) f g l (fun {h} _=>c.cR h j) (fun w v e=>c.mK f (CL m rfl) w v e) (fun n n e=>dy (s.symm.trans e)) fun n n e=>dy (q.symm.trans e))⟩
end
section
variable{a:Cd}{b:Bool}
def pp{c:cb}(k:∃d,eb (a.j3 c) d)(e:fm (a.j3 c) b)(g:fH a.nc (a.j3 c)):qn a (a.cX c) b:=by
 obtain ⟨d,i⟩:=k
 obtain ⟨h,f,j⟩:=Oz i e
 exact ⟨⟨⟨_,h⟩,f⟩,g.ci j⟩
def gn.fU{e:Nat}{d:cb}(c:gn a b e d):qn a (a.cX d) b:=pp c.gK c.cF c.w3
def nX(c:gk a b):qn a (eX a) b:=(qX c _).fU
def yc(c:gk a b):qn a (fZ a) b:=(sF c _).fU
def q0(c:gk a b):qn a (ff a) b:=(qZ c _).fU
def nY(c:gk a b):qn a (fq a) b:=(qY c _).1.fU
def pq(c:gk a b):qn a (fE a) b:=(sG c _).fU
noncomputable def gQ(a:Cd)(e:Nat→R→Option R)(f:Nat):cb:=a.a2.mapIdx fun d c=>if d<f then e d c else O c
def mM(d:Nat→R→Option R)(f c:Nat):(gQ a d f)[c]? =(a.a2[c]?).map fun e=>if c<f then d c e else O e:=wa
def yR(c:Nat→R→Option R):gQ a c 0=a.a2.map O:=vQ fun d=>(mM c 0 d).trans i4.symm
def z2(c:Nat→R→Option R):gQ a c a.a2.length=a.a2.mapIdx c:=vQ fun d=>by
 rw [mM,wa]
 cases e:a.a2[d]? with
 |none=>rfl
 |some f=>exact congrArg O (if_pos (fJ.mp e).1)
def yS(d:Nat→R→Option R){c:Nat}{e:R}(h:a.a2[c]? =O e):gQ a d (c+1)=(gQ a d c).set c (d c e):=vQ fun g=>by
 rw [mM,Ma]
 by_cases f:c=g
 ·subst f
  (refine bT (if_pos rfl) ?_;refine bT h ?_;rw [if_pos (show c<(gQ a d c).length from (pj (f:=fun i e=>if i<c then d i e else O e)).symm▸(fJ.mp h).1)])
  exact congrArg O (if_pos (h9 c))
 ·(refine bT (if_neg f) ?_;rw [mM])
  cases a.a2[g]? with
  |none=>rfl
  |some l=>exact congrArg O (ite_congr (propext ⟨fun j=>y5 (qk j) (Cv f),qA⟩) (fun k=>rfl) fun k=>rfl)
def yT(f:Nat→R→Option R){c:Nat}{d:R}(e:a.a2[c]? =O d):(gQ a f c)[c]? =O (O d):=by
 unfold gQ
 (rewrite [wa];refine bT e ?_)
 exact congrArg O (if_neg (B9 c))
def Nz{d:Type}{c:List d}{f:Nat}{e:d}(h:c[f]? =O e):c.set f e=c:=by
 obtain ⟨g,rfl⟩:=fJ.mp h
 exact T1 g
def pr(j:gk a b):qn a (dM a) b:=by
 have s:∀c,c≤a.a2.length→(∃i,eb (a.j3 (gQ a d4 c)) i)∧fm (a.j3 (gQ a d4 c)) b∧fH a.nc (a.j3 (gQ a d4 c)):=fun c=>by
  induction c with
  |zero=>intro _;rw [yR];exact ⟨j.gK,j.cF,fH.cy _⟩
  |succ c q=>
   intro n
   refine bU fun d=>?_
   obtain ⟨⟨i,o⟩,k,p⟩:=q (lC n)
   refine d ?_;try clear d
   have m:a.a2[c]? =O a.a2[c] :=gS n
   have l:=yT d4 m
   refine bT (yS d4 m) ?_
   generalize g:d4 c a.a2[c] =v
   unfold d4 at g
   split at g
   ·rename_i t
    refine bU fun d=>?_
    obtain ⟨f,h,e⟩:=eE t fun u r=>Ow (d:=a.j3 (gQ a d4 c)) o k l u (dr r)
    refine d ?_;try clear d
    exact g▸⟨f,h,p.ci e⟩
   ·(refine gT g ?_;refine bT (Nz l) ?_)
    exact ⟨⟨i,o⟩,k,p⟩
 refine bU fun d=>?_
 obtain ⟨f,h,e⟩:=s a.a2.length (dX _)
 refine d ?_;try clear d
 rw [z2] at f h e
 exact pp f h e
set_option tactic.hygienic true in
def E2(e:Nat):∀(c d:Nat),lm a.nc e d→lm a.nc e (mJ a.a2 e c d):=by
 intro c
 induction c with
 |zero=>
  intro d _
  exact .cy _
 |succ c g=>
  intro d f
  unfold mJ
  split
  ·rename_i h i
   split
   ·rename_i j
    exact g h.t (f.ci (.d9 (dF.mpr i) j (.cy _)))
   ·exact f
  ·exact f
def Ap(c:Nat):lm a.nc c (mr a.a2 c):=E2 c _ _ (.cy _)
def Rm{c:List R}{d:R→R}:((c.map d).map O).length=(c.map O).length:=(et ..).trans ((et ..).trans (et ..).symm)
set_option tactic.hygienic true in
def Rn(e:R):Vz a.nc e (dE a.a2 e):=by
 unfold dE
 split
 ·rename_i d
  split
  ·rename_i f
   refine eE f fun g c=>?_
   unfold gP at c
   split at c
   ·rename_i i h
    exact .ew (eq_of_beq g) (Ap _) (dF.mpr h) (eq_of_beq c)
   ·exact Bool.noConfusion c
  ·exact .to d (Ap _)
 ·rename_i d
  exact .je (Bool.eq_false_iff.mpr d)
def lH(c:gk a b):qn a (eo a) b:=by
 obtain ⟨i,h⟩:=c.gK
 obtain ⟨d,k,f⟩:=JP (a:=a.nc) (b:=a.j3 ((a.a2.map (dE a.a2)).map O)) h c.cF Rm rfl rfl sY fun g j e=>⟨_,(show ((a.a2.map (dE a.a2)).map O)[g]? =_ by (rewrite [i4,i4];refine bT (dF.mp e) ?_);rfl),Rn j⟩
 exact pp ⟨i,d⟩ k f
open Classical in
def eY(a:Cd)(p:Nat)(r:R):Option R:=if cx a.nc p then some r else none
def dO(a:Cd):Cd:=a.cX (a.a2.mapIdx (eY a))
def m2{c:Nat}:(a.a2.mapIdx (eY a))[c]? =(a.a2[c]?).map (eY a c):=wa
def JT(g:gk a b){e:Nat→Nat}(h:eb a.nc e):eb (a.j3 (a.a2.mapIdx (eY a))) e∧fm (a.j3 (a.a2.mapIdx (eY a))) b∧fH a.nc (a.j3 (a.a2.mapIdx (eY a)))∧∀c,cx (a.j3 (a.a2.mapIdx (eY a))) c↔cx a.nc c:=by
 refine Rj h g.cF (pj.trans (et ..).symm) rfl rfl (fun c d=>?_) (fun c d f=>?_)
 ·show (a.a2.mapIdx (eY a))[c]? =(a.a2.map O)[c]?
  (refine bT m2 ?_;rw [i4])
  cases a.a2[c]? with
  |none=>rfl
  |some f=>exact congrArg O (if_pos d)
 ·show (a.a2.mapIdx (eY a))[c]? ≠_
  refine bT m2 ?_
  cases a.a2[c]? with
  |none=>exact cG
  |some f=>exact fun i=>cG ((if_neg d).symm.trans (dg i))
def rq(g:gk a b):qn a (dO a) b∧∀d,d<(dO a).a2.length→cx (dO a).nc d:=by
 refine bU fun c=>?_
 obtain ⟨n,m⟩:=g.gK
 obtain ⟨h,q,k,l⟩:=JT g m
 refine c ?_;try clear c
 refine ⟨pp ⟨n,h⟩ q k,fun d o=>?_⟩
 have j:(dO a).nc.a2[d]? =O (O (dO a).a2[d]):=dF.mpr (gS o)
 refine bU fun c=>?_
 obtain ⟨i,p,e,rfl,r⟩:=rn (a:=a.j3 (a.a2.mapIdx (eY a))) j
 refine c ?_;try clear c
 refine EZ h ((l i).mpr ?_)
 have e:(a.a2.mapIdx (eY a))[i]? =O (O p):=e
 rw [m2] at e
 refine bU fun c=>?_
 obtain ⟨s,_,f⟩:=tm.mp e
 refine c ?_;try clear c
 unfold eY at f
 split at f
 ·assumption
 ·exact cG f
def ig(a:Cd):Cd:=fZ (ff (eX (dO (dM (fq (fE (eo a)))))))
def qn.ci{c f e:Cd}(g:qn c f b)(d:qn f e b):qn c e b:=⟨d.1,g.2.ci d.2⟩
def HO(j:gk a b):qn a (ig a) b:=by
 have e:=lH j
 have f:=pq e.1
 have c:=nY f.1
 have d:=pr c.1
 have g:=(rq d.1).1
 have h:=nX g.1
 have i:=q0 h.1
 have k:=yc i.1
 exact e.ci (f.ci (c.ci (d.ci (g.ci (h.ci (i.ci k))))))
end
structure i3(c:Cd):Prop where
 iV:∀r∈c.a2,r.bV.b8=ar→r.t≤c.a2.length
 b6:∀k∈c.b6,k.d1<k.iz∧k.iz≤c.a2.length∧k.cP≤c.a2.length
 cp:∀s∈c.cp,s≤c.a2.length
 Aq:c.cp≠ []
def g0(a:Cd):Prop:=∀b∈a.a2,b.bV.b8=ar→b.t<a.a2.length
def BB(a:Cd):Prop:=∃b,a.a2[a.a2.length-1]? =O b∧b.bV.dR=ar
def Jn(a:Cd):Nat:=a.a2.countP (·.bV.b8)
def h6(b:cb):Prop:=∃a:Nat,b[a]? =O b1
def NA(a:cb):c6 a a.length=(a.filterMap id).length:=by unfold c6;(refine bT eO ?_;rfl)
def yd{a:cb}:h6 a→(a.filterMap id).length<a.length:=by
 induction a with
 |nil=>exact fun ⟨b,c⟩=>cG c
 |cons e d f=>induction e with
  |none=>exact fun g=>vM (vN id d)
  |some h=>exact fun ⟨b,c⟩=>by induction b with
   |zero=>exact cG (dg c).symm
   |succ b=>exact Ge (f ⟨b,c⟩)
def gE(a:Option R):Bool:=a.any fun b=>b.bV.b8
def xC{b:Type}{a:List b}{d:b→b}(e:∀c∈a,d c=c):a.map d=a:=(y9 (g:=id) e).trans (List.map_id _)
def yU{c:Type}{a:List c}{d:c→Option c}(e:∀b∈a,d b=O b):a.filterMap d=a:=by
 induction a with
 |nil=>rfl
 |cons b a g=>(refine bT (L0 (e b (fD ..))) ?_;refine bT (g fun h f=>e h (ia _ f)) ?_;rfl)
def IP(a:List R):(a.map O).filterMap id=a:=List.filterMap_map.trans (show Uk O a=a from List.filterMap_some)
def NB{a b:Bool}(c:a=ar→b=ar):(if a=ar then 1 else 0)≤(if b=ar then 1 else 0):=by
 induction a
 ·exact fy _
 ·refine bT (c rfl) ?_;exact dX _
def CM{e d:Option R}(h:gE e=ar→gE d=ar){b:cb}:∀{a:Nat},b[a]? =O d→(b.set a e).countP gE≤b.countP gE:=by
 induction b with
 |nil=>exact fun c=>cG c
 |cons g i f=>
  intro a c
  induction a with
  |zero=>
   obtain rfl:g=d:=dg c
   (refine bT List.set_cons_zero ?_;refine bT qD ?_;refine bT qD ?_)
   exact jq (NB h) _
  |succ a=>
   (refine bT za ?_;refine bT qD ?_;refine bT qD ?_)
   exact m7 (f c) _
section
variable{c:Cd}{d:Bool}
def lM(a:cb):(c.cX a).a2.length=(a.filterMap id).length:=by
 show (Gy _ _).length=_
 rw [et]
def Ar(a:cb):Jn (c.cX a)=a.countP gE:=by
 show (Gy (R.iY (c6 a)) (a.filterMap id)).countP _=_
 refine bT Me ?_
 generalize c6 a=h
 induction a with
 |nil=>rfl
 |cons g i e=>
  induction g with
  |none=>exact e
  |some b=>
   (refine bT (L0 (f:=id) (a:=O b) (b:=b) rfl) ?_;refine bT qD ?_;refine bT qD ?_;refine bT e ?_)
   exact congrArg (fun f:Op=>_+if f.b8=ar then 1 else 0) (iL h b)
def As{b:cb}{e:R}{g:Prop}(i:e∈(c.cX b).a2)(h:∀(f:Nat)(a:R),b[f]? =O (O a)→e=a.iY (c6 b)→g):g:=by
 obtain ⟨l,k⟩:=yA i
 obtain ⟨f,a,j,_,m⟩:=rn (a:=c.j3 b) (g:=l) (f:=O e) (dF.mpr k)
 exact h f a j (dg m)
def q1{a:cb}(i:i3 c)(v:a.length=c.a2.length)(u:∀(G:Nat)(h:R),a[G]? =O (O h)→h.bV.b8=ar→h.t≤c.a2.length):i3 (c.cX a):=by
 have C:(c.cX a).a2.length=c6 a c.a2.length:=by (rewrite [lM];refine gT v ?_;rw [NA])
 have f:∀j,j≤c.a2.length→c6 a j≤(c.cX a).a2.length:=fun j z=>by refine bT C ?_;exact wj a z
 refine ⟨fun h p b=>?_,fun b l=>?_,fun q m=>?_,?_⟩
 ·refine As p fun A r w n=>?_
  rw [n,iL] at b
  (refine bT n ?_;refine bT (rS _ b) ?_)
  exact f _ (u A r w b)
 ·have l:b∈c.b6.filterMap (Ct.fI (c6 a)):=l
  refine bU fun e=>?_
  obtain ⟨t,k,g⟩:=Gn.mp l
  obtain ⟨I,x,s⟩:=i.b6 t k
  refine e ?_;try clear e
  unfold Ct.fI at g
  split at g
  ·rename_i y
   obtain rfl:=dg g
   exact ⟨y,f _ x,f _ s⟩
  ·exact cG g
 ·have m:q∈c.cp.map (c6 a):=m
  refine bU fun e=>?_
  obtain ⟨o,k,rfl⟩:=hJ.mp m
  refine e ?_;try clear e
  exact f _ (i.cp o k)
 ·show c.cp.map (c6 a)≠ []
  intro F;exact i.Aq (L4.mp F)
def Ro(b:List R){a:Nat}(e:a≤b.length):c6 (b.map O) a=a:=by
 unfold c6
 (refine gT Mh ?_;rewrite [IP];refine bT zd ?_)
 exact y6 e
def um{a:List R}(i:i3 c)(m:a.length=c.a2.length)(s:∀e∈a,e.bV.b8=ar→e.t≤c.a2.length):c.cX (a.map O)=⟨a,c.b6,c.cp⟩:=by
 have b:∀{g},g≤c.a2.length→c6 (a.map O) g=g:=fun q=>Ro a (m.symm▸q)
 show Cd.mk (((a.map O).filterMap id).map (R.iY (c6 (a.map O)))) _ _=_
 rw [IP,xC fun e l=>?_,yU fun f p=>?_,xC fun n r=>b (i.cp n r)]
 ·refine bU fun k=>?_
  obtain ⟨j,h,o⟩:=i.b6 f p
  refine k ?_;try clear k
  unfold Ct.fI
  rw [b (cr (iG j) h),b h,b o,if_pos j]
 ·unfold R.iY
  split
  ·rename_i f;rw [b (s e l f)]
  ·rfl
def pU(a:i3 c):c.cX (c.a2.map O)=c:=um a rfl a.iV
def JU{f:Cd→cb→Nat→cb}(l:∀(b:cb)(a:Nat),f c b a=b∨h6 (f c b a))(h:Nat):(dk c f h=c.a2.map O∧∀a<h,f c (c.a2.map O) a=c.a2.map O)∨h6 (dk c f h):=
 gz (d:=fun i b=>(b=c.a2.map O∧∀a<i,f c (c.a2.map O) a=c.a2.map O)∨h6 b) (.inl ⟨rfl,fun a j=>absurd j (tP a)⟩) fun i b m e=>(l b i).elim (fun g=>e.elim (fun e=>.inl ⟨g.trans e.1,fun a j=>(LQ (qk j)).elim (e.2 a) fun k=>k▸e.1▸g⟩) fun e=>.inr (g.symm▸e)) .inr
def dN{b:Cd→cb→Nat→cb}(h:∀(a:cb)(i:Nat),(b c a i).length=a.length)(e:Nat):(dk c b e).length=c.a2.length:=
 gz (d:=fun _ (a:cb)=>a.length=c.a2.length) (et ..) fun f a j g=>(h a f).trans g
def lN{a:Cd→cb→Nat→cb}(j:∀(b:cb)(e:Nat),a c b e=b∨h6 (a c b e))(k:∀(b:cb)(e:Nat),(a c b e).length=b.length)(i:i3 c){f:Nat}(g:(c.cX (dk c a f)).a2.length=c.a2.length):
  c.cX (dk c a f)=c∧∀e<f,a c (c.a2.map O) e=c.a2.map O:=
 (JU j f).elim (fun g=>⟨g.1.symm▸pU i,g.2⟩) fun h=>absurd ((lM _).symm.trans (g.trans (dN k f).symm)) (kW (yd h))
def qd{a:cb}(b:a.length=c.a2.length):(c.cX a).a2.length≤c.a2.length:=by
 (rewrite [lM];refine gT b ?_);exact vN _ _
def Au{a:cb}{b:Nat}{e f:Option R}{l i:R}(h:a[b]? =O (O l))(k:a[b+1]? =O (O i))(j:e=b1∨f=b1):h6 (fb a b e f):=
 j.elim (fun g=>⟨b,g▸oI (c:=⟨a,[],[]⟩) e f (gC (c:=⟨a,[],[]⟩) h)⟩) fun g=>⟨b+1,g▸oJ (c:=⟨a,[],[]⟩) e f (gC (c:=⟨a,[],[]⟩) k)⟩
inductive Hf(a2:cb)(p:Nat)(r r':R):cb→Prop
 |mk {a b:Option R} (n:a=b1∨b=b1) (ja:gE a=ar→r.bV.b8=ar) (jb:gE b=ar→r'.bV.b8=ar):Hf a2 p r r' (fb a2 p a b)
section
variable{a:cb}{f:Nat}{g:R→R→Option cb}(i:∀{e b h},g e b=O h→Hf a f e b h)
include i
def rr:j4 c a f g=a∨h6 (j4 c a f g):=oM (h:=fun j=>j=a∨h6 j) (.inl rfl) fun e b h k n o m=>by
 cases i m with|mk l _ _=>exact .inr (Au k n l)
def tB:(j4 c a f g).length=a.length:=oM (h:=fun j=>j.length=a.length) rfl fun e b h l n m k=>by
 cases i k;exact tA ..
def Av:(j4 c a f g).countP gE≤a.countP gE:=oM (h:=fun l:cb=>l.countP gE≤a.countP gE) (dX _) fun e b h j n p m=>by
 cases i m with|mk _ k o=>exact cr (CM (d:=O b) o ((pi (rl f)).trans n)) (CM (d:=O e) k j)
end
def w9{b:Cd→cb→Nat→cb}(h:∀(a:cb)(i:Nat),(b c a i).countP gE≤a.countP gE)(e:Nat):Jn (c.cX (dk c b e))≤Jn c:=by
 have:(dk c b e).countP gE≤(c.a2.map O).countP gE:=gz (d:=fun _ (a:cb)=>a.countP gE≤(c.a2.map O).countP gE) (dX _) fun f a j g=>cr (h a f) g
 exact (Ar _).symm▸cr this (jH (Me ..))
end
section
variable{b:Cd}{c:Bool}
noncomputable abbrev CN(e:cb)(f:Nat):R→R→Option cb:=fun d a=>if d.bV.i6&&a.bV== .gy then O (fb e f b1 b1) else b1
noncomputable abbrev zA(d:cb)(e:Nat):R→R→Option cb:=fun a f=>if f.bV== .dt then (if a.bV== .dt then O (fb d e b1 b1) else if a.bV== .kq then O (fb d e (O a) b1) else b1) else b1
noncomputable abbrev CO(f:cb)(e:Nat):R→R→Option cb:=fun a d=>if a.bV.cg&&d.bV== .cI&&a.t==e+2 then O (fb f e (O (.cE a.bV.fN d.t a.e6)) b1) else b1
noncomputable abbrev iR(b:Cd)(f:cb)(g:Nat):R→R→Option cb:=fun e a=>if e.bV== .d0 then
 (if a.bV.cg then O (fb f g b1 (if a.bV.eM (dI e.a) then O (.cE .cI a.t a.e6) else b1))
  else if a.bV== .cI then (match b.a2[a.t]? with
   |some d=>if d.bV.cg then O (fb f g b1 (O {a with t:=if d.bV.eM (dI e.a) then d.t else a.t+1})) else b1
   |none=>b1) else b1) else b1
section
variable{e:cb}{g:Nat}{a d:R}{f:cb}
def qO{a:R}:gE b1=ar→a.bV.b8=ar:=fun h=>dy h
def xD(i:CN e g a d=O f):Hf e g a d f:=jR i fun j h=>dT h (.mk (.inl rfl) qO qO)
def xE(i:zA e g a d=O f):Hf e g a d f:=jR i fun j i=>v0 i (fun j h=>dT h (.mk (.inl rfl) qO qO)) fun j i=>jR i fun j h=>dT h (.mk (.inr rfl) (fun h=>h) qO)
def xF(l:CO e g a d=O f):Hf e g a d f:=jR l fun h k=>eE h fun h i=>eE h fun j i=>dT k (.mk (.inr rfl) (fun i=>rm j) qO)
def u0(h:iR b e g a d=O f):Hf e g a d f:=jR h fun j h=>v0 h (fun l i=>dT i (.mk (.inl rfl) qO fun j=>rm l)) fun j h=>jR h fun n h=>by
 cases k:b.a2[d.t]? with
 |none=>rw [k] at h;exact cG h
 |some m=>
  rw [k] at h
  exact jR h fun j i=>dT i (.mk (.inl rfl) qO fun i=>i)
end
section
variable(a:cb)(d:Nat)
def JV:gM b a d=a∨h6 (gM b a d):=rr (g:=CN a d) xD
def JW:gN b a d=a∨h6 (gN b a d):=rr (g:=zA a d) xE
def JX:gO b a d=a∨h6 (gO b a d):=rr (g:=CO a d) xF
def HP:fv b a d=a∨h6 (fv b a d):=rr (g:=iR b a d) u0
def JY:fW b a d=a∨h6 (fW b a d):=w8 (j:=fun f=>f=a∨h6 f) (.inl rfl) fun j i h g e e e e e e e=>.inr ⟨d,Al (c:=⟨a,[],[]⟩) _ _ _ (gC (c:=⟨a,[],[]⟩) g)⟩
def oi:(gM b a d).length=a.length:=tB (g:=CN a d) xD
def qs:(gN b a d).length=a.length:=tB (g:=zA a d) xE
def qt:(gO b a d).length=a.length:=tB (g:=CO a d) xF
def oN:(fv b a d).length=a.length:=tB (g:=iR b a d) u0
def oj:(fW b a d).length=a.length:=w8 (j:=fun f=>f.length=a.length) rfl fun i h g e e e e e e e e=>m9.trans (tA ..)
def Xj:(gM b a d).countP gE≤a.countP gE:=Av (g:=CN a d) xD
def Xk:(gN b a d).countP gE≤a.countP gE:=Av (g:=zA a d) xE
def Xl:(gO b a d).countP gE≤a.countP gE:=Av (g:=CO a d) xF
def Rp:(fv b a d).countP gE≤a.countP gE:=Av (g:=iR b a d) u0
def Xm:(fW b a d).countP gE≤a.countP gE:=w8 (j:=fun j:cb=>j.countP gE≤a.countP gE) (dX _) fun m k i h l f e e e e e=>
 cr (CM (d:=O i) qO ((pi (rl _)).trans ((pi (QS d)).trans f))) (cr (CM (d:=O k) (fun g=>g) ((pi (rl d)).trans l)) (CM (d:=O m) qO h))
end
def Rq{d:cb}{a:Nat}{e:R}(g:d[a+1]? =O (O e)):sv d a b1 (O e) b1=(d.set a b1).set (a+2) b1:=congrArg (fun f:cb=>f.set (a+2) b1) (Nz ((pi (rl a)).trans g))
def IQ(e:i3 b){g:Nat}(a:b.c2 g=ar):g≤b.a2.length:=by
 refine oX a (fun a=>oX a (fun a=>?_) fun a=>?_) fun a=>e.cp g (rb.mp a)
 ·obtain ⟨k,d,f⟩:=tS.mp a
  exact eE f fun j i=>dr i▸e.iV k d j
 ·obtain ⟨h,d,f⟩:=tS.mp a
  exact dr f▸(e.b6 h d).2.2
def gn.jS{i:Nat}{e:cb}(a:gn b c i e)(d:i3 b):i3 (b.cX e):=q1 d a.cC fun h k l f=>(a.iV h k l f).elim (IQ d) fun g=>g.elim fun m j=>TB (fJ.mp j.1).1
def xG(d:gk b c)(a:i3 b):i3 (eX b):=(qX d _).jS a
def OB(d:gk b c)(a:i3 b):i3 (fZ b):=(sF d _).jS a
def xH(d:gk b c)(a:i3 b):i3 (ff b):=(qZ d _).jS a
def xI(d:gk b c)(a:i3 b):i3 (fq b):=(qY d _).1.jS a
def u1(d:gk b c)(a:i3 b):i3 (fE b):=(sG d _).jS a
def ye{i:Nat}{e d:R}(a:d4 i d=O e)(g:e.bV.b8=ar):d=e:=by
 unfold d4 at a
 exact v0 a (fun f a=>jR a fun f h=>dy (dg h▸g:(R.cE .gy 0 d.e6).bV.b8=ar)) fun f a=>dg a
def u2(d:i3 b):i3 (dM b):=q1 d pj fun j g e a=>by
 rw [wa] at e
 obtain ⟨i,h,f⟩:=tm.mp e
 exact d.iV g (gj (ye f a▸h)) a
def xJ(d:i3 b):i3 (dO b):=q1 d pj fun k h f g=>by
 rw [m2] at f
 refine bU fun e=>?_
 obtain ⟨j,i,a⟩:=tm.mp f
 refine e ?_;try clear e
 unfold eY at a
 split at a
 ·exact d.iV h (gj (dg a▸i)) g
 ·exact cG a
set_option tactic.hygienic true in
def DO(i:g0 b){e:Nat}(k:e<b.a2.length):∀(a d:Nat),d<b.a2.length→mJ b.a2 e a d<b.a2.length:=by
 intro a
 induction a with
 |zero=>
  intro d _
  exact k
 |succ a h=>
  intro d f
  unfold mJ
  split
  ·rename_i g l
   split
   ·rename_i j
    exact h g.t (i g (List.mem_of_getElem? l) (by refine bT j ?_;rfl))
   ·exact f
  ·exact f
def Fv(f:g0 b){e:R}(g:e∈b.a2)(a:(dE b.a2 e).bV.b8=ar):(dE b.a2 e).t<b.a2.length:=by
 unfold dE at a⊢
 split
 ·rename_i d
  rw [if_pos d] at a
  split
  ·rename_i h
   rw [if_pos h] at a;exact dy a
  ·exact DO f (f e g d) _ _ (f e g d)
 ·rename_i d
  rw [if_neg d] at a
  exact absurd a d
def kj(e:i3 b)(f:g0 b):eo b=⟨b.a2.map (dE b.a2),b.b6,b.cp⟩:=um e (et ..) fun i d a=>by
 obtain ⟨h,g,rfl⟩:=hJ.mp d
 exact iG (Fv f g a)
def pV(d:i3 b)(h:g0 b):i3 (eo b)∧g0 (eo b):=by
 refine bT (kj d h) ?_
 have g:(b.a2.map (dE b.a2)).length=b.a2.length:=et ..
 have j:∀a∈b.a2.map (dE b.a2),a.bV.b8=ar→a.t<(b.a2.map (dE b.a2)).length:=fun a f e=>by
  refine bU fun i=>?_
  obtain ⟨l,k,rfl⟩:=hJ.mp f
  refine i ?_;try clear i
  exact g.symm▸Fv h k e
 exact ⟨⟨fun a f e=>iG (j a f e),g.symm▸d.b6,g.symm▸d.cp,d.Aq⟩,j⟩
def E3(m:gk b c)(n:i3 b)(g:∀a,a<b.a2.length→cx b.nc a):g0 b∧BB b:=by
 obtain ⟨s,o⟩:=m.gK
 have d:∀{a},cx b.nc a→a<b.a2.length:=fun k=>(show (b.a2.map O).length=b.a2.length from et ..)▸o.kJ _ k
 refine ⟨fun t l e=>?_,?_⟩
 ·obtain ⟨p,h⟩:=yA l
  exact d (.cI (g p (fJ.mp h).1) (dF.mpr h) e)
 ·obtain ⟨r,q⟩:=List.exists_mem_of_ne_nil _ n.Aq
  have j:=Gd (d (.dH q))
  have f:=Gh j Gg
  have i:=gS (l:=b.a2) f
  exact ⟨_,i,LJ fun e=>B9 _ (uK j▸d (.eK (g _ f) (dF.mpr i) e))⟩
end
section
variable{a:Cd}{b:Bool}
def l7(a:Cd)(e:cb):Prop:=(∀(d:Nat)(c:R),e[d]? =O (O c)→a.a2[d]? =O c)∧∀(d:Nat)(c:R),a.a2[d]? =O c→c.bV.dR=ar→e[d]? =O (O c)
def l7.gv:l7 a (a.a2.map O):=⟨fun d e c=>dF.mp c,fun d e c f=>dF.mpr c⟩
def l7.mK{d:cb}(k:l7 a d){g:Nat}{f e:R}{j:Prop}(h:d[g]? =O (O f))(m:f.bV.dR=b2)(l:a.a2[g]? =O e)(c:e.bV.dR=ar):j:=by
 have i:=h.symm.trans (k.2 _ _ l c)
 cases i
 exact dy (m.symm.trans c)
def rT{d:R}{c:Op}(a:d.bV=c)(e:c.dR=b2):d.bV.dR=b2:=a▸e
def l7.fS{h:cb}{o:Nat}{n p:R}{l:Option R}(f:l7 a h)(g:h[o]? =O (O n))(m:h[o+1]? =O (O p))(s:n.bV.dR=b2)(q:p.bV.dR=b2)(r:l=b1∨l=O n):l7 a (fb h o l b1):=
 ⟨fun c e=>mL (f:=fun c k=>k=O (O e)→a.a2[c]? =O e) g m (fun {c} _=>f.1 c e) (fun d=>r.elim (fun i=>cG (i▸dg d)) fun i=>f.1 _ _ (g.trans (i▸d))) fun d=>cG (dg d),
  fun c e=>mL (f:=fun c k=>a.a2[c]? =O e→e.bV.dR=ar→k=O (O e)) g m (fun {c} _=>f.2 c e) (fun d j=>f.mK g s d j) fun d j=>f.mK m q d j⟩
def OC(i:Nat):l7 a (dk a gM i):=gz (d:=fun h c=>l7 a c) l7.gv fun o c n d=>oM (h:=l7 a) d fun r p q f l h j=>jR j fun k e=>dT e (eE k fun m g=>d.fS f l (DH m).1 (rT (dr g) rfl) (.inl rfl))
def OD(l:Nat):l7 a (dk a gN l):=gz (d:=fun i j=>l7 a j) l7.gv fun n j m e=>oM (h:=l7 a) e fun q o p g k i c=>jR c fun h c=>v0 c (fun f d=>dT d (e.fS g k (rT (dr f) rfl) (rT (dr h) rfl) (.inl rfl))) fun i c=>jR c fun f d=>dT d (e.fS g k (rT (dr f) rfl) (rT (dr h) rfl) (.inr rfl))
def OE(n:Nat):l7 a (dk a fW n):=gz (d:=fun l m=>l7 a m) l7.gv fun s m u f=>w8 (j:=l7 a) f fun v r t j h i p o q l l=>
 ⟨fun d e=>rp (f:=fun d k=>k=O (O e)→a.a2[d]? =O e) j h i (fun {d} _=>f.1 d e) (fun c=>cG (dg c)) (fun c=>f.1 _ _ (h.trans c)) fun c=>cG (dg c),
  fun d e=>rp (f:=fun d k=>a.a2[d]? =O e→e.bV.dR=ar→k=O (O e)) j h i (fun {d} _=>f.2 d e) (fun c g=>f.mK j (rT p rfl) c g) (fun c g=>f.mK h (DJ o).e c g) fun c g=>f.mK i (rT q rfl) c g⟩
def l7.gH{c:cb}(k:l7 a c)(n:c.length=a.a2.length)(q:g0 a)(p:BB a):g0 (a.cX c)∧BB (a.cX c):=by
 obtain ⟨h,l,g⟩:=p
 have e:=k.2 _ _ l g
 have f:(a.cX c).a2.length=c6 c (a.a2.length-1)+1:=by
  (rewrite [lM,← NA];refine bT n ?_;refine gT (oY e) ?_;rw [uK (show 1≤a.a2.length from Gd (fJ.mp l).1)])
 refine ⟨fun s m d=>As m fun r j o i=>?_,?_⟩
 ·rw [i,iL] at d
  (refine bT i ?_;refine bT (rS _ d) ?_;refine bT f ?_)
  exact vM (wj c (LO (q j (gj (k.1 r j o)) d)))
 ·exact ⟨h.iY (c6 c),by refine bT f ?_;exact dF.mp (iK (a:=a.j3 c) e),(congrArg Op.dR (iL _ h)).trans g⟩
structure kL(a:Cd)(b:Bool):Prop where
 cF:gk a b
 jS:i3 a
 gH:g0 a
def pt(d:kL a b):kL (ig a) b:=by
 have n:=pV d.jS d.gH
 have i:=lH d.cF
 have e:=pq i.1
 have q:=u1 i.1 n.1
 have o:=nY e.1
 have m:=xI e.1 q
 have j:=pr o.1
 have k:=u2 m
 have c:=rq j.1
 have g:=xJ k
 obtain ⟨l,u⟩:=E3 c.1.1 g c.2
 have h:=nX c.1.1
 have z:=xG c.1.1 g
 obtain ⟨r,x⟩:=(OC _).gH (dN oi _) l u
 have f:=q0 h.1
 have y:=xH h.1 z
 obtain ⟨p,v⟩:=(OE _).gH (dN oj _) r x
 have t:=yc f.1
 have s:=OB f.1 y
 obtain ⟨w,A⟩:=(OD _).gH (dN qs _) p v
 exact ⟨t.1,s,w⟩
def tC{c f d e:Nat}(g:c≤f)(i:d≤e)(h:c+d=f+e):c=f∧d=e:=Ra g i h
def OF{c e:Bool}(d:(if c=ar then 1 else 0)=if e=ar then 1 else 0)(f:e=ar):c=ar:=by
 rw [f] at d
 induction c
 ·cases d
 ·rfl
def tD{d:List R}:∀{f:Nat→R→Option R},(∀g c,gE (f g c)=ar→c.bV.b8=ar)→(d.mapIdx f).countP gE≤d.countP (·.bV.b8)∧((d.mapIdx f).countP gE=d.countP (·.bV.b8)→∀e c,d[e]? =O c→c.bV.b8=ar→gE (f e c)=ar):=by
 induction d with
 |nil=>exact fun r=>⟨dX _,fun r e c s=>cG s⟩
 |cons m d n=>
  intro f k
  obtain ⟨i,q⟩:=n (f:=fun p=>f (p+1)) fun g c=>k (g+1) c
  (refine bT List.mapIdx_cons ?_;refine bT qD ?_;refine bT qD ?_)
  have l:=NB (k 0 m)
  refine ⟨pH i l,fun u e c h j=>?_⟩
  obtain ⟨t,o⟩:=tC i l u
  induction e with
  |zero=>
   obtain rfl:m=c:=dg h
   exact OF o j
  |succ e=>exact q t e c h j
def xK(c:Nat→R→Option R):Jn (a.cX (a.a2.mapIdx c))=(a.a2.mapIdx c).countP gE:=Ar _
def DP:∀e c,gE (d4 e c)=ar→c.bV.b8=ar:=fun e c f=>G9 f fun h g d=>ye g d▸d
def Rr:∀e d,gE (eY a e d)=ar→d.bV.b8=ar:=fun e d c=>by
 unfold eY at c
 split at c
 ·exact c
 ·exact dy c
def Xn(d:R)(c:(dE a.a2 d).bV.b8=ar):d.bV.b8=ar:=by
 unfold dE at c
 split at c
 ·assumption
 ·exact c
def HQ(j:i3 a)(l:g0 a):Jn (eo a)≤Jn a∧(Jn (eo a)=Jn a→∀c∈a.a2,c.bV.b8=ar→(dE a.a2 c).bV.b8=ar):=by
 have f:Jn (eo a)=(a.a2.mapIdx fun d c=>O (dE a.a2 c)).countP gE:=by
  rw [kj j l,show (a.a2.mapIdx fun d c=>O (dE a.a2 c))=(a.a2.map (dE a.a2)).map O from vQ fun k=>by
   rw [wa,i4,i4]
   cases a.a2[k]? <;>rfl]
  exact (show _=(a.a2.map (dE a.a2)).countP (gE ∘ O) from rfl).trans Me.symm
 obtain ⟨i,o⟩:=tD (d:=a.a2) (f:=fun d c=>O (dE a.a2 c)) fun d c e=>Xn c e
 exact ⟨f▸i,fun e c h g=>(yA h).elim fun n m=>o (f▸e) n c m g⟩
def CQ(d:i3 a)(c:g0 a):(eo a).a2.length=a.a2.length:=kj d c▸et ..
def JZ(c:i3 a)(d:(eX a).a2.length=a.a2.length):eX a=a∧∀e<a.a2.length-1,gM a (a.a2.map O) e=a.a2.map O:=lN JV oi c d
def J0(c:i3 a)(d:(fZ a).a2.length=a.a2.length):fZ a=a∧∀e<a.a2.length-1,gN a (a.a2.map O) e=a.a2.map O:=lN JW qs c d
def J1(c:i3 a)(d:(fq a).a2.length=a.a2.length):fq a=a∧∀e<a.a2.length-1,gO a (a.a2.map O) e=a.a2.map O:=lN JX qt c d
def HR(c:i3 a)(d:(fE a).a2.length=a.a2.length):fE a=a∧∀e<a.a2.length-1,fv a (a.a2.map O) e=a.a2.map O:=lN HP oN c d
def J2(c:i3 a)(d:(ff a).a2.length=a.a2.length):ff a=a∧∀e<a.a2.length-2,fW a (a.a2.map O) e=a.a2.map O:=lN JY oj c d
def E4{d:Nat→R→Option R}(g:(a.cX (a.a2.mapIdx d)).a2.length=a.a2.length):∀(c:Nat)(e:R),a.a2[c]? =O e→d c e≠b1:=fun c e h f=>by
 have:=yd (a:=a.a2.mapIdx d) ⟨c,by (rewrite [wa];refine bT h ?_);exact congrArg O f⟩
 rw [pj] at this
 exact kW this ((lM _).symm.trans g)
def Aw{e:Nat→R→Option R}(f:∀(c:Nat)(d:R),a.a2[c]? =O d→e c d=O d):a.a2.mapIdx e=a.a2.map O:=vQ fun c=>by
 rw [wa,i4]
 cases g:a.a2[c]? with
 |none=>rfl
 |some d=>exact congrArg O (f c d g)
def J3(e:i3 a)(g:(dO a).a2.length=a.a2.length):dO a=a∧∀c,c<a.a2.length→cx a.nc c:=by
 have d:∀c,c<a.a2.length→cx a.nc c:=fun c f=>by
  have:=E4 g c _ (gS f)
  unfold eY at this
  split at this
  ·assumption
  ·exact absurd rfl this
 refine ⟨?_,d⟩
 unfold dO
 rw [Aw (e:=eY a) fun c i h=>if_pos (d c (fJ.mp h).1)];exact pU e
def HS(k:i3 a)(n:(dM a).a2.length=a.a2.length)(m:Jn (dM a)=Jn a):dM a=a∧∀(d:Nat)(c:R),a.a2[d]? =O c→c.bV.b8=ar→c.t≠d+1:=by
 have j:=(tD (d:=a.a2) (f:=d4) DP).2 ((xK _).symm.trans m)
 have i:∀(d:Nat)(c:R),a.a2[d]? =O c→c.bV.b8=ar→c.t≠d+1:=fun d c h e g=>by
  have f:=j d c h e
  unfold d4 i7 at f
  rw [if_pos (iX.mpr ⟨e,beq_iff_eq.mpr g⟩)] at f
  split at f<;>exact dy f
 refine ⟨?_,i⟩
 unfold dM
 refine bT (Aw (e:=d4) fun d c h=>if_neg fun l=>eE l fun e g=>i d c h e (dr g)) ?_;exact pU k
end
def OG{a c b:Nat}(d:c≤b)(e:c=a-1):a≤b+1:=Nat.le_succ_of_pred_le (cr (jH e.symm) d)
def DQ(b:Nat):∀(a:List Nat),a.Nodup→(∀c∈a,c<b)→a.length≤b:=by
 induction b with
 |zero=>
  intro a _ d
  induction a with
  |nil=>exact dX _
  |cons c a=>exact absurd (d c fD) (tP _)
 |succ b i=>
   intro a f d
   have g:=i (a.erase b) (f.erase b) fun c h=>y5 (qk (d c (List.mem_of_mem_erase h))) fun j=>(List.Nodup.not_mem_erase f) (j▸h)
   have e:=List.length_erase (a:=b) (l:=a)
   split at e
   ·exact OG g e
   ·exact uL (e▸g)
def Xo(b:Nat)(c:Nat→Nat)(l:∀a,a≤b→c a<b):∃a d,a<d∧d≤b∧c a=c d:=by
 apply MF
 intro g
 have i:((f5 (b+1)).map c).Nodup:=by
  rw [List.Nodup,List.pairwise_map]
  exact ZB (R:=(·< ·)) (fun {j m} p e f n=>g ⟨j,m,f,qk (nf.mp e),n⟩) List.pairwise_lt_range
 have:=DQ b _ i fun o h=>by
  obtain ⟨a,k,rfl⟩:=hJ.mp h
  exact l a (qk (nf.mp k))
 rw [et,pk] at this
 exact LP b this
section
variable{a:Cd}{b:Bool}
def hP(d:List R)(e:Nat):Bool:=match d[e]? with
 |some c=>c.bV== .cI
 |none=>b2
noncomputable def DR(e:List R)(c:Nat):Nat:=match e[c]? with
 |some d=>d.t
 |none=>c
def lX(d:List R):Nat→Nat→Nat
 | 0,c=>c
 |e+1,c=>lX d e (DR d c)
def mW(e:List R)(d:Nat):∀c:Nat,lX e (d+1) c=DR e (lX e d c):=by
 induction d with
 |zero=>exact fun c=>rfl
 |succ d f=>exact fun c=>f (DR e c)
def wm(d:List R)(c e f:Nat):lX d (c+e) f=lX d c (lX d e f):=by
 induction c with
 |zero=>rw [kU];rfl
 |succ c g=>(rewrite [TL,mW];refine bT g ?_;rw [← mW])
def yf(d:List R)(f e c:Nat):mJ d f (e+1) c=if hP d c=ar then mJ d f e (DR d c) else c:=by
 show (match d[c]? with|some g=>if g.bV=Op.cI then mJ d f e g.t else c|none=>c)=_
 unfold hP DR
 cases d[c]? with
 |none=>rfl
 |some g=>exact ite_congr (propext beq_iff_eq.symm) (fun h=>rfl) fun h=>rfl
def u3(d:List R)(g c:Nat):∀e:Nat,(∀f<c,hP d (lX d f e)=ar)→mJ d g c e=g:=by
 induction c with
 |zero=>exact fun i i=>rfl
 |succ c j=>exact fun e h=>((yf ..).trans (if_pos (h 0 (nI c)))).trans (j _ fun f k=>h (f+1) (Ge k))
def yg(d:List R)(j f:Nat):∀e c:Nat,c<f→hP d (lX d c e)=b2→(∀h<c,hP d (lX d h e)=ar)→mJ d j f e=lX d c e:=by
 induction f with
 |zero=>exact fun e c g=>absurd g (tP c)
 |succ f k=>
  intro e c m g i
  rw [yf]
  induction c with
  |zero=>exact if_neg (r5.mp g)
  |succ c=>exact (if_pos (i 0 (nI c))).trans (k _ c (LN m) g fun h l=>i (h+1) (Ge l))
def BC{e:Nat}{g:Prop}(c:hP a.a2 e=ar)(f:∀d,a.a2[e]? =O d→d.bV=.cI→DR a.a2 e=d.t→g):g:=by
 unfold hP at c
 unfold DR at f
 cases h:a.a2[e]? with
 |none=>rw [h] at c;exact dy c
 |some d=>
  rw [h] at c f
  exact f d rfl (dr c) rfl
def OH{c:Nat}(e:hP a.a2 c=ar):c<a.a2.length:=BC e fun g f d d=>(fJ.mp f).1
def Xp(f:g0 a){c:Nat}(g:hP a.a2 c=ar):DR a.a2 c<a.a2.length:=BC g fun h i d e=>e▸f h (gj i) (by refine bT d ?_;rfl)
def Rs{c e d:Nat}(f:e<d)(g:d≤c):(c-d)+e<c:=WS f g
def OI(o:g0 a){d:Nat}(i:∀f<a.a2.length,hP a.a2 (lX a.a2 f d)=ar)(p:d<a.a2.length):∀f,hP a.a2 (lX a.a2 f d)=ar:=by
 obtain ⟨c,f,k,q,l⟩:=Xo a.a2.length (fun j=>lX a.a2 j d) fun c n=>by
  induction c with
  |zero=>exact p
  |succ c=>exact mW a.a2 c d▸Xp o (i c n)
 intro e
 induction e using TJ with
 |ind e m=>
  by_cases g:e<a.a2.length
  ·exact i e g
  ·have h:=cr q (ra g)
   (refine gT (uK h) ?_;rewrite [wm];refine gT l ?_;rw [← wm])
   exact m _ (Rs k h)
def OJ{e:Nat→Bool}{d:Nat}(j:e d=b2):∃d,e d=b2∧∀c<d,e c=ar:=by
 induction d using TJ with
 |ind d g=>exact (UX (∃c,c<d∧e c=b2)).elim (fun h=>by obtain ⟨c,f,k⟩:=h;exact g c f k) fun i=>⟨d,j,fun c f=>LJ fun l=>i ⟨c,f,l⟩⟩
def Ax(n:g0 a){d:Nat}(o:d<a.a2.length):(∃c,c<a.a2.length∧hP a.a2 (lX a.a2 c d)=b2∧(∀g<c,hP a.a2 (lX a.a2 g d)=ar)∧mr a.a2 d=lX a.a2 c d)∨((∀c,hP a.a2 (lX a.a2 c d)=ar)∧mr a.a2 d=d):=by
 by_cases e:∀c<a.a2.length,hP a.a2 (lX a.a2 c d)=ar
 ·exact .inr ⟨OI n e o,u3 _ _ _ _ e⟩
 ·left
  obtain ⟨c,f⟩:∃c,hP a.a2 (lX a.a2 c d)=b2:=MF fun j=>e fun c p=>LJ fun l=>j ⟨c,l⟩
  obtain ⟨c,i,h⟩:=OJ (e:=fun c=>hP a.a2 (lX a.a2 c d)) f
  have f:c<a.a2.length:=LR fun k=>e fun g m=>h g (hH m k)
  exact ⟨c,f,i,h,yg _ _ _ _ c f i h⟩
def Ay(f:∀c∈a.a2,c.bV.b8=ar→(dE a.a2 c).bV.b8=ar){c:R}(e:c∈a.a2):dE a.a2 c=if c.bV.b8 then {c with t:=mr a.a2 c.t} else c:=by
 have:=f c e
 unfold dE at this⊢
 split
 ·rename_i d
  split
  ·rename_i g
   have:=this d
   rw [if_pos d,if_pos g] at this
   exact dy this
  ·rfl
 ·rfl
def J4(t:g0 a)(y:∀f∈a.a2,f.bV.b8=ar→(dE a.a2 f).bV.b8=ar){c:Nat}(v:c<a.a2.length):mr (a.a2.map (dE a.a2)) (mr a.a2 c)=mr a.a2 c:=by
 have l:∀e:Nat,(a.a2.map (dE a.a2))[e]? =(a.a2[e]?).map (R.iY (mr a.a2)):=fun e=>by
  rw [i4]
  cases i:a.a2[e]? with
  |none=>rfl
  |some f=>exact congrArg O (Ay y (gj i))
 have j:∀e,hP (a.a2.map (dE a.a2)) e=hP a.a2 e:=fun e=>by
  unfold hP
  rw [l]
  cases a.a2[e]? with
  |none=>rfl
  |some f=>exact congrArg (· ==Op.cI) (iL _ f)
 show mJ (a.a2.map (dE a.a2)) (mr a.a2 c) (a.a2.map (dE a.a2)).length (mr a.a2 c)=mr a.a2 c
 rw [et]
 rcases Ax t v with ⟨h,q,g,m,p⟩|⟨g,m⟩
 ·refine bT p ?_;exact yg _ _ _ _ 0 (Gd q) ((j _).trans g) fun u z=>absurd z (tP u)
 ·have s:∀d,DR (a.a2.map (dE a.a2)) (lX a.a2 d c)=DR a.a2 (lX a.a2 d c):=fun d=>BC (g d) fun f i x k=>by
   have o:mr a.a2 f.t=f.t:=k▸mW a.a2 d c▸u3 _ _ _ _ fun h w=>wm a.a2 h (d+1) c▸g _
   refine bT k ?_
   unfold DR
   (rewrite [l];refine bT i ?_)
   exact (rS _ (by refine bT x ?_;rfl)).trans o
  have r:∀d,lX (a.a2.map (dE a.a2)) d c=lX a.a2 d c:=fun d=>by
   induction d with
   |zero=>rfl
   |succ d n=>(rewrite [mW,mW];refine bT n ?_;rw [s])
  refine bT m ?_;exact u3 _ _ _ _ fun h w=>r h▸(j _).trans (g h)
def gR(a:Cd)(b:Bool):Prop:=(kL a b)∧(eo a=a)∧(∀d∈a.a2,d.bV.b8=ar→(dE a.a2 d).bV.b8=ar)∧(fE a=a∧∀c<a.a2.length-1,fv a (a.a2.map O) c=a.a2.map O)∧(fq a=a∧∀c<a.a2.length-1,gO a (a.a2.map O) c=a.a2.map O)∧(dM a=a∧∀(e:Nat)(d:R),a.a2[e]? =O d→d.bV.b8=ar→d.t≠e+1)∧(dO a=a∧∀e,e<a.a2.length→cx a.nc e)∧(eX a=a∧∀c<a.a2.length-1,gM a (a.a2.map O) c=a.a2.map O)∧(ff a=a∧∀c<a.a2.length-2,fW a (a.a2.map O) c=a.a2.map O)∧(fZ a=a∧∀c<a.a2.length-1,gN a (a.a2.map O) c=a.a2.map O)
section
variable{c:Cd}{e:Bool}(d:gR c e)
include d
def gR.hM:kL c e:=d.1
def gR.xL:eo c=c:=d.2.1
def gR.iV:∀a∈c.a2,a.bV.b8=ar→(dE c.a2 a).bV.b8=ar:=d.2.2.1
def gR.Hg:fE c=c∧∀a<c.a2.length-1,fv c (c.a2.map O) a=c.a2.map O:=d.2.2.2.1
def gR.Fw:fq c=c∧∀a<c.a2.length-1,gO c (c.a2.map O) a=c.a2.map O:=d.2.2.2.2.1
def gR.MZ:dM c=c∧∀(b:Nat)(a:R),c.a2[b]? =O a→a.bV.b8=ar→a.t≠b+1:=d.2.2.2.2.2.1
def gR.J5:dO c=c∧∀a,a<c.a2.length→cx c.nc a:=d.2.2.2.2.2.2.1
def gR.Fx:eX c=c∧∀a<c.a2.length-1,gM c (c.a2.map O) a=c.a2.map O:=d.2.2.2.2.2.2.2.1
def gR.Fy:ff c=c∧∀a<c.a2.length-2,fW c (c.a2.map O) a=c.a2.map O:=d.2.2.2.2.2.2.2.2.1
def gR.Hh:fZ c=c∧∀a<c.a2.length-1,gN c (c.a2.map O) a=c.a2.map O:=d.2.2.2.2.2.2.2.2.2
end
def mu(a:Cd):Nat:=a.a2.length+Jn a
def J6:(dM a).a2.length≤a.a2.length:=qd pj
def OK:(dO a).a2.length≤a.a2.length:=qd pj
def Rt:Jn (dM a)≤Jn a:=by
 unfold dM
 rw [xK];exact (tD DP).1
def Xq:Jn (dO a)≤Jn a:=by
 unfold dO
 rw [xK];exact (tD Rr).1
def Ru(k:kL a b)(g:∀d∈a.a2,d.bV.b8=ar→(dE a.a2 d).bV.b8=ar){e:List R}(h:e=a.a2.map (dE a.a2)):∀d∈e,dE e d=d:=fun d j=>by
 rw [h] at j
 refine bU fun l=>?_
 obtain ⟨c,i,rfl⟩:=hJ.mp j
 refine l ?_;try clear l
 refine bT (Ay g i) ?_
 split
 ·rename_i f
  have n:mr e (mr a.a2 c.t)=mr a.a2 c.t:=h▸J4 k.gH g (k.gH c i f)
  have u:gP e (mr a.a2 c.t)=ar→gP a.a2 (mr a.a2 c.t)=ar:=by
   refine bT h ?_
   unfold gP
   rw [i4]
   cases m:a.a2[mr a.a2 c.t]? with
   |none=>exact id
   |some p=>
    exact fun r=>(congrArg (fun d:R=>d.bV==Op.ew) (Ay g (gj m))).trans (congrArg (· ==Op.ew) (iL _ p))|>.symm.trans r
  have q:¬(c.bV== .cI&&gP e (mr a.a2 c.t))=ar:=fun t=>eE t fun s o=>by
   have:=g c i f
   unfold dE at this
   rw [if_pos f,if_pos (iX.mpr ⟨s,u o⟩)] at this
   exact dy this
  unfold dE
  dsimp only
  (refine bT (if_pos f) ?_;refine bT n ?_;refine bT (if_neg q) ?_;rfl)
 ·rename_i f
  exact if_neg f
def M0(d c:Cd)(e:Prop):Prop:=mu c≤mu d∧(mu c=mu d→c=d∧e)
def mX{c d:Cd}{g:Prop}(e:d.a2.length≤c.a2.length)(f:Jn d≤Jn c)(i:d.a2.length=c.a2.length→Jn d=Jn c→d=c∧g):M0 c d g:=⟨pH e f,fun h=>i (tC e f h).1 (tC e f h).2⟩
def M0.rU{e g d:Cd}{i:Prop}{j:Cd→Prop}(f:M0 e g i)(h:mu d<mu g∨(mu d=mu g∧d=g∧j g)):mu d<mu e∨(mu d=mu e∧d=e∧i∧j e):=
 h.elim (fun c=>.inl (hH c f.1)) fun m=>by obtain ⟨k,l,h⟩:=m;exact (LQ f.1).elim (fun c=>.inl (k▸c)) fun c=>.inr ⟨k.trans c,l.trans (f.2 c).1,(f.2 c).2,(f.2 c).1▸h⟩
noncomputable abbrev CR(a:Cd)(e:Cd→Cd)(d:Cd→cb→Nat→cb)(c:Nat):Prop:=e a=a∧∀f<a.a2.length-c,d a (a.a2.map O) f=a.a2.map O
def C7(a:Cd):Prop:=CR a fZ gN 1∧True
def C6(a:Cd):Prop:=CR a ff fW 2∧C7 a
def C5(a:Cd):Prop:=CR a eX gM 1∧C6 a
def C4(a:Cd):Prop:=(dO a=a∧∀c,c<a.a2.length→cx a.nc c)∧C5 a
def C3(a:Cd):Prop:=(dM a=a∧∀(d:Nat)(c:R),a.a2[d]? =O c→c.bV.b8=ar→c.t≠d+1)∧C4 a
def C2(a:Cd):Prop:=CR a fq gO 1∧C3 a
def aca(a:Cd):Prop:=CR a fE fv 1∧C2 a
def v1{d:Prop}{c:Cd}(e:c=a∧d):c=a∧c=a∧d:=⟨e.1,e⟩
def Rv(g:gk a b)(i:i3 a){d:Cd}(p:d=fZ (ff (eX (dO (dM (fq (fE a))))))):mu d<mu a∨(mu d=mu a∧d=a∧aca a):=by
 have k:=pq g
 have j:=u1 g i
 have r:=nY k.1
 have h:=xI k.1 j
 have q:=pr r.1
 have f:=u2 h
 have m:=(rq q.1).1
 have l:=xJ f
 have s:=nX m.1
 have o:=xG m.1 l
 have t:=xH s.1 o
 refine (mX (qd (dN oN _)) (w9 Rp _) fun c e=>v1 (HR i c)).rU (j:=C2) ?_
 refine (mX (qd (dN qt _)) (w9 Xl _) fun c e=>v1 (J1 j c)).rU (j:=C3) ?_
 refine (mX J6 Rt fun c n=>v1 (HS h c n)).rU (j:=C4) ?_
 refine (mX OK Xq fun c n=>v1 (J3 f c)).rU (j:=C5) ?_
 refine (mX (qd (dN oi _)) (w9 Xj _) fun c e=>v1 (JZ l c)).rU (j:=C6) ?_
 refine (mX (qd (dN oj _)) (w9 Xm _) fun c e=>v1 (J2 o c)).rU (j:=C7) ?_
 refine (mX (qd (dN qs _)) (w9 Xk _) fun c e=>v1 (J0 t c)).rU (j:=fun a=>True) ?_
 exact .inr ⟨congrArg mu p,p,trivial⟩
def OL(c:kL a b):mu (ig a)<mu a∨(mu (ig a)=mu a∧ig a=eo a∧gR (eo a) b):=by
 have e:=pV c.jS c.gH
 have k:=lH c.cF
 have h:=CQ c.jS c.gH
 have f:=HQ c.jS c.gH
 have i:mu (eo a)≤mu a:=pH (jH h) f.1
 refine (Rv k.1 e.1 (d:=ig a) rfl).elim (fun d=>.inl (hH d i)) fun u=>?_
 obtain ⟨l,t,m,v,p,n,w,r,s,_⟩:=u
 refine (LQ i).elim (fun d=>.inl (kT (jH l) d)) fun d=>.inr ⟨l.trans d,t,⟨k.1,e.1,e.2⟩,?_,?_,m,v,p,n,w,r,s⟩
 all_goals
  have j:=Ru c (f.2 (tC (jH h) f.1 d).2) (congrArg Cd.a2 (kj c.jS c.gH))
 ·exact (kj e.1 e.2).trans (congrArg (Cd.mk · _ _) (xC j))
 ·exact fun g o q=>(congrArg (fun g:R=>g.bV.b8) (j g o)).trans q
end
def Rw{a:R}{c:Bool}(e:a.bV=.d0)(d:a.cF c=ar):gZ a.a=ar:=by
 obtain ⟨b,j,h,i,f,g⟩:=a
 obtain rfl:b=.d0:=e
 exact uh (uh d)
def fa(a:R):bl:=if a.bV.b8 then .Z a.t else a.a
def xa(a b:bl):Bool:=(nt 1 a b).getD b2
def BD(a b:R):Bool:=a.bV==b.bV&&(xa (fa a) (fa b)&&(xa a.b b.b&&xa a.c b.c))
def iM:List R→List R→Bool
 |[],[] =>ar
 |c::b,d::a=>BD c d&&iM b a
 |_,_=>b2
def E5:∀{c b:List R},iM c b=ar→c.length=b.length∧c.countP (·.bV.b8)=b.countP (·.bV.b8):=by
 intro c
 induction c with
 |nil=>
  intro b
  rcases b with _|⟨_,_⟩
  ·intro _
   exact ⟨rfl,rfl⟩
  ·intro a
   exact dy a
 |cons h c e=>
  intro b
  rcases b with _|⟨g,b⟩
  ·intro a
   exact dy a
  ·intro a
   simp only [iM,B6] at a
   obtain ⟨d,f⟩:=e a.2
   unfold BD at a
   simp only [B6,beq_iff_eq] at a
   (refine bT qD ?_;refine bT qD ?_;refine bT a.1.1 ?_;refine bT lZ ?_;refine bT lZ ?_;refine bT d ?_;refine bT f ?_)
   exact ⟨rfl,rfl⟩
def d5:Nat→Cd→Cd
 | 0,a=>a
 |b+1,a=>if iM (ig a).a2 a.a2 then ig a else d5 b (ig a)
section
variable{a:Cd}{b:Bool}
def gR.ig(c:gR a b):ig a=a:=by
 unfold Mine.ig
 (refine bT c.xL ?_;refine bT c.Hg.1 ?_;refine bT c.Fw.1 ?_;refine bT c.MZ.1 ?_;refine bT c.J5.1 ?_;refine bT c.Fx.1 ?_;refine bT c.Fy.1 ?_;refine bT c.Hh.1 ?_;rfl)
def gR.QT(d:gR a b):∀c,d5 c a=a
 | 0=>rfl
 |c+1=>by
  unfold d5
  refine bT d.ig ?_
  split
  ·rfl
  ·exact d.QT c
def Xr{c:Op}(d:(c==Op.kq)=ar):¬(c==Op.dt)=ar:=by
 refine bT (dr d) ?_;exact kx
def Rx(c:Nat):∀{a:Cd},kL a b→mu a+1≤c→gR (d5 c a) b∧fH a.nc (d5 c a).nc:=by
 induction c with
 |zero=>exact fun m h=>absurd h (Nat.not_succ_le_zero _)
 |succ c l=>
  intro a i h
  have f:=HO i.cF
  unfold d5
  refine (OL i).elim (fun g=>?_) fun ⟨g,j,e⟩=>?_
  ·split
   ·rename_i k
    have d:=E5 k
    exact absurd g (jI.mpr (jH (show a.a2.length+Jn a=(ig a).a2.length+Jn (ig a) from congr (congrArg Nat.add d.1.symm) d.2.symm)))
   ·have d:=l (pt i) (cr g (yz h))
    exact ⟨d.1,f.2.ci d.2⟩
  ·rw [← j] at e
   split
   ·exact ⟨e,f.2⟩
   ·rw [e.QT];exact ⟨e,f.2⟩
def gR.thr(c:gR a b){d:R}(g:d∈a.a2):dE a.a2 d=d:=by
 have e:=kj c.hM.jS c.hM.gH
 rw [c.xL] at e
 have j:a.a2=a.a2.map (dE a.a2):=congrArg Cd.a2 e
 obtain ⟨i,h⟩:=yA g
 have:=congrArg (fun f:List R=>f[i]?) j
 rw [i4,h] at this
 exact (dg this).symm
def gR.mr(f:gR a b){c:R}(d:c∈a.a2)(e:c.bV.b8=ar):mr a.a2 c.t=c.t∧(c.bV=.cI→gP a.a2 c.t=b2):=by
 have h:=f.thr d
 rw [Ay f.iV d,if_pos e] at h
 have g:Mine.mr a.a2 c.t=c.t:=congrArg R.t h
 refine ⟨g,fun i=>?_⟩
 cases j:gP a.a2 c.t with
 |false=>rfl
 |true=>
  have:=f.iV c d e
  unfold dE at this
  rw [if_pos e,if_pos (by (refine bT g ?_;refine bT j ?_;refine bT i ?_);rfl)] at this
  exact dy this
def IR{c:cb}(f:c=a.a2.map O):¬h6 c:=fun ⟨e,d⟩=>by
 rw [f] at d;exact sY e d
def gR.J7(f:gR a b){c:Nat}{e d:R}(v:a.a2[c]? =O e)(q:a.a2[c+1]? =O d)(x:a.c2 (c+1)=b2):
  (e.bV.i6&&d.bV== .gy)=b2∧((e.bV== .dt||e.bV== .kq)&&d.bV== .dt)=b2∧(e.bV== .d0&&d.bV.cg)=b2∧(e.bV.cg&&d.bV== .cI&&e.t==c+2)=b2∧
  (e.bV== .d0&&d.bV== .cI&&(match a.a2[d.t]? with|some r=>r.bV.cg|none=>b2))=b2:=by
 have h:c<a.a2.length-1:=Ty (fJ.mp q).1
 have t:(a.a2.map O)[c]? =O (O e):=dF.mpr v
 have s:(a.a2.map O)[c+1]? =O (O d):=dF.mpr q
 have i:∀{k:R→R→Option cb}{n o:Option R},j4 a (a.a2.map O) c k=a.a2.map O→k e d=O (fb (a.a2.map O) c n o)→(n=b1∨o=b1)→False:=fun {k n o} f z y=>by
  unfold j4 at f
  rw [t,s] at f
  refine IR ((?_:_=_).trans f) (Au t s y)
  show _=if a.c2 (c+1)=ar then _ else (k e d).getD _
  (refine bT x ?_;refine bT z ?_);rfl
 refine ⟨r5.mpr fun g=>i (k:=CN _ c) (f.Fx.2 c h) (if_pos g) (.inl rfl),r5.mpr fun g=>eE g fun j l=>oX j (fun m=>i (k:=zA _ c) (f.Hh.2 c h) ((if_pos l).trans (if_pos m)) (.inl rfl)) fun m=>i (k:=zA _ c) (f.Hh.2 c h) ((if_pos l).trans ((if_neg (Xr m)).trans (if_pos m))) (.inr rfl),r5.mpr fun g=>eE g fun j l=>i (k:=iR a _ c) (f.Hg.2 c h) ((if_pos j).trans (if_pos l)) (.inl rfl),r5.mpr fun g=>i (k:=CO _ c) (f.Fw.2 c h) (if_pos g) (.inr rfl),?_⟩
 cases A:a.a2[d.t]? with
 |none=>exact qz _
 |some r=>exact r5.mpr fun g=>eE g fun j w=>eE j fun u p=>i (k:=iR a _ c) (f.Hg.2 c h) ((if_pos u).trans ((if_neg (by refine bT (dr p) ?_;exact kx)).trans ((if_pos p).trans (by refine bT A ?_;exact if_pos w)))) (.inl rfl)
def gR.Xs(n:gR a b){c:Nat}{g d e:R}(k:a.a2[c]? =O g)(o:a.a2[c+1]? =O d)(h:a.a2[c+2]? =O e)(l:a.c2 (c+1)=b2)(m:a.c2 (c+2)=b2):(g.bV== .kq&&d.bV.fQ&&e.bV== .gy)=b2:=by
 have p:c<a.a2.length-2:=Ty (fJ.mp h).1
 have i:(a.a2.map O)[c]? =O (O g):=dF.mpr k
 refine r5.mpr fun j=>?_
 have f:=n.Fy.2 c p
 unfold fW at f
 rw [i,show (a.a2.map O)[c+1]? =O (O d) from dF.mpr o,show (a.a2.map O)[c+2]? =O (O e) from dF.mpr h] at f
 exact IR ((if_pos (by (refine bT j ?_;refine bT l ?_;refine bT m ?_);rfl)).symm.trans f) ⟨c,Al (c:=⟨a.a2.map O,[],[]⟩) b1 (O d) b1 (gC (c:=⟨a.a2.map O,[],[]⟩) i)⟩
end
def aj{a:Type}{b:Option a}{K:a→Prop}{c:a}(e:b=O c)(d:K c):@LH a (fun f=>Prop) False K b:=e▸d
def gL{b:Bool}{a e:Prop}(d:b=ar)(c:a):@Gb (fun f=>Prop) e a b:=d▸c
def ed{b:Bool}{d a:Prop}(e:b=b2)(c:a):@Gb (fun f=>Prop) a d b:=e▸c
def cD{a:Bool}{b c:Prop}(e:a=ar→b)(d:a=b2→c):@Gb (fun f=>Prop) c b a:=by
 induction a with
 |true=>exact e rfl
 |false=>exact d rfl
def c8{b:KE}{c:bZ}{d a:bS}(e:b c a)(f:d=a):b c d:=f▸e
structure PC(C:cK)(k:Nat)(args:List bZ)(x:bl):Prop where
 eI:∀(σ:bS)(Q:KE),Q (.f x) σ→C k args σ Q
def pc{g d:cK}{c:Nat}{f:List bZ}{e:bl}(j:g=d)(i:PC d c f e){b:bS}{a:KE}(h:a (.f e) b):g c f b a:=j▸i.eI b a h
def Hi{f b:Nat}{g c:List bZ}{a:dz}{h:cW}{e:bS}{d:KE}(m:∀i:cK,i=vC cq f→Ag ⟨cq,i⟩ a h c e d)(j:cq.p9[b]? =O a)(n:a.cN=.cA h)(k:l5 a g=O c)(l:jJ b 1000=ar):vC cq (f+1) b g e d:=
 gL l (aj j (by refine bT n ?_;exact aj k (m _ rfl)))
def pf{h e:Nat}{i f:List bZ}{b:dz}{j:cW}{g:bl}(k:cq.p9[e]? =O b)(q:b.cN=.cA j)(l:l5 b i=O f)(n:jJ e 1000=ar)(p:∀(d:cK),d=vC cq h→∀(c:bS)(a:KE),a (.f g) c→Ag ⟨cq,d⟩ b j f c a):PC (vC cq (h+1)) e i g:=
 ⟨fun c a o=>Hi (fun d m=>p d m c a o) k q l n⟩
def aae{i:Type}{k:cV→bS→KS→Prop}{l:List Nat}{n:Bool}{K:KS}(h:Nat→bS)(f:Nat→i→cV):∀{e:List bl}{a:Nat}{b:i},
  (∀(c:Nat)(d:bl)(b:i)(g:cV→bS→Prop),e[c]? =O d→(∀b,g (f (a+c+1) b) (h (a+c+1)))→jP (f (a+c) b) l n d fun s=>k s (h (a+c)) (jQ g K))→
  (∀b,K .cc (f (a+e.length) b) (h (a+e.length)))→jZ k l n K e (f a b) (h a):=by
 intro e
 induction e with
 |nil=>
  intro _ _ _ j
  exact j _
 |cons d p o=>
  intro a b m j
  exact m 0 d b _ rfl fun b=>o (a:=a+1) (fun c d b g r q=>nS a 1 c▸m (c+1) d b g r (nS a 1 c▸q)) (nS a 1 p.length▸j)
def VE{f:Type}{g:cV→bS→KS→Prop}{j:List Nat}{k:Bool}{K:KS}(d:Nat→bS)(e:Nat→f→cV){c:List bl}{b:f}
  (m:∀(a:Nat)(h:bl)(b:f)(i:cV→bS→Prop),c[a]? =O h→(∀b,i (e (a+1) b) (d (a+1)))→jP (e a b) j k h fun n=>g n (d a) (jQ i K))
  (l:∀b,K .cc (e c.length b) (d c.length)):jZ g j k K c (e 0 b) (d 0):=
 aae d e (a:=0) (fun a=>(kU a).symm▸m a) ((kU c.length).symm▸l)
def o3{b c:Type}{h:b→c}{a:List b}{f:Nat}{d:c}(g:(a.map h)[f]? =O d):∃e,a[f]? =O e∧h e=d:=by
 rw [i4] at g
 exact tm.mp g
def qe{h g:Type}{j:cV→bS→KS→Prop}{k:List Nat}{l:Bool}{K:KS}(d:Nat→bS)(c:Nat→g→cV){m:h→bl}{e:List h}{a:g}
  (q:∀(b:Nat)(i:h)(a:g)(f:cV→bS→Prop),e[b]? =O i→(∀a,f (c (b+1) a) (d (b+1)))→jP (c b a) k l (m i) fun t=>j t (d b) (jQ f K))
  (r:∀a,K .cc (c e.length a) (d e.length)):jZ j k l K (e.map m) (c 0 a) (d 0):=
 VE d c (fun b i a f s o=>by
  obtain ⟨p,n,rfl⟩:=o3 s
  exact q b p a f n o) (by rw [et];exact r)
def xM{e:List bl}{b:Nat}{d:bl}(c:(eV e)[b]? =O d):∃a,e[b]? =O a∧d=.cQ [.Z b,a] :=by
 unfold eV at c
 rw [i4,T6] at c
 refine bU fun f=>?_
 obtain ⟨i,g,rfl⟩:=tm.mp c
 obtain ⟨a,h,rfl⟩:=tm.mp g
 refine f ?_;try clear f
 exact ⟨a,h,by rw [kU]⟩
def DS(a:List bl):(eV a).length=a.length:=by unfold eV;(rewrite [et];refine bT T9 ?_;rfl)
def Fz{h g:Type}{j:cV→bS→KS→Prop}{k:List Nat}{m:Bool}{K:KS}(d:Nat→bS)(c:Nat→g→cV){n:h→bl}{e:List h}{a:g}
  (r:∀(b:Nat)(i:h)(a:g)(f:cV→bS→Prop),e[b]? =O i→(∀a,f (c (b+1) a) (d (b+1)))→jP (c b a) k m (.cQ [.Z b,n i]) fun v=>j v (d b) (jQ f K))
  (t:∀a,K .cc (c e.length a) (d e.length)):jZ j k m K (eV (e.map n)) (c 0 a) (d 0):=
 VE d c (fun b i a f u p=>by
  refine bU fun l=>?_
  obtain ⟨w,s,rfl⟩:=xM u
  obtain ⟨q,o,rfl⟩:=o3 s
  refine l ?_;try clear l
  exact r b q a f o p) (by rw [DS,et];exact t)
def Xt{g:Type}{h:cV→bS→KS→Prop}{j:List Nat}{l:Bool}{K:KS}(e:Nat→bS)(d:Nat→g→cV){c:Nat}{b:g}
  (n:∀(a:Nat)(b:g)(f:cV→bS→Prop),a<c→(∀b,f (d (a+1) b) (e (a+1)))→jP (d a b) j l (.Z a) fun r=>h r (e a) (jQ f K))
  (o:∀b,K .cc (d c b) (e c)):jZ h j l K (dL (c:Int)) (d 0 b) (e 0):=by
 have q:dL (c:Int)=(f5 c).map fun (a:Nat)=>bl.Z a:=by unfold dL;rw [zm]
 refine bT q ?_
 exact qe e d (fun a s b f p m=>by
  obtain ⟨i,k⟩:=fJ.mp p
  rw [pk] at i
  rw [L9] at k
  subst k
  exact n a b f i m) (by refine bT pk ?_;exact o)
def xN{f e j:Type}{l:cV→bS→KS→Prop}{m:List Nat}{p:Bool}{q:f→bl}{K:KS}(n:e→f→e)(g:e→bS)(h:j→cV):∀{c:List f}{b:e}{a:j},
  (∀(b:e)(d:f)(a:j)(i:cV→bS→Prop),d∈c→(∀a,i (h a) (g (n b d)))→jP (h a) m p (q d) fun u=>l u (g b) (jQ i K))→
  (∀a,K .cc (h a) (g (c.foldl n b)))→jZ l m p K (c.map q) (h a) (g b):=by
 intro c
 induction c with
 |nil=>
  intro _ _ _ k
  exact k _
 |cons d w r=>
  intro b a o k
  exact o b d a _ fD fun v=>r (fun b s a i t=>o b s a i (ia _ t)) k
def nN{a:Bool}(b:(!a)=ar):a=b2:=by
 induction a with
 |false=>rfl
 |true=>exact b.symm
def pW{a:Bool}(b:(!a)=b2):a=ar:=by
 induction a with
 |true=>rfl
 |false=>exact b.symm
def FA{b a:Nat}(c:b≤a):sn b a=O ():=if_pos c
def ef{b d:Type}{c:b→d}{a:List b}(e:a.length≤500):sn (a.map c).length 100000=O ():=(et c (as:=a)).symm▸if_pos (cr e (by decide))
def Xu{d:Type}{k:cV→bS→List bl→KL→Prop}{h:List Nat}{l:Bool}{j:cV}{e:bS}(m:d→bl)(g:d→List bl):∀{b:List d}{a:List bl}{K:KL},
  (∀(c:d)(a:List bl)(K:KL),c∈b→K (a++g c) e→jP j h l (m c) fun q=>k q e a K)→K (a++b.flatMap g) e→og k j h l (b.map m) e a K:=by
 intro b
 induction b with
 |nil=>
  intro a K _ f
  rw [Uc,kX] at f;exact f
 |cons c r n=>
  intro a K i f
  exact i c a _ fD (n (fun o a K p=>i o a K (ia _ p)) (by (rewrite [m8];refine gT Mb ?_);exact f))
def iD{d:Type}{g:cV→bS→List bl→KL→Prop}{j:List Nat}{k:Bool}{h:cV}{b:bS}(f e:d→bl){c:List d}{K:KL}
  (l:∀(a:d)(i:List bl)(K:KL),a∈c→K (i++[e a]) b→jP h j k (f a) fun n=>g n b i K) (m:K (c.map e) b):og g h j k (c.map f) b [] K:=
 Xu f (fun a=>[e a]) l (by (rewrite [Gp];refine gT List.map_eq_flatMap ?_);exact m)
def k6{d:Type}{p:cV→bS→List bl→KL→Prop}{n:List Nat}{q:Bool}{o:cV}{e:bS}(r:d→bl)(i:d→Bool)(m:d→bl):∀{f:List d}{a:List bl}{K:KL},
  (∀(b:d)(a:List bl)(K:KL),b∈f→(i b=ar→K (a++[m b]) e)→(i b=b2→K a e)→jP o n q (r b) fun s=>p s e a K)→K (a++(f.filter i).map m) e→og p o n q (f.map r) e a K:=by
 intro f
 induction f with
 |nil=>
  intro a K _ c
  rw [Gq,Ck,kX] at c;exact c
 |cons b t l=>
  intro a K j c
  exact j b a _ fD
   (fun k=>l (fun g a K h=>j g a K (ia _ h)) (by rw [m8];rw [List.filter_cons_of_pos k] at c;exact c))
   (fun k=>l (fun g a K h=>j g a K (ia _ h)) (by rw [List.filter_cons_of_neg (by refine bT k ?_;exact kx)] at c;exact c))
def Xv{f e l:Type}{o:cV→bS→KS→Prop}{p:List Nat}{r:Bool}{s:f→bl}{K:KS}(i:e→f→e)(j:e→Prop)(h:e→l→cV){g:bS}:∀{c:List f}{a:e}{b:l},
  (∀(a:e)(d:f)(b:l)(k:cV→bS→Prop),d∈c→j a→(j (i a d)→∀b,k (h (i a d) b) g)→jP (h a b) p r (s d) fun x=>o x g (jQ k K))→
  j a→(j (c.foldl i a)→∀b,K .cc (h (c.foldl i a) b) g)→jZ o p r K (c.map s) (h a b) g:=by
 intro c
 induction c with
 |nil=>
  intro _ _ _ m n
  exact n m _
 |cons d z t=>
  intro a b q m n
  exact q a d b _ fD m fun v y=>t (fun a u b k w=>q a u b k (ia _ w)) v n
def wo{j:cV→bS→KS→Prop}{l:List Nat}{n:Bool}{K:KS}(d:cV→bS→Prop):∀{e:List bl},
  (∀(c:bl)(b:cV)(a:bS)(f:cV→bS→Prop),c∈e→d b a→(∀g k,d g k→f g k)→jP b l n c fun g=>j g a (jQ f K))→
  ∀{b:cV}{a:bS},d b a→(∀b a,d b a→K .cc b a)→jZ j l n K e b a:=by
 intro e
 induction e with
 |nil=>
  intro _ _ _ h i
  exact i _ _ h
 |cons c s o=>
  intro m _ _ h i
  exact m c _ _ _ fD h fun q q r=>o (fun c b a f p=>m c b a f (ia _ p)) r i
def DT{c:Type}{g:c→bl}{d:List c}{e:bl}(i:e∈eV (d.map g)):∃(b:Nat)(a:c),d[b]? =O a∧e=.cQ [.Z b,g a] :=by
 refine bU fun f=>?_
 obtain ⟨b,h⟩:=yA i
 obtain ⟨l,k,rfl⟩:=xM h
 obtain ⟨a,j,rfl⟩:=o3 k
 refine f ?_;try clear f
 exact ⟨b,a,j,rfl⟩
def eR(a:R):bl:=.gJ 0 [.ad a.bV.cT,fa a,a.b,a.c,.Z a.e6]
def hW:Option R→bl
 |none=>.bX
 |some a=>eR a
noncomputable def k0(a:Ct):bl:=.gJ 1 [a.mF,.Z a.d1,.Z a.iz,.Z a.cP,.Z a.dG]
structure Hd where
 dm:bl
 cJ:bl
 b9:bl
 gc:bl
 fB:List bl
noncomputable def e8(a:Nat):bl:=.Z a
noncomputable abbrev cU(a:List Nat):List bl:=a.map e8
def cf(a:Hd)(b:Cd):bl:=.gJ 2 [a.dm,a.cJ,a.b9,a.gc,.a3 (b.a2.map eR),.a3 (b.b6.map k0),.a3 a.fB,.a3 (cU b.cp),.bX]
def jf{b:Op→Bool}(c:fu.all b=ar)(a:Op):b a=ar:=lD.mp c a (by induction a<;>first|decide|exact (by decide:Op.gx ()∈fu))
noncomputable def eA(a:Option Bool)(b:Bool):Bool:=match a with
 |some c=>c==b
 |none=>b2
def pw{a:Option Bool}{b:Bool}(c:eA a b=ar):a=O b:=by
 induction a with
 |none=>exact dy c
 |some d=>(refine bT (dr c) ?_;rfl)
noncomputable def Wv(a:Option Bool):Option Bool:=a.map (!·)
def ol{e:bS}{b:List bl}{c:Op→Bool}(d:(fu.all fun a=>eA (ic (.ad a.cT) b) (c a))=ar)(a:Op):fh cq e .ft (.f (.ad a.cT)) (.f (.cQ b))=O (c a):=pw (jf d a)
def qf{e:bS}{b:List bl}{c:Op→Bool}(d:(fu.all fun a=>eA (ic (.ad a.cT) b) (c a))=ar)(a:Op):fh cq e .ft (.f (.ad a.cT)) (.f (.a3 b))=O (c a):=pw (jf d a)
def DU{e:bS}{b:List bl}{c:Op→Bool}(d:(fu.all fun a=>eA (ic (.ad a.cT) b) (c a))=ar)(a:Op):fh cq e .fY (.f (.ad a.cT)) (.f (.cQ b))=O (!c a):=congrArg Wv (pw (jf d a))
noncomputable def FB:List bl:=[.ad "jump",.ad "jumpif",.ad "jumpunless",.ad "jumpnil"]
noncomputable def VF:List bl:=[.ad "jump",.ad "leave",.ad "out",.ad "again",.ad "nomatch",.ad "fail"]
noncomputable def NC:List bl:=[.ad "push",.ad "self",.ad "getl",.ad "geti",.ad "getg",.ad "dup",.ad "blockgiven"]
noncomputable def IS:List bl:=[.ad "setl",.ad "seti",.ad "setg",.ad "setc"]
noncomputable def rt:List bl:=[.ad "jumpif",.ad "jumpunless"]
noncomputable def ND:List bl:=[.ad "jump",.ad "leave",.ad "fail"]
def IT:(fu.all fun a=>eA (ic (.ad a.cT) FB) a.b8)=ar:=by kernel_rfl
def Xw:(fu.all fun a=>eA (ic (.ad a.cT) VF) a.dR)=ar:=by kernel_rfl
def BE:(fu.all fun a=>eA (ic (.ad a.cT) NC) a.i6)=ar:=by kernel_rfl
def xO:(fu.all fun a=>eA (ic (.ad a.cT) IS) a.fQ)=ar:=by kernel_rfl
def px:(fu.all fun a=>eA (ic (.ad a.cT) rt) a.cg)=ar:=by kernel_rfl
def Ry:(fu.all fun a=>eA (ic (.ad a.cT) ND) a.dR)=ar:=by kernel_rfl
def gp(b a:Op):(b.cT==a.cT)=(b==a):=by
 have:=jf (b:=fun b=>fu.all fun a=>(b.cT==a.cT)==(b==a)) (by kernel_rfl) b
 exact dr (jf (b:=fun a=>(b.cT==a.cT)==(b==a)) this a)
section
variable{a:bS}{fz:Bool}
def om(b:Op):fh cq a .ft (.f (.ad b.cT)) (.f (.cQ FB))=O b.b8:=ol IT b
def E6(b:Op):fh cq a .fY (.f (.ad b.cT)) (.f (.cQ FB))=O (!b.b8):=DU IT b
def gU(b:Op):fh cq a .ft (.f (.ad b.cT)) (.f (.cQ rt))=O b.cg:=ol px b
def sH(b:Op):fh cq a .fY (.f (.ad b.cT)) (.f (.cQ VF))=O (!b.dR):=DU Xw b
def xP(b:Op):fh cq a .ft (.f (.ad b.cT)) (.f (.cQ ND))=O b.dR:=ol Ry b
def rv{b c:Nat}(d:b<c)(e:c≤100000):g8 (b:Int) c=O b:=by
 unfold g8
 (refine bT (if_pos (sb b)) ?_;refine bT (if_pos ⟨kY.mpr d,GS (kY.mpr (hH d e)) (by decide)⟩) ?_;rw [zm])
def xQ{b:List bl}(c:b.length≤100000):eW a fz 0 [.f (.a3 b)] =O (.f (.Z b.length),a):=if_pos c
def eZ{c:Type}{d:c→bl}{b:List c}(f:b.length≤500):eW a fz 0 [.f (.a3 (b.map d))] =O (.f (.Z b.length),a):=by
 have e:=et d (as:=b)
 (refine bT (xQ (e▸cr f (by decide))) ?_;refine bT e ?_;rfl)
def en(a:bS)(b:Option dw)(c:bS):(a++b::c)[a.length]? =O b:=by simp
def kM(a:bS)(d b:Option dw)(c:bS):(a++d::b::c)[a.length+1]? =O b:=by
 rw [la (fM _)];simp
def zB(a:bS)(d e b:Option dw)(c:bS):(a++d::e::b::c)[a.length+2]? =O b:=by
 rw [la (fg _ 2)];simp
def M1(a:bS)(e f d b:Option dw)(c:bS):(a++e::f::d::b::c)[a.length+3]? =O b:=by
 rw [la (fg _ 3)];simp
def kk(a:bS)(d c:Option dw)(b:bS):(a++d::b).set a.length c=a++c::b:=by
 refine bT (Cc _ _ (dX _)) ?_;simp
def zC(a:bS)(d e c:Option dw)(b:bS):(a++d::e::b).set (a.length+1) c=a++d::c::b:=by
 refine bT (Cc _ _ (fM _)) ?_;simp
def aaf(a:bS)(d e f c:Option dw)(b:bS):(a++d::e::f::b).set (a.length+2) c=a++d::e::c::b:=by
 refine bT (Cc _ _ (fg _ 2)) ?_;simp
def VG(a:bS)(e f c g d:Option dw)(b:bS):(a++e::f::c::g::b).set (a.length+3) d=a++e::f::c::d::b:=by
 refine bT (Cc _ _ (fg _ 3)) ?_;simp
def jB(a b:bS):(a++b).take a.length=a:=by simp
def lw{b:List bl}(c:b.length≤100000):iI a ar b=O (.f (.a3 b),a):=if_pos c
def g4{b:List bl}(c:b.length≤100000):iI a b2 b=O (.cu a.length,a++[O (.a3 b)]):=by unfold iI QO;exact if_pos c
def lh{d:Type}{c:d→bl}{b:List d}(e:b.length≤500):iI a ar (b.map c)=O (.f (.a3 (b.map c)),a):=lw (et c (as:=b)▸cr e (by decide))
def aag{d:Type}{c:d→bl}{b:List d}(e:b.length≤500):iI a b2 (b.map c)=O (.cu a.length,a++[O (.a3 (b.map c))]):=g4 (et c (as:=b)▸cr e (by decide))
def OM{d:Type}(c:d):∀b,(ky b [c]).flatten=ky b c:=by
 intro b
 induction b with
 |zero=>
  exact rfl
 |succ b e=>
  exact congrArg (c:: ·) (e)
def u4(c:bl)(b:Nat)(d:b≤600):pn a fz .kF (.f (.a3 [c])) (.f (.Z b))=iI a fz (ky b c):=
 (if_pos ⟨cr d (by decide),er rfl⟩).trans (congrArg (iI a fz) (OM c b))
def HT(c:bl)(b:Nat)(d:b<600):pn a fz .kF (.f (.a3 [c])) (.f (.Z (b+1)))=iI a fz (ky (b+1) c):=u4 c (b+1) d
def wp{c:Nat}{b:dw}(d:a[c]? =O (O b)):wP a c=O b:=congrArg (jG · id) d
def l8{c:Nat}{b:List bl}(d:a[c]? =O (O (.a3 b))):il a c=O b:=congrArg (jG · dw.uc) (wp d)
def FC{c:Nat}{b:List bl}(d:a[c]? =O (O (.a3 b))):kI a (.cu c)=O b:=l8 d
def BF{b:Nat}{d:List (Sum Int b4×bl)}(c:a[b]? =O (O (.eg d))):il a b=b1:=congrArg (jG · dw.uc) (wp c)
def qP{b:Nat}{c:List (Sum Int b4×bl)}(d:a[b]? =O (O (.eg c))):ml a b=O c:=congrArg (jG · dw.Vh) (wp d)
def wq{d c:Nat}{b:List bZ}(e:a[d]? =O (O (.jW c b))):wQ a d=O (c,b):=congrArg (jG · dw.Vi) (wp e)
def VH{c:Nat}{b:List bl}{d:bl}(f:a[c]? =O (O (.a3 b)))(e:b.length≤100000)(g:b[b.length-1]? =O d):jk cq a .gy (.cu c) [] =O (.f d,a.set c (O (.a3 (b.eraseIdx (b.length-1))))):=by
 refine (congrArg (jG · _) (l8 f)).trans ((if_pos e).trans ?_)
 refine bT g ?_;rfl
def aah{c d:Nat}{e:Int}{b:List bl}{f:bl}(h:a[c]? =O (O (.a3 b)))(g:b.length≤100000)(i:g8 e b.length=O d)(j:b[d]? =O f):jk cq a .gy (.cu c) [.f (.Z e)] =O (.f f,a.set c (O (.a3 (b.eraseIdx d)))):=by
 refine (congrArg (jG · _) (l8 h)).trans ((congrArg (jG · _) i).trans ((if_pos g).trans ?_))
 refine bT j ?_;rfl
def js{c:Nat}{b:List bl}(d:a[c]? =O (O (.a3 b))):Wn a (.cu c)=O (.f (.a3 b),a.set c b1):=congrArg (nG fun b=>(bZ.f (.a3 b),a.set c b1)) (l8 d)
def FD{d:Nat}{c:List bl}(g:a[d]? =O (O (.a3 c))){b:Nat}{e:bl}(h:b<c.length)(f:c.length≤100000):l4 a (.cu d) (.f (.Z b)) (.f e)=O (a.set d (O (.a3 (c.set b e)))):=by
 show (il a d).elim _ _=_
 refine bT (l8 g) ?_
 refine (if_pos (e:=b1) (sb b)).trans ?_
 (refine bT (rv h f) ?_;rfl)
def io{b:Nat}{c:List bl}(f:a[b]? =O (O (.a3 c)))(e:c.length≤100000){d:bl}:jk cq a .eJ (.cu b) [.f d] =O (.f .bX,a.set b (O (.a3 (c++[d])))):=by
 show (il a b).bind _=_
 refine bT (l8 f) ?_
 exact if_pos e
def dK{b:Nat}{c:List bl}(d:a[b]? =O (O (.a3 c))):jN cq a (.cu b) "append"=O .eJ:=by
 show (il a b).elim _ _=_
 refine bT (l8 d) ?_;rfl
def mY{b:Nat}{c:List bl}(d:a[b]? =O (O (.a3 c))):jN cq a (.cu b) "pop"=O .gy:=by
 show (il a b).elim _ _=_
 refine bT (l8 d) ?_;rfl
def qu{b:List bl}{c:Nat}{d:bl}(e:b[c]? =O d)(f:b.length≤100000):jX cq a (.f (.a3 b)) (.f (.Z c))=O d:=
 (congrArg (jG · (b[·]?)) (rv (fJ.mp e).1 f)).trans e
def IU{b:List bl}{c:Nat}{d:bl}(e:b[c]? =O d)(f:b.length≤100000):jX cq a (.f (.cQ b)) (.f (.Z c))=O d:=
 (congrArg (jG · (b[·]?)) (rv (fJ.mp e).1 f)).trans e
def hB{c:Type}{d:c→bl}{b:List c}{e:Nat}{f:c}(h:b[e]? =O f)(g:b.length≤500):jX cq a (.f (.a3 (b.map d))) (.f (.Z e))=O (d f):=
 qu (by (rewrite [i4];refine bT h ?_);rfl) (et d (as:=b)▸cr g (by decide))
def xb{c:Nat}{b:List bl}(d:a[c]? =O (O (.a3 b))):ud a (.cu c)=O (.a3 b):=congrArg (nG bl.a3) (l8 d)
def zD{d:Nat}{b:List bl}{c:Nat}{e:bl}(h:a[d]? =O (O (.a3 b)))(f:b[c]? =O e)(g:b.length≤100000):jX cq a (.cu d) (.f (.Z c))=O e:=by
 show (ud a (.cu d)).elim _ _=_
 refine bT (xb h) ?_
 show (g8 c b.length).bind _=_
 rw [rv (fJ.mp f).1 g]
 exact f
def uo{c:Nat}{b:List bl}(e:a[c]? =O (O (.a3 b)))(d:b.length≤100000):eW a fz 0 [.cu c] =O (.f (.Z b.length),a):=by
 show (ud a (.cu c)).bind _=_
 refine bT (xb e) ?_
 exact if_pos d
end
def fi{a:R}(b:a.bV.b8=ar):fa a=.Z a.t:=by unfold fa;(refine bT (if_pos b) ?_;rfl)
def py(a:List Nat)(b:Nat):cU a++[.Z b] =cU (a++[b]):=by simp [cU,e8]
def Rz{h:Nat}(a:Option R)(c:List bl)(f:Op→Bool)(i:(fu.all fun e=>eA (ic (.ad e.cT) c) (f e))=ar):PC (vC cq (h+1)) 19 [.f (hW a),.f (.cQ c)] (.b3 (match a with|some b=>f b.bV|none=>b2)):=pf rfl rfl rfl rfl fun l k j d g=>by
 induction a with
 |none=>exact c8 (b:=d) g eO
 |some b=>
  apply aj;exact ol i b.bV
  exact c8 (b:=d) g eO
def RA{e:Nat}(b:bl)(d:gZ b=ar):PC (vC cq (e+1)) 20 [.f b] (.b3 (dI b)):=pf rfl rfl rfl rfl fun k j i a c=>by
 cases b with
 |bX=>exact c8 (b:=a) c eO
 |b3 f=>induction f<;>exact c8 (b:=a) c eO
 |Z h=>exact c8 (b:=a) c eO
 |ad g=>exact c8 (b:=a) c eO
 |_=>exact dy d
noncomputable def DV(b:Nat)(a:Nat→Bool):dw:=.a3 ((f5 b).map fun c=>.b3 (a c))
def ON(b a:Nat)(g:Nat→Bool):((f5 b).map fun c=>bl.b3 (g c)).set a (.b3 ar)=(f5 b).map fun c=>bl.b3 (g c||a==c):=by
 apply vQ
 intro d
 rw [Ma,i4,i4]
 by_cases e:a=d
 ·subst e
  by_cases f:a<b
  ·simp [f]
  ·simp [f]
 ·refine bT (if_neg e) ?_
  cases i:(f5 b)[d]? with
  |none=>rfl
  |some k=>
   obtain ⟨j,h⟩:=fJ.mp i
   rw [L9] at h
   subst h
   have:(a==d)=b2:=beq_false_of_ne e
   (rewrite [F8,F8];refine bT this ?_;rw [vK])
def BG(a:Nat)(b:Nat→Bool):((f5 a).map fun c=>bl.b3 (b c)).length=a:=by (rewrite [et];refine bT pk ?_;rfl)
def IV{c a:Nat}{b:Nat→Bool}(d:a<c):((f5 c).map fun a=>bl.b3 (b a))[a]? =O (.b3 (b a)):=by
 rw [i4,L5 d];rfl
def IW{d:bS}{c a e:Nat}{b:Nat→Bool}(i:d[c]? =O (O (DV a b)))(j:e<a)(h:a≤1000):l4 d (.cu c) (.f (.Z e)) (.f (.b3 ar))=O (d.set c (O (DV a fun g=>b g||e==g))):=by
 have f:=BG a b
 (refine bT (FD i (f.symm▸j) (f.symm▸cr h (by decide))) ?_;rw [ON]);rfl
noncomputable def wu(c:Bool)(d:Nat)(b:Nat→Bool):Nat→Bool:=fun a=>b a||(c&&d==a)
def Xx(b:Nat)(a:Nat→Bool):wu b2 b a=a:=funext fun c=>by unfold wu;rw [Tq,vK]
def BH{e:Type}(f:e→Bool)(g:e→Nat):∀(c:List e)(b:Nat→Bool),c.foldl (fun b a=>wu (f a) (g a) b) b=fun d=>b d||c.any fun a=>f a&&g a==d:=by
 intro c
 induction c with
 |nil=>
  intro b
  exact funext fun d=>(vK _).symm
 |cons a c h=>
  intro b
  (refine bT Gr ?_;rw [h]);funext d;(refine bT Gv ?_;rw [← Tt]);rfl
def RB(b:Cd):b.cp.foldl (fun a d=>wu ar d a) (b.b6.foldl (fun a e=>wu ar e.cP a) (b.a2.foldl (fun a c=>wu c.bV.b8 c.t a) fun f=>b2))=b.c2:=by
 rw [BH (fun c:R=>c.bV.b8) (·.t),BH (fun f=>ar) Ct.cP,BH (fun _:Nat=>ar) (fun d=>d)]
 funext g
 unfold Cd.c2
 refine bT List.contains_eq_any_beq ?_
 simp [Tt,MK (a:=g)]
section
variable{d:Nat}{a:bS}{fz:Bool}
def IX{b:Nat}(c:b≤600):iI a b2 (ky b (bl.b3 b2))=O (.cu a.length,a++[O (DV b fun e=>b2)]):=by
 unfold DV;rw [g4 (by refine bT L2 ?_;exact cr c (by decide)),Ug,pk]
def RD(l:Hd)(c:Cd)(o:i3 c)(s:c.a2.length≤500)(y:c.b6.length≤500)(z:c.cp.length≤500):PC (vC cq (d+1)) 21 [.f (cf l c)] (.a3 ((f5 (c.a2.length+1)).map fun w=>.b3 (c.c2 w))):=pf rfl rfl rfl rfl fun A C a x u=>by
 let i:(Nat→Bool)→bS:=fun b=>a++[O (DV (c.a2.length+1) b)]
 have p:∀{b k},k≤c.a2.length→l4 (i b) (.cu a.length) (.f (.Z k)) (.f (.b3 ar))=O (i (wu ar k b)):=fun {b k} v=>by
  (refine bT (IW (en _ _ _) (vM v) (by lia)) ?_;rw [kk]);rfl
 apply aj;exact eZ s
 apply aj;exact (HT _ _ (by lia)).trans (IX (by lia))
 apply aj;exact ef s
 refine xN (fun b m=>wu m.bV.b8 m.t b) i (fun h=>[O (.f (cf l c)),O (.cu a.length),h,b1,b1]) (fun b m h t f e=>?_) fun h=>?_
 ·apply aj;exact om _
  refine cD (fun g=>?_) fun g=>?_
  ·apply aj;refine bT (fi g) ?_;exact p (o.iV m f g)
   rw [g] at e;exact e _
  ·rw [g,Xx] at e;exact e _
 apply aj;exact ef y
 refine xN (fun b q=>wu ar q.cP b) i (fun j=>[O (.f (cf l c)),O (.cu a.length),h,j,b1]) (fun b q j t f e=>?_) fun j=>?_
 ·apply aj;exact p (o.b6 q f).2.2
  exact e _
 apply aj;exact ef z
 refine xN (fun b n=>wu ar n b) i (fun r=>[O (.f (cf l c)),O (.cu a.length),h,j,r]) (fun b n r t f e=>?_) fun r=>?_
 ·apply aj;exact p (o.cp n f)
  exact e _
 apply aj;exact js (en _ _ _)
 rw [RB]
 exact c8 (b:=x) u (by rw [kk,jB])
def o4(c e f g b:bl):PC (vC cq (d+1)) 1000 [.f c,.f e,.f f,.f g,.f b] (.gJ 0 [c,e,f,g,b]):=⟨fun a h i=>c8 (b:=h) i eO⟩
def Az(c e f g b:bl):PC (vC cq (d+1)) 1001 [.f c,.f e,.f f,.f g,.f b] (.gJ 1 [c,e,f,g,b]):=⟨fun a h i=>c8 (b:=h) i eO⟩
def DX(b e j c i h f g:bl):PC (vC cq (d+1)) 1002 [.f b,.f e,.f j,.f c,.f i,.f h,.f f,.f g] (.gJ 2 [b,e,j,c,i,h,f,g,.bX]):=⟨fun a k l=>c8 (b:=k) l eO⟩
def lI(b:R)(c:bl):PC (vC cq (d+2)) 1 [.f (eR b),.f c] (.gJ 0 [.ad b.bV.cT,c,b.b,b.c,.Z b.e6]):=pf rfl rfl rfl rfl fun h g a e f=>pc g (o4 ..) (c8 (b:=e) f eO)
def q2(b:Hd)(j:Cd)(c e g f:bl):PC (vC cq (d+2)) 5 [.f (cf b j),.f c,.f e,.f g,.f f] (.gJ 2 [b.dm,b.cJ,b.b9,b.gc,c,e,f,g,.bX]):=pf rfl rfl rfl rfl fun l k a h i=>pc k (DX ..) (c8 (b:=h) i eO)
def DY(b:Ct)(c:Nat):PC (vC cq (d+1)) 3 [.f (k0 b),.f (.Z c)] (.b3 (b.c4 c)):=pf rfl rfl rfl rfl fun i g a h e=>by
 have g:b.c4 c=(dY ((b.d1:Int)≤c)&&dY ((c:Int)<b.iz)):=by
  unfold Ct.c4
  rw [decide_eq_decide.mpr (pN (m:=b.d1) (n:=c)),decide_eq_decide.mpr (kY (n:=c) (m:=b.iz))]
 rw [g] at e
 refine cD (fun f=>?_) fun f=>?_<;>(rw [f] at e;exact c8 (b:=h) e eO)
def AA(c:Nat→Nat)(b:R)(e:b.bV.b8=ar):eR (b.iY c)=.gJ 0 [.ad b.bV.cT,.Z (c b.t),b.b,b.c,.Z b.e6] :=by
 unfold R.iY eR fa
 simp only [e,if_true]
def J8(c:Nat→Nat)(b:R)(e:b.bV.b8=b2):b.iY c=b:=by unfold R.iY;rw [if_neg (by refine bT e ?_;decide)]
def FE(c:cb)(e:Nat):List bl:=(f5 e).map fun b=>.Z (c6 c b)
def RE(c:cb)(b:Nat):(FE c b).length=b:=by unfold FE;(rewrite [et];refine bT pk ?_;rfl)
def RF{c:cb}{e b:Nat}(f:b<e):(FE c e)[b]? =O (.Z (c6 c b)):=by
 unfold FE
 rw [i4,L5 f];rfl
def DZ(b:cb)(c:Nat):FE b c++[.Z (c6 b c)] =FE b (c+1):=by
 unfold FE
 (refine bT vT ?_;refine bT r8 ?_);rfl
def kp(c:cb)(b:Nat):List bl:=((c.take b).filterMap id).map eR
def FF(c:cb)(b:Nat):(kp c b).length=c6 c b:=et ..
def RG{c:cb}{b:Nat}(e:c[b]? =O b1):kp c (b+1)=kp c b:=by unfold kp;(refine bT qC ?_;refine bT e ?_);simp
def RI{c:cb}{b:Nat}{e:R}(f:c[b]? =O (O e)):kp c (b+1)=kp c b++[eR e] :=by unfold kp;(refine bT qC ?_;refine bT f ?_);simp
def aai(b:cb)(c:Nat):c6 b c≤b.length:=cr (vN _ _) (yB ..)
def qQ{c:Option dw}{b:List bl}(e:b.length≤100000):iI (a++[c]) b2 b=O (.cu (a.length+1),a++[c,O (.a3 b)]):=by (refine bT (g4 e) ?_;rewrite [m8];refine bT dZ ?_);rfl
def RJ{c e:Option dw}{b:List bl}(f:b.length≤100000):iI (a++[c,e]) b2 b=O (.cu (a.length+2),a++[c,e,O (.a3 b)]):=by (refine bT (g4 f) ?_;rewrite [m8];refine bT dZ ?_);rfl
def RK{e f c:Option dw}{b:List bl}(g:b.length≤100000):iI (a++[e,f,c]) b2 b=O (.cu (a.length+3),a++[e,f,c,O (.a3 b)]):=by (refine bT (g4 g) ?_;rewrite [m8];refine bT dZ ?_);rfl
def on{b:List bl}{c:bS}{e:bl}(f:b.length≤100000):jk cq (a++O (.a3 b)::c) .eJ (.cu a.length) [.f e] =O (.f .bX,a++O (.a3 (b++[e]))::c):=by (refine bT (io (en _ _ _) f) ?_;rw [kk])
def VI{b:List bl}{f:Option dw}{c:bS}{e:bl}(g:b.length≤100000):jk cq (a++f::O (.a3 b)::c) .eJ (.cu (a.length+1)) [.f e] =O (.f .bX,a++f::O (.a3 (b++[e]))::c):=by (refine bT (io (kM _ _ _ _) g) ?_;rw [zC])
def aaj{b:List bl}{g h e:Option dw}{c:bS}{f:bl}(i:b.length≤100000):jk cq (a++g::h::e::O (.a3 b)::c) .eJ (.cu (a.length+3)) [.f f] =O (.f .bX,a++g::h::e::O (.a3 (b++[f]))::c):=by (refine bT (io (M1 _ _ _ _ _ _) i) ?_;rw [VG])
end
section
variable{b:Nat}{a:bS}{fz:Bool}
def ck(c:Cd)(d:cb)(e:Nat):List bl:=((c.b6.take e).filterMap (Ct.fI (c6 d))).map k0
def RM{f:Cd}{c:cb}{e:Nat}{d:Ct}(h:f.b6[e]? =O d):ck f c (e+1)=ck f c e++(match d.fI (c6 c) with|some g=>[k0 g] |none=>[]):=by
 unfold ck
 (refine bT qC ?_;refine bT h ?_;refine bT L1 ?_;refine bT r8 ?_;rewrite [LF];refine bT Ce ?_;refine bT List.filterMap_nil ?_)
 cases d.fI (c6 c)<;>rfl
def Xy(c:Cd)(d:cb)(e:Nat):(ck c d e).length≤c.b6.length:=by
 unfold ck
 rw [et]
 exact cr (vN _ _) (yB ..)
def OO{e:cb}{f:Nat}(k:∀(d:Nat)(c:R),e[d]? =O (O c)→c.bV.b8=ar→c.t≤f):∀c∈e.filterMap id,c.bV.b8=ar→c.t≤f:=fun c h g=>by
 obtain ⟨l,j⟩:=yA h
 obtain ⟨d,i,_⟩:=VC j
 exact k d c i g
def rx(k:Hd)(e:Cd)(c:cb)(y:i3 e)(A:c.length=e.a2.length)(T:∀(w:Nat)(g:R),c[w]? =O (O g)→g.bV.b8=ar→g.t≤e.a2.length)(ab:e.a2.length≤500)(P:e.b6.length≤500)(q:e.cp.length≤500):
  PC (vC cq (b+3)) 22 [.f (cf k e),.f (.a3 (c.map hW))] (cf k (e.cX c)):=pf rfl rfl rfl rfl fun ag x a ac m=>by
 have j:c.length≤500:=A▸ab
 have z:∀{F:Nat},F≤501→F≤100000:=fun k=>cr k (by decide)
 have v:∀d,(kp c d).length≤100000:=fun d=>z (FF c d▸cr (aai c d) (uL j))
 have t:∀{d},d≤c.length+1→(FE c d).length≤100000:=fun {d} i=>z ((RE c d).symm▸cr i (iF j))
 apply aj;exact g4 (fy _)
 apply aj;exact qQ (fy _)
 apply aj;exact ef j
 refine qe (fun d=>a++[O (.a3 (FE c d)),O (.a3 (kp c d))]) (fun ah p=>[O (.f (cf k e)),O (.f (.a3 (c.map hW))),p,O (.cu (a.length+1)),b1,b1,O (.cu a.length),b1,b1,b1,b1]) (m:=hW) (e:=c) (fun d ae p af i h=>?_) fun p=>?_
 ·have Y:=(fJ.mp i).1
  apply aj;exact dK (en _ _ _)
  apply aj;exact uo (kM _ _ _ _) (v d)
  apply aj;exact on (t (uL (iG Y)))
  rw [FF,DZ]
  induction ae with
  |none=>exact RG i▸h _
  |some g=>
   apply aj;exact dK (kM _ _ _ _)
   apply aj;exact VI (v d)
   exact RI i▸h _
 apply aj;exact dK (en _ _ _)
 apply aj;exact uo (kM _ _ _ _) (v _)
 apply aj;exact on (t (fM _))
 rw [FF,DZ]
 have n:∀{o:Nat}{I:bS},o≤e.a2.length→jX cq (a++O (.a3 (FE c (c.length+1)))::I) (.cu a.length) (.f (.Z o))=O (.Z (c6 c o)):=fun {o I} aa=>zD (en _ _ _) (RF (A▸vM aa)) (t (dX _))
 have L:(c.filterMap id).length≤500:=cr (vN _ _) j
 apply aj;exact js (kM _ _ _ _)
 rw [zC,show kp c c.length=(c.filterMap id).map eR by unfold kp;(refine bT eO ?_;rfl)]
 apply aj;exact ef L
 refine iD eR (fun g=>eR (g.iY (c6 c))) (fun g X K j l=>?_) ?_
 ·apply aj;exact om _
  refine cD (fun f=>?_) fun f=>?_
  ·apply aj;refine bT (fi f) ?_;exact n (OO T g j f)
   refine pc x (lI ..) ?_
   rw [AA _ _ f] at l;exact l
  ·rw [J8 _ _ f] at l;exact l
 apply aj;exact RJ (by rw [et];exact cr L (by decide))
 apply aj;exact RK (fy _)
 apply aj;exact ef P
 refine qe (fun d=>a++[O (.a3 (FE c (c.length+1))),b1,O (.a3 ((c.filterMap id).map fun g=>eR (g.iY (c6 c)))),O (.a3 (ck e c d))]) (fun _ (f:Option bZ×Option bZ×Option bZ)=>[O (.f (cf k e)),O (.f (.a3 (c.map hW))),p,O (.cu (a.length+2)),O (.cu (a.length+3)),f.1,O (.cu a.length),f.2.1,f.2.2,b1,b1]) (a:=(b1,b1,b1)) (fun d u f af i h=>?_) fun f=>?_
 ·refine bU fun G=>?_
  obtain ⟨W,C,Q⟩:=y.b6 u (gj i)
  refine G ?_;try clear G
  apply aj;exact n (cr (iG W) C)
  apply aj;exact n C
  rw [RM i] at h
  refine cD (fun f=>?_) fun f=>?_
  ·have s:u.fI (c6 c)=O _:=if_pos (kY.mp (of_decide_eq_true f))
   rw [s] at h
   apply aj;exact dK (M1 _ _ _ _ _ _)
   apply aj;exact n Q
   refine pc x (Az ..) ?_
   apply aj;exact aaj (cr (Xy e c d) (cr P (by decide)))
   exact h (_,_,_)
  ·have s:u.fI (c6 c)=b1:=if_neg fun w=>of_decide_eq_false f (kY.mpr w)
   rw [s,kX] at h
   exact h (_,_,_)
 apply aj;exact js (zB _ _ _ _ _)
 rw [aaf]
 apply aj;exact js (M1 _ _ _ _ _ _)
 rw [VG]
 apply aj;exact ef q
 refine iD e8 (fun r=>e8 (c6 c r)) (fun r X K q l=>?_) ?_
 ·apply aj;exact n (y.cp r q)
  exact l
 apply aj;exact lh q
 refine pc x (q2 ..) (c8 (b:=ac) ?_ (jB _ _))
 rw [show ck e c e.b6.length=(e.b6.filterMap (Ct.fI (c6 c))).map k0 by unfold ck;(refine bT eO ?_;rfl)]
 unfold cf Cd.cX at m
 rw [lO] at m
 unfold cU at m
 rw [lO] at m
 exact m
end
def ny(a:Op):(a.cT==("jump":b4))=(a== .cI):=gp a .cI
def D2(a:Op):(a.cT==("leave":b4))=(a== .ew):=gp a .ew
def ip{a:Nat}(b:a≤100000):qM b2 (.f (.Z a))=O (dL a):=by
 unfold qM;refine bT (if_neg (by decide)) ?_;exact if_pos (cr b (by decide))
def li(a:Nat):(dL (a:Int)).length=a:=by unfold dL;(rewrite [et];refine bT pk ?_;rw [zm])
def hC{e:bS}{a:Cd}{c:Nat}{b:R}(f:a.a2[c]? =O b)(d:a.a2.length≤500):jX cq e (.f (.a3 (a.a2.map eR))) (.f (.Z c))=O (eR b):=hB f d
section
variable{d:Nat}{a:bS}{fz:Bool}
def OP{v:cK}(p:Hd)(c:Cd)(s:g0 c)(o:c.a2.length≤500){j:Nat}{K:KS}{l:Nat}(r:∀w,K (.cw (.f (.Z l))) w a)(u:l=j→∀b h,K .cc [O (.f (cf p c)),O (.f (.Z j)),O (.f (.Z b)),h] a):∀{g:List bl}{b:Nat}{h:Option bZ},b<c.a2.length→l=mJ c.a2 j g.length b→
  jZ (fG ⟨cq,v⟩ nu) [3] b2 K g [O (.f (cf p c)),O (.f (.Z j)),O (.f (.Z (b:Nat))),h] a:=by
 intro g
 induction g with
 |nil=>
  intro b h m f
  exact u f _ _
 |cons t g q=>
  intro b h m f
  have k:c.a2[b]? =O c.a2[b] :=gS m
  rw [lZ] at f
  unfold mJ at f
  simp only [k] at f
  apply aj;exact hC k o
  refine cD (fun e=>?_) fun e=>?_<;>rw [ny] at e
  ·rw [if_neg (by intro i;rw [i] at e;exact dy e)] at f
   exact f▸r _
  ·have e:c.a2[b].bV=.cI:=by
    cases i:c.a2[b].bV== .cI with
    |true=>exact dr i
    |false=>rw [i] at e;exact dy e
   rw [if_pos e] at f
   have n:c.a2[b].bV.b8=ar:=by refine bT e ?_;rfl
   apply aj;exact hC k o
   have:=q (h:=O (.f t)) (s _ (vR m) n) f
   rw [← fi n] at this
   exact this
def aak(h:Hd)(b:Cd)(k:g0 b){c:Nat}(m:c<b.a2.length)(e:b.a2.length≤500):PC (vC cq (d+1)) 23 [.f (cf h b),.f (.Z c)] (.Z (mr b.a2 c)):=pf rfl rfl rfl rfl fun o n a i l=>by
 have f:=c8 (b:=i) l (eO (l:=a))
 apply aj;exact eZ e
 apply aj;exact ip (cr e (by decide))
 refine OP h b k e (l:=mr b.a2 c) (fun g=>f) (fun j g g=>?_) m (by rw [li];rfl)
 rw [j] at f;exact f
def D3(b:List R):(b.map O).map hW=b.map eR:=lO
def FG(b:R)(c:Nat)(e:b.bV.b8=ar):eR {b with t:=c}=.gJ 0 [.ad b.bV.cT,.Z c,b.b,b.c,.Z b.e6] :=AA (fun f=>c) b e▸by unfold R.iY;(refine bT (if_pos e) ?_;rfl)
def yh(i:Hd)(b:Cd)(z:i3 b)(l:g0 b)(j:b.a2.length≤500)(Q:b.b6.length≤500)(R:b.cp.length≤500):PC (vC cq (d+4)) 24 [.f (cf i b)] (cf i (eo b)):=pf rfl rfl rfl rfl fun I h a L A=>by
 apply aj;exact g4 (fy _)
 apply aj;exact ef j
 refine qe (fun r=>a++[O (.a3 (((b.a2.take r).map (dE b.a2)).map eR))]) (fun _ (e:Option bZ×Option bZ)=>[O (.f (cf i b)),O (.cu a.length),e.1,e.2]) (a:=(b1,b1)) (fun r c e X x f=>?_) fun e=>?_
 ·have C:=gj x
  have n:(((b.a2.take r).map (dE b.a2)).map eR).length≤100000:=by
   rw [et,et];exact cr (yB ..) (cr j (by decide))
  rw [qC,x,LF,r8,r8,Ua,Ua] at f
  apply aj;exact E6 _
  refine cD (fun e=>?_) fun e=>?_
  ·have g:c.bV.b8=b2:=nN e
   have q:dE b.a2 c=c:=by unfold dE;rw [if_neg (by refine bT g ?_;decide)]
   apply aj;exact dK (en _ _ _)
   apply aj;exact on n
   exact q▸f (_,_)
  ·have g:c.bV.b8=ar:=pW e
   have s:=l c C g
   have F:=DO l s b.a2.length c.t s
   have v:b.a2[mr b.a2 c.t]? =O b.a2[mr b.a2 c.t] :=gS F
   have G:PC I 23 [.f (cf i b),.f (fa c)] (.Z (mr b.a2 c.t)):=by refine bT (fi g) ?_;exact h▸aak i b l s j
   refine pc rfl G ?_
   have p:∀{u:Bool},(c.bV== .cI&&gP b.a2 (mr b.a2 c.t))=u→dE b.a2 c=if u then .cE .ew 0 c.e6 else {c with t:=mr b.a2 c.t}:=fun {u} K=>by
    unfold dE;(refine bT (if_pos g) ?_;refine bT K ?_;rfl)
   have w:gP b.a2 (mr b.a2 c.t)=(b.a2[mr b.a2 c.t].bV== .ew):=by unfold gP;simp only [v]
   refine cD (fun e=>?_) fun e=>?_
   ·rw [ny] at e
    apply aj;exact hC v j
    refine cD (fun m=>?_) fun m=>?_<;>rw [D2] at m
    ·rw [p (u:=ar) (by (refine bT e ?_;refine bT w ?_;refine bT m ?_);rfl)] at f
     apply aj;exact dK (en _ _ _)
     refine pc h (o4 ..) ?_
     apply aj;exact on n
     exact f (_,_)
    ·rw [p (u:=b2) (by (refine bT e ?_;refine bT w ?_;refine bT m ?_);rfl),if_neg (by decide),FG _ _ g] at f
     apply aj;exact dK (en _ _ _)
     refine pc h (lI ..) ?_
     apply aj;exact on n
     exact f (_,_)
   ·refine ed e ?_
    rw [ny] at e
    rw [p (u:=b2) (by refine bT e ?_;rfl),if_neg (by decide),FG _ _ g] at f
    apply aj;exact dK (en _ _ _)
    refine pc h (lI ..) ?_
    apply aj;exact on n
    exact f (_,_)
 apply aj;exact js (en _ _ _)
 (rewrite [kk];refine bT eO ?_;rw [← D3])
 refine pc h (rx i b ((b.a2.map (dE b.a2)).map O) z (by rw [et,et]) (fun Y c h P=>?_) j Q R) (c8 (b:=L) A (jB _ _))
 refine bU fun k=>?_
 obtain ⟨W,q,o⟩:=o3 h
 refine k ?_;try clear k
 obtain rfl:=dg o
 refine bU fun k=>?_
 obtain ⟨T,y,o⟩:=o3 q
 refine k ?_;try clear k
 subst o
 exact iG (Fv l (gj y) P)
end
section
def wv{h:cV→bS→(Bool→bS→Prop)→Prop}{g:cV→bS→KS→Prop}{K:KS}(e:Nat→cV→bS→Prop)
  (q:∀(b:Nat)(a:cV)(c:bS)(l:cV→bS→Prop),e b a c→(∀(j:Nat)(m:cV)(i:bS),j<b→e j m i→l m i)→h a c (kWh g l K a)):∀{d b:Nat}{a:cV}{c:bS},e b a c→b<d→qb h g K d a c:=by
 intro d
 induction d with
 |zero=>
  intro _ _ _ _ f
  exact absurd f (tP _)
 |succ d p=>
  intro b a c n f
  exact q b a c _ n fun k k k r o=>p o (hH r (qk f))
noncomputable def ww(b:Nat)(a:Nat→Bool):Nat:=(f5 b).countP fun c=>!a c
def BI(a:Nat)(b:Nat→Bool):ww a b≤a:=by
 have:=T2 (p:=fun c=>!b c) (l:=f5 a)
 rw [pk] at this;exact this
def D4{c a:Nat}{d:Nat→Bool}(j:a<c)(i:d a=b2):ww c (fun b=>d b||a==b)+1=ww c d:=by
 unfold ww
 induction c with
 |zero=>lia
 |succ c g=>
  (refine bT vT ?_;refine bT Go ?_;refine bT Go ?_;refine bT Gk ?_;refine bT Gk ?_)
  by_cases e:a=c
  ·subst e
   have:(f5 a).countP (fun b=>!(d b||a==b))=(f5 a).countP fun b=>!d b:=by
    refine List.countP_congr fun b h=>?_
    have:=nf.mp h
    have:(a==b)=b2:=by simp;lia
    simp [this]
   (refine bT this ?_;refine bT i ?_)
   simp
  ·have:=g (by lia)
   have f:(a==c)=b2:=by simp;exact e
   simp only [f,vK] at this⊢
   lia
open Classical in
def j5(c:Cd)(p:Nat):Bool:=decide (cx c.nc p)
def ln(a:Cd)(b:Nat):j5 a b=ar↔cx a.nc b:=by simp [j5]
def ry(d:Cd)(b:Nat→Bool)(c:List Nat):Prop:=(∀a,b a=ar→cx d.nc a)∧(∀a∈c,cx d.nc a)∧(∀a∈d.cp,b a=ar∨a∈c)∧(∀(a:Nat)(e:R),b a=ar→d.a2[a]? =O e→(e.bV.b8=ar→b e.t=ar∨e.t∈c)∧(e.bV.dR=b2→b (a+1)=ar∨a+1∈c)∧∀f∈d.b6,f.c4 a=ar→b f.cP=ar∨f.cP∈c)
section
variable{b:Cd}{a:Nat→Bool}{c:List Nat}(d:ry b a c)
include d
def ry.pX:∀e,a e=ar→cx b.nc e:=d.1
def ry.rz:∀e∈c,cx b.nc e:=d.2.1
def ry.cp:∀e∈b.cp,a e=ar∨e∈c:=d.2.2.1
def ry.d9:∀(f:Nat)(e:R),a f=ar→b.a2[f]? =O e→(e.bV.b8=ar→a e.t=ar∨e.t∈c)∧(e.bV.dR=b2→a (f+1)=ar∨f+1∈c)∧∀g∈b.b6,g.c4 f=ar→a g.cP=ar∨g.cP∈c:=d.2.2.2
end
def ry.nz{g:Cd}{f:Nat→Bool}(d:ry g f []):∀e,f e=j5 g e:=fun e=>by
 rw [vJ,ln]
 refine ⟨d.pX e,fun h=>?_⟩
 induction h with
 |dH j=>exact (d.cp _ j).resolve_right (by simp)
 |lg _ a _=>exact absurd a (sY _)
 |eK _ a b c=>exact ((d.d9 _ _ c (dF.mp a)).2.1 b).resolve_right (by simp)
 |cI _ a b c=>exact ((d.d9 _ _ c (dF.mp a)).1 b).resolve_right (by simp)
 |dJ _ a i b c=>exact ((d.d9 _ _ c (dF.mp a)).2.2 _ i b).resolve_right (by simp)
def ry.Dn{i:Cd}{d:Nat→Bool}{e:List Nat}{h:Nat}(f:ry i d (e++[h]))(p:d h=ar):ry i d e:=by
 have g:∀b,d b=ar∨b∈e++[h] →d b=ar∨b∈e:=fun b a=>by
  rcases a with a|a
  ·exact .inl a
  ·rcases my.mp a with a|a
   ·exact .inr a
   ·simp at a;subst a;exact .inl p
 exact ⟨f.pX,fun b a=>f.rz b (ow _ a),fun b a=>g b (f.cp b a),fun b q m r=>by obtain ⟨o,n,k⟩:=f.d9 b q m r;exact ⟨fun c=>g _ (o c),fun c=>g _ (n c),fun c j l=>g _ (k c j l)⟩⟩
def ih(c:Cd)(b:Nat)(a:R):List Nat:=(if a.bV.b8 then [a.t] else [])++(if a.bV.dR then [] else [b+1])++(c.b6.filter (·.c4 b)).map (·.cP)
def J9(a:Cd)(b:Nat)(c:R):(ih a b c).length≤2+a.b6.length:=by
 unfold ih
 have:=r7 (fun d:Ct=>d.c4 b) a.b6
 (refine bT dZ ?_;refine bT dZ ?_;rw [et])
 split<;>split<;>simp<;>lia
def ry.wx{e:Cd}{m:Nat→Bool}{o:List Nat}{d:Nat}{p:R}(g:ry e m (o++[d]))(k:e.a2[d]? =O p):ry e (fun b=>m b||d==b) (o++ih e d p):=by
 have l:cx e.nc d:=g.rz d (by simp)
 have n:∀b,m b=ar∨b∈o++[d] →(m b||d==b)=ar∨b∈o++ih e d p:=fun b a=>by
  rcases a with a|a
  ·left;simp [a]
  ·rcases my.mp a with a|a
   ·exact .inr (ow _ a)
   ·simp at a;subst a;left;simp
 have u:∀b,b∈ih e d p→cx e.nc b:=fun b a=>by
  unfold ih at a
  rcases my.mp a with a|a
  ·rcases my.mp a with a|a
   ·split at a
    ·rename_i c;simp at a;subst a;exact .cI l (dF.mpr k) c
    ·cases a
   ·split at a
    ·cases a
    ·rename_i c;simp at a;subst a;exact .eK l (dF.mpr k) (by simpa using c)
  ·refine bU fun h=>?_
   obtain ⟨c,i,rfl⟩:=hJ.mp a
   obtain ⟨f,j⟩:=l3.mp i
   refine h ?_;try clear h
   exact .dJ l (dF.mpr k) f j
 refine ⟨fun b a=>?_,fun b a=>?_,fun b a=>n b (g.cp b a),fun b r f j=>?_⟩
 ·simp only [LL,beq_iff_eq] at a
  rcases a with a|rfl
  ·exact g.pX b a
  ·exact l
 ·rcases my.mp a with a|a
  ·exact g.rz b (ow _ a)
  ·exact u b a
 ·simp only [LL,beq_iff_eq] at f
  rcases f with f|rfl
  ·refine bU fun h=>?_
   obtain ⟨t,v,s⟩:=g.d9 b r f j
   refine h ?_;try clear h
   exact ⟨fun c=>n _ (t c),fun c=>n _ (v c),fun c i q=>n _ (s c i q)⟩
  ·rw [k] at j;obtain rfl:=dg j
   refine ⟨fun c=>.inr (nU _ ?_),fun c=>.inr (nU _ ?_),fun c i q=>.inr (nU _ ?_)⟩
   ·unfold ih;refine bT (if_pos c) ?_;simp
   ·unfold ih;refine bT c ?_;simp
   ·unfold ih
    exact nU _ (hJ.mpr ⟨c,l3.mpr ⟨i,q⟩,rfl⟩)
def Xz{c:Type}{d:c→bl}{b:bS}{a:List c}(e:a.length≤500):eW b b2 1 [.f (.a3 (a.map d))] =O (.cu b.length,b++[O (.a3 (a.map d))]):=aag e
def RN{d:Type}{b:d→bl}{c:bS}{e:Option dw}{a:List d}(f:a.length≤500):eW (c++[e]) b2 1 [.f (.a3 (a.map b))] =O (.cu (c.length+1),c++[e,O (.a3 (a.map b))]):=
 qQ (et b (as:=a)▸cr f (by decide))
def tE{a:List Nat}(b:a.length≤1100):(cU a).length≤100000:=et e8 (as:=a)▸cr b (by decide)
def VJ{c:bS}{e:Option dw}{a:List Nat}{b:Nat}{g:bS}(j:(a++[b]).length≤1100):jk cq (c++e::O (.a3 (cU (a++[b])))::g) .gy (.cu (c.length+1)) [] =O (.f (.Z b),c++e::O (.a3 (cU a))::g):=by
 have i:=tE j
 have f:(cU (a++[b])).length=a.length+1:=by (rewrite [et];refine bT dZ ?_);rfl
 have d:cU (a++[b])=cU a++[b].map e8:=r8
 have h:(cU a++[b].map e8)[a.length]? =O (.Z b):=by
  rw [la (by rw [et];exact dX _),et,pg];rfl
 rw [VH (kM _ _ _ _) i (by (refine bT f ?_;rewrite [Gc];refine bT d ?_);exact h),zC,f,Gc,d,LZ (by rw [et];exact dX _),et,pg]
 (refine bT (show ([b].map e8).eraseIdx 0=[] from rfl) ?_;rw [kX])
section
variable{b:Nat}{a:bS}{fz:Bool}
def Hj{d:Option dw}{c:List Nat}{f:Nat}{e:bS}(g:c.length≤1100):jk cq (a++d::O (.a3 (cU c))::e) .eJ (.cu (a.length+1)) [.f (.Z f)] =O (.f .bX,a++d::O (.a3 (cU (c++[f])))::e):=by
 (refine bT (VI (tE g)) ?_;rw [py])
def RO{a:bS}{f c d:Nat}{e:Nat→Bool}(h:a[f]? =O (O (DV c e)))(i:d<c)(g:c≤1000):jX cq a (.cu f) (.f (.Z d))=O (.b3 (e d)):=
 zD h (IV i) (by rw [BG];exact cr g (by decide))
def VK{d:Option dw}{c:List Nat}{e:bS}(f:c.length≤1100):eW (a++d::O (.a3 (cU c))::e) fz 0 [.cu (a.length+1)] =O (.f (.Z c.length),a++d::O (.a3 (cU c))::e):=by
 (refine bT (uo (kM _ _ _ _) (tE f)) ?_;rw [et])
def FJ{d e c:Nat}(g:d+1+e≤c):c-1<c∧d+e≤c-1:=
 have f:d+e<c:=hH (Nat.add_lt_add_right (h9 d) e) g
 ⟨Gh (Gd f) Gg,LO f⟩
def XA{e f h c d g:Nat}(j:e+1+c≤g)(k:c=d+(3+h))(i:f≤2+h):e+f+d≤g-1:=WP j k i
def Ka(m:Hd)(c:Cd){az:Bool}(ai:gk c az)(s:c.a2.length≤20)(T:c.b6.length≤8)(af:c.cp.length≤8):PC (vC cq (b+2)) 25 [.f (cf m c)] (.a3 ((f5 c.a2.length).map fun d=>.b3 (j5 c d))):=pf rfl rfl rfl rfl fun y aC a ao al=>by
 obtain ⟨aF,aB⟩:=ai.gK
 have ay:∀e,cx c.nc e→e<c.a2.length:=fun e f=>by
  have:=aB.kJ e f
  unfold Cd.nc at this;rw [et] at this;exact this
 have ac:c.a2.length≤500:=cr s (by decide)
 apply aj;exact eZ ac
 apply aj;exact (u4 _ _ (cr s (by decide))).trans (IX (cr s (by decide)))
 apply aj;exact RN (cr af (by decide))
 have ab:c.cp.length+(3+c.b6.length)*c.a2.length≤500:=by
  exact cr (pH af (Gf (jq T 3) s)) (by decide)
 refine wv (fun o aa X=>∃(h:Nat→Bool)(p:List Nat)(w t f:Option bZ),aa=[O (.f (cf m c)),O (.cu a.length),O (.cu (a.length+1)),w,t,f] ∧X=a++[O (DV c.a2.length h),O (.a3 (cU p))] ∧ry c h p∧p.length+(3+c.b6.length)*ww c.a2.length h≤o∧o≤500) (fun o aa X R ag n=>?_)
  ⟨_,c.cp,_,_,_,rfl,rfl,⟨fun d i=>(by exact dy i),fun d i=>.dH i,fun d i=>.inr i,fun d aG i=>(by exact dy i)⟩,jq (v9 _ (BI _ _)) _,ab⟩ (kT ab (by decide))
 refine bU fun ae=>?_
 obtain ⟨h,p,w,t,f,rfl,rfl,x,r,G⟩:=ag
 refine ae ?_;try clear ae
 have g:p.length≤500:=cr (fg _ _) (cr r G)
 have v:∀{Y:Nat},Y≤600→Y≤1100:=fun m=>cr m (by decide)
 apply aj;exact VK (v (cr g (by decide)))
 refine cD (fun l=>?_) fun l=>?_
 ·have l:=of_decide_eq_true l
  rcases T3 p with rfl|⟨P,d,rfl⟩
  ·exact absurd l (by decide)
  rw [T4] at*
  rw [dZ,uM] at g r
  have i:=ay d (x.rz d (nU _ fD))
  have W:c.a2[d]? =O c.a2[d] :=gS i
  apply aj;exact mY (kM _ _ _ _)
  apply aj;exact VJ (by (refine bT dZ ?_;refine bT uM ?_);exact v (cr g (by decide)))
  apply aj;exact RO (en _ _ _) i (cr s (by decide))
  refine cD (fun Q=>?_) fun Q=>?_
  ·exact n (o-1) _ _ (FJ r).1 ⟨h,P,_,_,_,rfl,rfl,x.Dn Q,(FJ r).2,cr (y8 o 1) G⟩
  apply aj;exact IW (en _ _ _) i (cr s (by decide))
  rw [kk]
  apply aj;exact hC W ac
  have aq:=J9 c d c.a2[d]
  have av:=D4 i Q
  have ak:∀(C:List Nat)(w t f:Option bZ),C=P++ih c d c.a2[d] →R [O (.f (cf m c)),O (.cu a.length),O (.cu (a.length+1)),w,t,f] (a++[O (DV c.a2.length fun e=>h e||d==e),O (.a3 (cU C))]):=fun C w t f ah=>by
   subst ah
   refine n (o-1) _ _ (FJ r).1 ⟨_,_,_,_,_,rfl,rfl,x.wx W,?_,cr (y8 o 1) G⟩
   refine bT dZ ?_
   have u:(3+c.b6.length)*ww c.a2.length h=(3+c.b6.length)*ww c.a2.length (fun e=>h e||d==e)+(3+c.b6.length):=by (refine gT av ?_;rw [y7])
   exact XA r u aq
  have aD:∀(j:List Nat)(K:KS)(f:Option bZ),j.length≤600→(∀f,K .cc [O (.f (cf m c)),O (.cu a.length),O (.cu (a.length+1)),O (.f (.Z d)),O (.f (eR c.a2[d])),f] (a++[O (DV c.a2.length fun e=>h e||d==e),O (.a3 (cU (j++(c.b6.filter (·.c4 d)).map (·.cP))))]))→
    jZ (fG ⟨cq,y⟩ lF) [5] b2 K (c.b6.map k0) [O (.f (cf m c)),O (.cu a.length),O (.cu (a.length+1)),O (.f (.Z d)),O (.f (eR c.a2[d])),f] (a++[O (DV c.a2.length fun e=>h e||d==e),O (.a3 (cU j))]):=fun j K f I aw=>by
   have:=qe (K:=K) (j:=fG ⟨cq,y⟩ lF) (k:=[5]) (l:=b2) (m:=k0) (e:=c.b6) (a:=f) (fun L=>a++[O (DV c.a2.length fun e=>h e||d==e),O (.a3 (cU (j++((c.b6.take L).filter (·.c4 d)).map (·.cP))))]) (fun aE f=>[O (.f (cf m c)),O (.cu a.length),O (.cu (a.length+1)),O (.f (.Z d)),O (.f (eR c.a2[d])),f]) (fun L z f R aA n=>?_) (by refine bT eO ?_;exact aw)
   ·rw [Mf,Gq,Ck,kX] at this
    exact this
   refine pc aC (DY z d) ?_
   rw [qC,aA,LF,List.filter_append,r8,← m8] at n
   refine cD (fun l=>?_) fun l=>?_
   ·apply aj;exact dK (kM _ _ _ _)
    have an:((c.b6.take L).filter (·.c4 d)).length≤c.b6.length:=cr (r7 _ _) (yB ..)
    apply aj;exact Hj (by (refine bT dZ ?_;rw [et]);exact cr (pH I (cr an T)) (by decide))
    have u:([z].filter (·.c4 d)).map (·.cP)=[z.cP] :=by simp only [Ud,l,if_true,Gq];rfl
    rw [u] at n
    exact n _
   ·have u:([z].filter (·.c4 d)).map (·.cP)=[] :=by simp only [Ud,l,Bool.false_eq_true,if_false,Gq];rfl
    rw [u,kX] at n
    exact n _
  have k:∀(j:List Nat)(K:KS)(f:Option bZ),j.length≤600→j++(c.b6.filter (·.c4 d)).map (·.cP)=P++ih c d c.a2[d] →jZ (fG ⟨cq,y⟩ lF) [5] b2 (Dk (fG ⟨cq,y⟩ .N) (jQ R K)) (c.b6.map k0) [O (.f (cf m c)),O (.cu a.length),O (.cu (a.length+1)),O (.f (.Z d)),O (.f (eR c.a2[d])),f] (a++[O (DV c.a2.length fun e=>h e||d==e),O (.a3 (cU j))]):=fun j K f I am=>
   aD j _ f I fun f=>ak _ _ _ _ am
  have A:sn (c.b6.map k0).length 100000=O ():=ef (cr T (by decide))
  unfold ih at k
  apply aj;exact om _
  refine cD (fun F=>?_) fun F=>?_<;>rw [F] at k
  ·apply aj;exact dK (kM _ _ _ _)
   apply aj;refine bT (fi F) ?_;exact Hj (v (cr (lC g) (by decide)))
   apply aj;exact sH _
   refine cD (fun q=>?_) fun q=>?_
   ·rw [nN q] at k
    apply aj;exact dK (kM _ _ _ _)
    apply aj;exact Hj (by (refine bT dZ ?_;refine bT uM ?_);exact v (cr g (by decide)))
    apply aj;exact A
    exact k _ _ _ (by simp only [dZ,uM];exact cr (iF (cr (by first|exact g|exact Nat.le_of_succ_le g) (by decide:500≤598))) (by decide)) (by simp)
   ·rw [pW q] at k
    apply aj;exact A
    exact k _ _ _ (by simp only [dZ,uM];exact cr (iF (cr (by first|exact g|exact lC g) (by decide:500≤598))) (by decide)) (by simp)
  ·apply aj;exact sH _
   refine cD (fun q=>?_) fun q=>?_
   ·rw [nN q] at k
    apply aj;exact dK (kM _ _ _ _)
    apply aj;exact Hj (v (cr (lC g) (by decide)))
    apply aj;exact A
    exact k _ _ _ (by simp only [dZ,uM];exact cr (iF (cr (by first|exact g|exact lC g) (by decide:500≤598))) (by decide)) (by simp)
   ·rw [pW q] at k
    apply aj;exact A
    exact k _ _ _ (cr (lC g) (by decide)) (by simp)
 ·have l:=of_decide_eq_false l
  have:p=[] :=List.eq_nil_of_length_eq_zero (by lia)
  subst this
  apply aj;exact js (en _ _ _)
  rw [kk]
  have au:h=j5 c:=funext x.nz
  subst au
  exact c8 (b:=ao) al (jB _ _)
end
end
def Kb(b a:Nat):dL ((b:Int)-a)=dL ((b-a:Nat):Int):=by
 unfold dL
 rw [Int.toNat_sub,zm]
def E7{b a:Nat}(d:b≤500)(c:a≤500):qM b2 (.f (.Z ((b:Int)-a)))=O (dL ((b-a:Nat):Int)):=by
 unfold qM;(refine bT (if_neg (by decide)) ?_;rw [← Kb]);exact if_pos (ZH d c)
noncomputable def yi(a:Option R)(b:Op→Bool):Bool:=match a with
 |some c=>b c.bV
 |none=>b2
def u5{e:Nat}(b:Option R){a:List bl}{c:Op→Bool}(f:(fu.all fun d=>eA (ic (.ad d.cT) a) (c d))=ar):PC (vC cq (e+1)) 19 [.f (hW b),.f (.cQ a)] (.b3 (yi b c)):=Rz b a c f
def VL:(fu.all fun a=>eA (ic (.ad a.cT) [.ad "pop"]) (a== .gy))=ar:=by kernel_rfl
def VM:(fu.all fun a=>eA (ic (.ad a.cT) [.ad "dup"]) (a== .kq))=ar:=by kernel_rfl
def NE:(fu.all fun a=>eA (ic (.ad a.cT) [.ad "swap"]) (a== .dt))=ar:=by kernel_rfl
def XB:(fu.all fun a=>eA (ic (.ad a.cT) [.ad "push"]) (a== .d0))=ar:=by kernel_rfl
def NF:(fu.all fun a=>eA (ic (.ad a.cT) [.ad "jump"]) (a== .cI))=ar:=by kernel_rfl
def OQ(b:cb)(c:Nat)(a:Option R):(b.map hW).set c (hW a)=(b.set c a).map hW:=List.map_set.symm
def CS(a:Cd):bl:=.a3 ((f5 (a.a2.length+1)).map fun b=>.b3 (a.c2 b))
section
variable{b:Nat}{a:bS}{fz:Bool}
def oo{c:Cd}{d:Nat}(f:d≤c.a2.length)(e:c.a2.length≤500):jX cq a (.f (CS c)) (.f (.Z d))=O (.b3 (c.c2 d)):=
 qu (IV (vM f)) (by rw [BG];exact cr (iF e) (by decide))
def lx{c:cb}{d:Nat}{e:bS}(g:d<c.length)(f:c.length≤500):jX cq (a++O (.a3 (c.map hW))::e) (.cu a.length) (.f (.Z d))=O (hW c[d]):=
 zD (en _ _ _) (by rw [i4,gS g];rfl) (by rw [et];exact cr f (by decide))
def qR{c:cb}{d:Nat}{e:bS}(f:Option R)(h:d<c.length)(g:c.length≤500):l4 (a++O (.a3 (c.map hW))::e) (.cu a.length) (.f (.Z d)) (.f (hW f))=O (a++O (.a3 ((c.set d f).map hW))::e):=by
 rw [FD (en _ _ _) (by rw [et];exact h) (by rw [et];exact cr g (by decide)),kk,OQ]
def hU{c:cb}{d:Nat}{e:bS}(g:d<c.length)(f:c.length≤500):l4 (a++O (.a3 (c.map hW))::e) (.cu a.length) (.f (.Z d)) (.f .bX)=O (a++O (.a3 ((c.set d b1).map hW))::e):=qR b1 g f
def wy{g:Cd}{c:cb}{d:Nat}{e:R→R→Option cb}(f:d+1<c.length):j4 g c d e=match c[d],c[d+1] with|some i,O h=>if g.c2 (d+1) then c else (e i h).getD c|_,_=>c:=by
 unfold j4
 rw [gS f,gS (q8 f)]
 rfl
def acb(h:Hd)(c:Cd)(o:cK)(a:bS)(m:cW)(j k:Nat)(l:cb→Nat→cb)(n:Nat→cb→Prop):Prop:=∀(e:cb)(d:Nat)(f:cV)(g:cV→bS→Prop)(K:KS),f.length=j→e.length=c.a2.length→d+k<c.a2.length→n d e→
 (∀i:cV,i.length=j→g (O (.f (cf h c))::O (.f (.Z d))::O (.cu a.length)::O (.f (CS c))::i) (a++[O (.a3 ((l e d).map hW))]))→
 fG ⟨cq,o⟩ m (O (.f (cf h c))::O (.f (.Z d))::O (.cu a.length)::O (.f (CS c))::f) (a++[O (.a3 (e.map hW))]) (jQ g K)
def xc{i:cK}(u:i=vC cq (b+3))(g:Hd)(c:Cd){e:Cd→cb→Nat→cb}{p:cW}{f o:Nat}(s:i3 c)(j:c.a2.length≤500)(v:c.b6.length≤500)(w:c.cp.length≤500)(Q:f≤2)(P:∀(k:cb)(K:Nat),(e c k K).length=k.length)
  {l:Nat→cb→Prop} (F:l 0 (c.a2.map O)) (y:∀d k,d<c.a2.length-f→l d k→l (d+1) (e c k d)) (C:∀(Y:Nat)(q:R),(dk c e (c.a2.length-f))[Y]? =O (O q)→q.bV.b8=ar→q.t≤c.a2.length)
  (ab:acb g c i a p o f (e c) l) (n:KE) (A:n (.f (cf g (c.cX (dk c e (c.a2.length-f))))) a):
  fG ⟨cq,i⟩ (.J (.ep [2,3] (.J (.b0 b2 (.b5 9) (.J (.bY (.bW 0) "rows") .N)) (.J (.b0 ar (.b5 27) (.J (.bW 0) .N)) .N)))
   (.J (.fT [1] b2 (.gb (.eD ar .fw (.b0 ar (.b5 12) (.J (.bW 2) .N)) (.Z f))) p) (.J (.cw (.b0 ar (.b5 25) (.J (.bW 0) (.J (.pR (.bW 2)) .N)))) .N)))
   (O (.f (cf g c))::b1::b1::b1::ky o b1) a (lG b2 a.length n):=by
 apply aj;exact Xz j
 refine pc u (RD g c s j v w) ?_
 rw [← D3]
 have t:∀d,(dk c e d).length=c.a2.length:=fun d=>dN P d
 have T:((c.a2.map O).map hW).length≤100000:=by rw [et,et];exact cr j (by decide)
 apply aj;exact uo (en _ _ _) T
 rw [et,et]
 apply aj;exact E7 j (cr Q (by decide))
 have x:∀d,d≤c.a2.length-f→l d (dk c e d):=fun d m=>by
  induction d with
  |zero=>exact F
  |succ d z=>
   have r:dk c e (d+1)=e c (dk c e d) d:=by
    unfold dk;(refine bT vT ?_;refine bT tR ?_);rfl
   exact r▸y d _ m (z (lC m))
 have G:=Xt (K:=Dk (fG ⟨cq,i⟩ (.J (.cw (.b0 ar (.b5 25) (.J (.bW 0) (.J (.pR (.bW 2)) .N)))) .N)) (lG b2 a.length n)) (h:=fG ⟨cq,i⟩ p) (j:=[1]) (l:=b2) (c:=c.a2.length-f) (fun d=>a++[O (.a3 ((dk c e d).map hW))]) (fun d (h:Option bZ×{W:cV // W.length=o})=>O (.f (cf g c))::h.1::O (.cu a.length)::O (.f (CS c))::h.2.1) (b:=(b1,⟨ky o b1,L2⟩)) (fun d h X m L=>?_) (fun h=>?_)
 ·exact G
 ·refine ab (dk c e d) d h.2.1 X _ h.2.2 (t d) (Tz m) (x d (iG m)) fun I aa=>?_
  have r:dk c e (d+1)=e c (dk c e d) d:=by
   unfold dk;(refine bT vT ?_;refine bT tR ?_);rfl
  refine gT r ?_
  exact L (_,⟨I,aa⟩)
 ·apply aj;exact js (en _ _ _)
  rw [kk]
  exact pc u (rx g c (dk c e (c.a2.length-f)) s (t _) C j v w) (c8 (b:=n) A (jB _ _))
def qv{d:Cd}{k:Bool}{l:Nat}{e:cb}(h:gn d k l e)(j:i3 d)(f:Nat)(c:R)(n:e[f]? =O (O c))(g:c.bV.b8=ar):c.t≤d.a2.length:=(h.iV f c n g).elim (IQ j) fun i=>i.elim fun o m=>TB (fJ.mp m.1).1
def FK{d:Type}{c:List d}(e:c.length=0):c=[] :=TV.mp e
def RP{e:Cd}{d:cb}{c:Nat}(i:c+1<d.length):gM e d c=bif yi d[c] Op.i6&&(yi d[c+1] (· == .gy)&& !e.c2 (c+1)) then fb d c b1 b1 else d:=by
 unfold gM
 refine bT (wy i) ?_
 cases d[c] with
 |none=>rfl
 |some f=>cases d[c+1] with
  |none=>cases g:f.bV.i6<;>simp only [yi,g] <;>rfl
  |some h=>simp only [yi];cases e.c2 (c+1)<;>cases f.bV.i6<;>cases h.bV== .gy<;>rfl
def D5(l:Hd)(e:Cd){v:Bool}(r:gk e v)(n:i3 e)(k:e.a2.length≤500)(w:e.b6.length≤500)(x:e.cp.length≤500):PC (vC cq (b+4)) 27 [.f (cf l e)] (cf l (eX e)):=pf rfl rfl rfl rfl fun y m a t s=>by
 refine xc (o:=0) (f:=1) m l e (e:=gM) n k w x (by decide) oi (l:=fun g g=>True) trivial (fun g g g g=>trivial) (qv (qX r _) n) (fun h f z A K u p q g d=>?_) t s
 obtain rfl:=FK u
 have i:f+1<h.length:=p▸q
 have o:f<h.length:=q8 i
 have j:h.length≤500:=p▸k
 rw [RP i] at d
 apply aj;exact lx o j
 refine pc m (u5 h[f] BE) ?_
 refine cD (fun c=>?_) fun c=>?_
 ·rw [c] at d
  apply aj;exact lx i j
  refine pc m (u5 h[f+1] VL) ?_
  refine cD (fun c=>?_) fun c=>?_
  ·rw [c] at d
   apply aj;exact oo (iG q) k
   refine cD (fun c=>?_) fun c=>?_
   ·rw [nN c] at d
    apply aj;exact hU o j
    apply aj;exact hU (c:=h.set f b1) (d:=f+1) (by refine bT m9 ?_;exact i) (by refine bT m9 ?_;exact j)
    exact d [] rfl
   ·rw [pW c] at d;exact d [] rfl
  ·rw [c] at d;exact ed c (d [] rfl)
 ·rw [c] at d;exact ed c (d [] rfl)
end
def z3{a:cb}{b:Nat}{c:R}(e:b<a.length)(d:a[b] =O c):a.set b (O c)=a:=by
 refine gT d ?_;exact T1 e
def RQ{c:Cd}{b:cb}{a:Nat}(e:a+1<b.length):gN c b a=bif yi b[a+1] (· == .dt)&& !c.c2 (a+1) then (bif yi b[a] (· == .dt) then fb b a b1 b1 else bif yi b[a] (· == .kq) then b.set (a+1) b1 else b) else b:=by
 have i:=q8 e
 unfold gN
 refine bT (wy e) ?_
 cases h:b[a] with
 |none=>cases yi b[a+1] (· == .dt)&& !c.c2 (a+1)<;>rfl
 |some d=>
  have f:fb b a (O d) b1=b.set (a+1) b1:=by unfold fb;(refine bT (z3 i h) ?_;rfl)
  cases b[a+1] with
  |none=>rfl
  |some g=>simp only [yi,f];cases c.c2 (a+1)<;>cases d.bV== .dt<;>cases d.bV== .kq<;>cases g.bV== .dt<;>rfl
def OR{c:Cd}{b:cb}{a:Nat}(g:a+2<b.length):fW c b a=bif yi b[a] (· == .kq)&&(yi b[a+1] Op.fQ&&yi b[a+2] (· == .gy)) then (bif !c.c2 (a+1)&& !c.c2 (a+2) then (b.set a b1).set (a+2) b1 else b) else b:=by
 have d:a+1<b.length:=q8 g
 have l:a<b.length:=q8 d
 unfold fW
 (rewrite [gS g,gS d,gS l];refine bT LG ?_;refine bT LG ?_;refine bT LG ?_)
 cases b[a] with
 |none=>rfl
 |some f=>
  cases k:b[a+1] with
  |none=>cases h:f.bV== .kq<;>simp only [yi,h] <;>rfl
  |some e=>
   have i:=Rq (d:=b) (a:=a) (e:=e) (by (rewrite [gS d];refine bT k ?_;rfl))
   cases b[a+2] with
   |none=>simp only [yi];cases f.bV== .kq<;>cases e.bV.fQ<;>rfl
   |some j=>simp only [yi,i];cases c.c2 (a+1)<;>cases c.c2 (a+2)<;>cases f.bV== .kq<;>cases e.bV.fQ<;>cases j.bV== .gy<;>rfl
section
variable{b:Nat}{a:bS}{fz:Bool}
def IY(n:Hd)(e:Cd){v:Bool}(r:gk e v)(o:i3 e)(m:e.a2.length≤500)(w:e.b6.length≤500)(x:e.cp.length≤500):PC (vC cq (b+4)) 33 [.f (cf n e)] (cf n (fZ e)):=pf rfl rfl rfl rfl fun y k a t s=>by
 refine xc (o:=0) (f:=1) k n e (e:=gN) o m w x (by decide) qs (l:=fun i i=>True) trivial (fun i i i i=>trivial) (qv (sF r _) o) (fun g f z A K u p q i d=>?_) t s
 obtain rfl:=FK u
 have j:f+1<g.length:=p▸q
 have l:f<g.length:=q8 j
 have h:g.length≤500:=p▸m
 rw [RQ j] at d
 apply aj;exact lx j h
 refine pc k (u5 g[f+1] NE) ?_
 refine cD (fun c=>?_) fun c=>?_
 ·rw [nN c] at d
  exact gL c (d [] rfl)
 ·rw [pW c] at d
  apply aj;exact oo (iG q) m
  refine cD (fun c=>?_) fun c=>?_
  ·rw [c] at d;exact d [] rfl
  ·rw [c] at d
   apply aj;exact lx l h
   refine pc k (u5 g[f] NE) ?_
   refine cD (fun c=>?_) fun c=>?_
   ·rw [c] at d
    apply aj;exact hU l h
    apply aj;exact hU (c:=g.set f b1) (d:=f+1) (by refine bT m9 ?_;exact j) (by refine bT m9 ?_;exact h)
    exact d [] rfl
   ·rw [c] at d
    apply aj;exact lx l h
    refine pc k (u5 g[f] VM) ?_
    refine cD (fun c=>?_) fun c=>?_
    ·rw [c] at d
     apply aj;exact hU j h
     exact d [] rfl
    ·rw [c] at d;exact d [] rfl
def D6(m:Hd)(e:Cd){w:Bool}(s:gk e w)(p:i3 e)(k:e.a2.length≤500)(x:e.b6.length≤500)(y:e.cp.length≤500):PC (vC cq (b+4)) 28 [.f (cf m e)] (cf m (ff e)):=pf rfl rfl rfl rfl fun z l a u t=>by
 refine xc (o:=0) (f:=2) l m e (e:=fW) p k x y (by decide) oj (l:=fun h h=>True) trivial (fun h h h h=>trivial) (qv (qZ s _) p) (fun g f A C K v r n h d=>?_) u t
 obtain rfl:=FK v
 have j:f+2<g.length:=r▸n
 have o:f+1<g.length:=q8 j
 have q:f<g.length:=q8 o
 have i:g.length≤500:=r▸k
 rw [OR j] at d
 apply aj;exact lx q i
 refine pc l (u5 g[f] VM) ?_
 refine cD (fun c=>?_) fun c=>?_<;>rw [c] at d
 ·apply aj;exact lx o i
  refine pc l (u5 g[f+1] xO) ?_
  refine cD (fun c=>?_) fun c=>?_<;>rw [c] at d
  ·apply aj;exact lx j i
   refine pc l (u5 g[f+2] VL) ?_
   refine cD (fun c=>?_) fun c=>?_<;>rw [c] at d
   ·apply aj;exact oo (iG (q8 n)) k
    refine cD (fun c=>?_) fun c=>?_
    ·rw [nN c] at d
     apply aj;exact oo (iG n) k
     refine cD (fun c=>?_) fun c=>?_
     ·rw [nN c] at d
      apply aj;exact hU q i
      apply aj;exact hU (c:=g.set f b1) (d:=f+2) (by refine bT m9 ?_;exact j) (by refine bT m9 ?_;exact i)
      exact d [] rfl
     ·rw [pW c] at d;exact d [] rfl
    ·rw [pW c] at d;exact ed c (d [] rfl)
   ·exact d [] rfl
  ·exact ed c (d [] rfl)
 ·exact ed c (d [] rfl)
end
def AB(a:Op):(a.cT==("jumpif":b4))=(a== .hV):=gp a .hV
def sZ(b a:Nat):((b:Int)==(a:Int))=(b==a):=by
 rw [vJ,beq_iff_eq,beq_iff_eq];exact UK
def Hk(e:Cd)(b:cb)(c:Nat):Option R→Option R→cb
 |some a,O d=>bif a.bV.cg&&(d.bV== .cI&&(a.t==c+2&& !e.c2 (c+1))) then fb b c (O (.cE a.bV.fN d.t a.e6)) b1 else b
 |_,_=>b
def D7{e:Cd}{c:cb}{b:Nat}{a d:R}:Hk e c b (O a) (O d)=bif a.bV.cg&&(d.bV== .cI&&(a.t==b+2&& !e.c2 (b+1))) then fb c b (O (.cE a.bV.fN d.t a.e6)) b1 else c:=rfl
def RR{c:Cd}{b:cb}{a:Nat}(h:a+1<b.length):gO c b a=Hk c b a b[a] b[a+1] :=by
 unfold gO Hk
 refine bT (wy h) ?_
 cases b[a] with
 |none=>rfl
 |some d=>cases b[a+1] with
  |none=>rfl
  |some g=>cases c.c2 (a+1)<;>cases e:d.bV.cg<;>cases i:g.bV== .cI<;>cases f:d.t==a+2<;>simp only [e,i,f] <;>rfl
def OS{a:Op}(d:a.cg=ar)(c:Nat)(b:Int):hW (O (R.cE a.fN c b))=.gJ 0 [.ad a.fN.cT,.Z c,.bX,.bX,.Z b] :=by
 exact lU (b:=fun a=>hW (O (R.cE a.fN c b))=.gJ 0 [.ad a.fN.cT,.Z c,.bX,.bX,.Z b]) d rfl rfl
section
variable{b:Nat}{a:bS}{fz:Bool}
def D8(u:Hd)(f:Cd){W:Bool}(G:gk f W)(x:i3 f)(t:f.a2.length≤500)(aa:f.b6.length≤500)(ab:f.cp.length≤500):PC (vC cq (b+4)) 31 [.f (cf u f)] (cf u (fq f)):=pf rfl rfl rfl rfl fun P q a Q I=>by
 refine xc (o:=3) (f:=1) q u f (e:=gO) x t aa ab (by decide) qt (l:=fun l l=>True) trivial (fun l l l l=>trivial) (qv (qY G _).1 x) (fun h e af ag K v z F l c=>?_) Q I
 refine bU fun A=>?_
 obtain ⟨p,ac,ae,rfl⟩:=WT v
 refine A ?_;try clear A
 have m:e+1<h.length:=z▸F
 have r:e<h.length:=q8 m
 have k:h.length≤500:=z▸t
 rw [RR m] at c
 apply aj;exact lx r k
 apply aj;exact lx m k
 refine pc q (u5 h[e] px) ?_
 generalize h[e] =T at c⊢
 generalize h[e+1] =n at c⊢
 induction T with
 |none=>exact c [_,_,_] rfl
 |some d=>
 refine cD (fun j=>?_) fun j=>?_
 ·refine pc q (u5 n NF) ?_
  induction n with
  |none=>exact c [_,_,_] rfl
  |some i=>
  rw [D7,show d.bV.cg=ar from j] at c
  refine cD (fun o=>?_) fun o=>?_<;>rw [show (i.bV== .cI)=_ from o] at c
  ·have Y:d.bV.b8=ar:=(rm j)
   have X:fa i=.Z i.t:=fi (by refine bT (dr (show (i.bV== .cI)=ar from o)) ?_;rfl)
   apply aj (b:=fh cq _ .cZ (.f (fa d)) _) (c:=d.t==e+2);refine bT (fi Y) ?_;exact congrArg O (sZ d.t (e+2))
   refine cD (fun s=>?_) fun s=>?_<;>rw [s] at c
   ·apply aj;exact oo (iG F) t
    refine cD (fun g=>?_) fun g=>?_
    ·rw [nN g] at c
     have y:∀(p:b4),d.bV.fN.cT=p→PC P 1000 [.f (.ad p),.f (fa i),.f .bX,.f .bX,.f (.Z d.e6)] (hW (O (R.cE d.bV.fN i.t d.e6))):=fun p v=>by
      (rewrite [OS j];refine bT v ?_;refine bT X ?_;refine bT q ?_);exact o4 ..
     refine cD (fun g=>?_) fun g=>?_<;>rw [AB] at g
     ·refine pc rfl (y "jumpunless" (by refine bT (dr g) ?_;rfl)) ?_
      apply aj;exact qR _ r k
      apply aj;exact hU (d:=e+1) (by refine bT m9 ?_;exact m) (by refine bT m9 ?_;exact k)
      exact c [_,_,_] rfl
     ·have w:d.bV=.e5:=(lU (b:=fun C=>C=.hV∨C=.e5) j (.inl rfl) (.inr rfl)).resolve_left fun w=>by rw [w] at g;exact dy g
      refine pc rfl (y "jumpif" (by refine bT w ?_;rfl)) ?_
      apply aj;exact qR _ r k
      apply aj;exact hU (d:=e+1) (by refine bT m9 ?_;exact m) (by refine bT m9 ?_;exact k)
      exact c [_,_,_] rfl
    ·rw [pW g] at c;exact c [_,_,_] rfl
   ·exact ed s (c [_,_,_] rfl)
  ·exact ed o (c [_,_,_] rfl)
 ·have L:Hk f h e (O d) n=h:=by
   induction n with
   |none=>rfl
   |some i=>(refine bT D7 ?_;refine bT (show d.bV.cg=b2 from j) ?_);rfl
  rw [L] at c
  exact ed j (c [_,_,_] rfl)
end
def AC(b:Cd)(a:cb)(c:Nat):Option R→Option R→cb
 |some e,O d=>bif b.c2 (c+1) then a else (iR b a c e d).getD a
 |_,_=>a
def OT{c:Cd}{b:cb}{a:Nat}(d:a+1<b.length):fv c b a=AC c b a b[a] b[a+1] :=by
 unfold fv AC
 refine bT (wy d) ?_
 cases b[a] with
 |none=>rfl
 |some f=>cases b[a+1] with
  |none=>rfl
  |some e=>cases c.c2 (a+1)<;>rfl
def AD{b:Cd}{a:cb}{c:Nat}{e d:R}:AC b a c (O e) (O d)=bif b.c2 (c+1) then a else (iR b a c e d).getD a:=rfl
def OU{g:Cd}{b:cb}{d:Nat}{c a:R}(f:(c.bV== .d0)=ar)(e:a.bV.cg=ar):(iR g b d c a).getD b=fb b d b1 (if a.bV.eM (dI c.a) then O (.cE .cI a.t a.e6) else b1):=by
 unfold iR;(refine bT (if_pos f) ?_;refine bT (if_pos e) ?_);rfl
def OV{d:Cd}{b:cb}{g:Nat}{e a:R}(c:a.bV.cg=b2)(f:(a.bV== .cI)=b2):(iR d b g e a).getD b=b:=by
 unfold iR;rw [if_neg (c:=a.bV.cg=ar) (by refine bT c ?_;decide),if_neg (c:=(a.bV== .cI)=ar) (by refine bT f ?_;decide)];split<;>rfl
def OW{e:Cd}{c:cb}{f:Nat}{d a b:R}(i:(d.bV== .d0)=ar)(g:a.bV.cg=b2)(j:(a.bV== .cI)=ar)(h:e.a2[a.t]? =O b):(iR e c f d a).getD c=if b.bV.cg then fb c f b1 (O {a with t:=if b.bV.eM (dI d.a) then b.t else a.t+1}) else c:=by
 unfold iR;rw [if_pos i,if_neg (c:=a.bV.cg=ar) (by refine bT g ?_;decide),if_pos j];simp only [h];cases b.bV.cg<;>rfl
def OX{e:Cd}{a:cb}{f:Nat}{b c:R}(d:(b.bV== .d0)=b2):(iR e a f b c).getD a=a:=by
 unfold iR;rw [if_neg (by refine bT d ?_;decide)];rfl
section
variable{c:Nat}{b:bS}{fz:Bool}
def yj(d:R)(a:bl)(e:gZ a=ar):PC (vC cq (c+2)) 29 [.f (eR d),.f a] (.b3 (d.bV.eM (dI a))):=pf rfl rfl rfl rfl fun i h b f g=>by
 refine pc h (RA a e) ?_
 exact c8 (b:=f) (by rw [AB];exact g) eO
def IZ(w:Hd)(d:Cd){aB:Bool}(F:gk d aB)(G:i3 d)(aq:g0 d)(v:d.a2.length≤500)(aE:d.b6.length≤500)(aF:d.cp.length≤500):PC (vC cq (c+4)) 30 [.f (cf w d)] (cf w (fE d)):=pf rfl rfl rfl rfl fun p j b av ak=>by
 refine xc (o:=5) (f:=1) j w d (e:=fv) G v aE aF (by decide) oN (l:=fun P g=>g=dk d fv P) rfl (fun P g aJ j=>by subst j;unfold dk;(refine bT vT ?_;refine bT tR ?_);rfl) (qv (sG F _) G) (fun g f aK aC K az I ah ay e=>?_) av ak
 refine bU fun T=>?_
 obtain ⟨aM,aH,aI,aL,aG,rfl⟩:=WU az
 obtain ⟨ae,am,Q⟩:=ro F f
 refine T ?_;try clear T
 rw [← ay] at ae am Q
 have l:f+1<g.length:=I▸ah
 have m:f<g.length:=q8 l
 have k:g.length≤500:=I▸v
 have q:(g.set f b1).length≤500:=by refine bT m9 ?_;exact k
 have u:f+1<(g.set f b1).length:=by refine bT m9 ?_;exact l
 rw [OT l] at e
 have ab:g[f]? =O g[f] :=gS m
 have ag:O g[f+1] =(d.a2.map O)[f+1]? :=(gS l).symm.trans (Q (f+1) (h9 f))
 apply aj;exact lx m k
 apply aj;exact lx l k
 refine pc j (u5 g[f] XB) ?_
 generalize g[f] =aw at e ab⊢
 generalize g[f+1] =y at e ag⊢
 induction aw with
 |none=>exact e [_,_,_,_,_] rfl
 |some h=>
 refine cD (fun i=>?_) fun i=>?_
 ·have al:AC d g f (O h) y=g:=by
   induction y with
   |none=>rfl
   |some a=>(refine bT AD ?_;refine bT (OX (nN i)) ?_);cases d.c2 (f+1)<;>rfl
  rw [al] at e
  exact gL i (e [_,_,_,_,_] rfl)
 have s:(h.bV== .d0)=ar:=pW i
 induction y with
 |none=>exact e [_,_,_,_,_] rfl
 |some a=>
 rw [AD] at e
 apply aj;exact oo (iG ah) v
 refine cD (fun ac=>?_) fun ac=>?_<;>rw [ac] at e
 ·exact e [_,_,_,_,_] rfl
 have e:∀W,W.length=5→aC (O (.f (cf w d))::O (.f (.Z f))::O (.cu b.length)::O (.f (CS d))::W) (b++[O (.a3 (((iR d g f h a).getD g).map hW))]):=e
 have C:gZ h.a=ar:=Rw (dr s) (ae.cF f h ab)
 have Y:fa h=h.a:=by unfold fa;refine bT (dr s) ?_;rfl
 have aA:d.a2[f+1]? =O a:=dF.mp ag.symm
 apply aj;exact gU _
 refine cD (fun i=>?_) fun i=>?_
 ·rw [OU s i] at e
  have aD:fa a=.Z a.t:=fi (rm i)
  have A:PC p 29 [.f (eR a),.f (fa h)] (.b3 (a.bV.eM (dI h.a))):=by (refine bT Y ?_;refine bT j ?_);exact yj a h.a C
  refine pc rfl A ?_
  apply aj;exact hU m k
  refine cD (fun o=>?_) fun o=>?_<;>rw [o] at e
  ·have an:PC p 1000 [.f (.ad "jump"),.f (fa a),.f .bX,.f .bX,.f (.Z a.e6)] (hW (O (R.cE .cI a.t a.e6))):=by (refine bT aD ?_;refine bT j ?_);exact o4 ..
   refine pc rfl an ?_
   apply aj;exact qR _ u q
   exact e [_,_,_,_,_] rfl
  ·apply aj;exact hU u q
   exact e [_,_,_,_,_] rfl
 refine cD (fun r=>?_) fun r=>?_
 ·have af:(a.bV== .cI)=ar:=ny _▸r
  have x:a.bV.b8=ar:=by refine bT (dr af) ?_;rfl
  have ao:=aq a (gj aA) x
  have X:d.a2[a.t]? =O d.a2[a.t] :=gS ao
  rw [OW s i af X] at e
  have aa:∀b,jX cq b (.f (.a3 (d.a2.map eR))) (.f (fa a))=O (eR d.a2[a.t]):=fun b=>by refine bT (fi x) ?_;exact hC X v
  apply aj;exact aa _
  apply aj;exact gU _
  refine cD (fun z=>?_) fun z=>?_<;>rw [z] at e
  ·apply aj;exact aa _
   have A:PC p 29 [.f (eR d.a2[a.t]),.f (fa h)] (.b3 (d.a2[a.t].bV.eM (dI h.a))):=by (refine bT Y ?_;refine bT j ?_);exact yj _ h.a C
   refine pc rfl A ?_
   have L:∀n:Nat,PC p 1 [.f (eR a),.f (.Z n)] (hW (O {a with t:=n})):=fun n=>by
    have:=lI (d:=c+1) a (.Z n)
    rw [← FG a n x,← j] at this;exact this
   refine cD (fun o=>?_) fun o=>?_<;>rw [o] at e
   ·apply aj;exact hU m k
    have ai:PC p 1 [.f (eR a),.f (fa d.a2[a.t])] (hW (O {a with t:=d.a2[a.t].t})):=by refine bT (fi (rm z)) ?_;exact L _
    refine pc rfl ai ?_
    apply aj;exact qR _ u q
    exact e [_,_,_,_,_] rfl
   ·have au:∀b,pn b ar .dc (.f (fa a)) (.f (.Z 1))=O (.f (.Z ((a.t+1:Nat):Int)),b):=fun b=>by refine bT (fi x) ?_;rfl
    apply aj;exact au _
    apply aj;exact hU m k
    refine pc rfl (L _) ?_
    apply aj;exact qR _ u q
    exact e [_,_,_,_,_] rfl
  ·exact e [_,_,_,_,_] rfl
 ·rw [OV i (ny _▸r)] at e
  exact ed r (e [_,_,_,_,_] rfl)
end
def m3{b:Type}{c:b→bl}{a:List b}(d:a.length≤500):w1 ar (.f (.a3 (a.map c)))=O (eV (a.map c)):=by
 unfold w1;refine bT (if_pos rfl) ?_;exact if_pos (by rw [et];exact cr d (by decide))
section
variable{b:Nat}{a:bS}{fz:Bool}
def D9(i:Hd)(d:Cd)(p:i3 d)(o:d.a2.length≤500)(x:d.b6.length≤500)(y:d.cp.length≤500):PC (vC cq (b+4)) 32 [.f (cf i d)] (cf i (dM d)):=pf rfl rfl rfl rfl fun A j a u s=>by
 apply aj;exact g4 (fy _)
 apply aj;exact m3 o
 refine Fz (fun f=>a++[O (.a3 (((d.a2.mapIdx d4).take f).map hW))]) (fun _ (k:Option bZ×Option bZ)=>[O (.f (cf i d)),O (.cu a.length),k.1,k.2]) (a:=(b1,b1)) (fun f c k v w e=>?_) fun k=>?_
 ·have l:(((d.a2.mapIdx d4).take f).map hW).length≤100000:=by
   rw [et];exact cr (yB ..) (by refine bT pj ?_;exact cr o (by decide))
  rw [qC,wa,w,r8] at e
  have e:v [O (.f (cf i d)),O (.cu a.length),O (.f (.Z f)),O (.f (eR c))] (a++[O (.a3 (((d.a2.mapIdx d4).take f).map hW++[hW (d4 f c)]))]):=e (_,_)
  apply aj;exact om _
  refine cD (fun h=>?_) fun h=>?_
  ·apply aj (b:=fh cq _ .cZ (.f (fa c)) _) (c:=c.t==f+1);refine bT (fi h) ?_;exact congrArg O (sZ c.t (f+1))
   refine cD (fun m=>?_) fun m=>?_
   ·rw [show d4 f c=i7 c by unfold d4;(refine bT h ?_;refine bT m ?_);rfl] at e
    apply aj;exact dK (en _ _ _)
    apply aj;exact gU _
    refine cD (fun n=>?_) fun n=>?_
    ·rw [show i7 c=O (.cE .gy 0 c.e6) by unfold i7;refine bT n ?_;rfl] at e
     refine pc j (o4 ..) ?_
     apply aj;exact on l
     exact e
    ·rw [show i7 c=b1 by unfold i7;refine bT n ?_;rfl] at e
     apply aj;exact on l
     exact e
   ·rw [show d4 f c=O c by unfold d4;(refine bT h ?_;refine bT m ?_);rfl] at e
    apply aj;exact dK (en _ _ _)
    apply aj;exact on l
    exact e
  ·rw [show d4 f c=O c by unfold d4;refine bT h ?_;rfl] at e
   refine ed h ?_
   apply aj;exact dK (en _ _ _)
   apply aj;exact on l
   exact e
 apply aj;exact js (en _ _ _)
 rw [kk,Cb (by refine bT pj ?_;exact dX _)]
 refine pc j (rx i d (d.a2.mapIdx d4) p pj (fun C c j q=>?_) o x y) (c8 (b:=u) s (jB _ _))
 rw [wa] at j
 refine bU fun r=>?_
 obtain ⟨z,t,g⟩:=tm.mp j
 refine r ?_;try clear r
 unfold d4 at g
 split at g
 ·unfold i7 at g
  split at g
  ·cases g;exact dy q
  ·exact cG g
 ·cases g;exact p.iV c (gj t) q
def RS(c:Cd)(d:Nat→Bool):iC (c.a2.map eR) ((f5 c.a2.length).map fun g=>.b3 (d g))=c.a2.zipIdx.map fun e=>bl.cQ [eR e.1,.b3 (d e.2)] :=by
 unfold iC
 (refine bT List.zip_map ?_;refine bT lO ?_;refine bT List.zipIdx_eq_zip_range' ?_;refine gT List.range_eq_range' ?_)
 exact y9 fun f f=>rfl
def OY(c:Cd):c.a2.zipIdx.map (fun d=>hW (eY c d.2 d.1))=(c.a2.mapIdx (eY c)).map hW:=by
 (refine bT List.mapIdx_eq_zipIdx_map ?_;refine bT lO ?_);rfl
def Kc{e f:Type}{h:e→bl}{d:f→bl}{c:List e}{g:List f}(i:c.length≤500):G5 ar (.f (.a3 (c.map h))) (.f (.a3 (g.map d)))=O (iC (c.map h) (g.map d)):=by
 unfold G5;refine bT (if_pos rfl) ?_;exact if_pos (by rw [et];exact cr i (by decide))
def NG(g:Hd)(c:Cd){v:Bool}(q:gk c v)(k:i3 c)(n:c.a2.length≤20)(o:c.b6.length≤8)(p:c.cp.length≤8):PC (vC cq (b+4)) 26 [.f (cf g c)] (cf g (dO c)):=pf rfl rfl rfl rfl fun z e a s l=>by
 have j:c.a2.length≤500:=cr n (by decide)
 refine pc e (Ka g c q n o p) ?_
 apply aj;exact Kc j
 rw [RS]
 refine iD (fun d:R×Nat=>bl.cQ [eR d.1,.b3 (j5 c d.2)]) (fun d=>hW (eY c d.2 d.1)) (fun d y K l h=>?_) ?_
 ·refine cD (fun i=>?_) fun i=>?_
  ·rw [show eY c d.2 d.1=O d.1 by unfold eY;(refine bT (if_pos ((ln c _).mp i)) ?_;rfl)] at h
   exact h
  ·rw [show eY c d.2 d.1=b1 by unfold eY;rw [if_neg fun t=>by rw [(ln c _).mpr t] at i;cases i]] at h
   exact h
 rw [OY]
 apply aj;exact lh (by refine bT pj ?_;exact j)
 refine pc e (rx g c (c.a2.mapIdx (eY c)) k pj (fun d w e u=>?_) j (cr o (by decide)) (cr p (by decide))) (c8 (b:=s) l eO)
 rw [m2] at e
 refine bU fun m=>?_
 obtain ⟨x,r,f⟩:=tm.mp e
 refine m ?_;try clear m
 unfold eY at f
 split at f
 ·cases f;exact k.iV w (gj r) u
 ·exact cG f
end
def Bd(a:Cd):Prop:=(a.a2.length≤20)∧(a.b6.length≤8)∧(a.cp.length≤8)
section
variable{b:Cd}(a:Bd b)
include a
def Bd.a2:b.a2.length≤20:=a.1
def Bd.b6:b.b6.length≤8:=a.2.1
def Bd.cp:b.cp.length≤8:=a.2.2
end
def Bd.cX{a:Cd}(b:Bd a){c:cb}(d:c.length=a.a2.length):Bd (a.cX c):=⟨
 cr (qd d) b.a2,
 cr (vN _ _) b.b6,
 (by show (a.cp.map _).length≤8;rw [et];exact b.cp)⟩
def u6{a b:bl}(e:gh a=ar)(d:gh b=ar)(c:Nat):nt (c+1) a b=O (xa a b):=by
 unfold xa
 cases a<;>cases e<;>cases b<;>cases d<;>rfl
def OZ{b:bl}(a:gZ b=ar):gh b=ar:=by
 unfold gZ at a
 split at a<;>first|rfl|exact dy a
def gu{a:bl}(b:dW a=ar):gh a=ar:=by refine bT (iA b) ?_;rfl
def s0{b:b4}{a:bl}(c:lv b a=ar):gh a=ar:=by refine bT (j1 c) ?_;rfl
def I0{b:Int}{a:bl}(c:rP b a=ar):gh a=ar:=by refine bT (mG c) ?_;rfl
def O0{a:bl}(c:sr a=ar):gh a=ar:=by rcases tw c with b|b<;>refine bT b ?_<;>rfl
def FL{h:Bool}{d:R}(e:d.cF h=ar):gh (fa d)=ar∧gh d.b=ar∧gh d.c=ar:=by
 refine bU fun f=>?_
 obtain ⟨g,m,j,k,l,i⟩:=d
 refine f ?_;try clear f
 induction g<;>refine eE (show _=ar from e) fun e b=>eE e fun c a=>?_
 all_goals first
  |exact ⟨OZ c,gu a,gu b⟩
  |exact ⟨I0 c,O0 a,gu b⟩
  |exact ⟨s0 c,gu a,gu b⟩
  |exact ⟨s0 c,s0 a,gu b⟩
  |exact ⟨gu c,gu a,gu b⟩
  |exact ⟨I0 (iX.mp c).2,gu a,gu b⟩
  |exact ⟨rfl,gu a,gu b⟩
  |exact ⟨oX c s0 s0,gu a,gu b⟩
def RT(c:Nat)(b a:List bl):nt (c+1) (.cQ b) (.cQ a)=if b.length=a.length then sg (nt c) b a else b1:=rfl
def XC(a:R):bl:=.cQ [.ad a.bV.cT,fa a,a.b,a.c]
noncomputable abbrev jt(a:List R):List bl:=a.map XC
def HU{j:Bool}:∀{c a:List R},(∀b∈c,b.cF j=ar)→(∀b∈a,b.cF j=ar)→c.length=a.length→sg (nt 11) (jt c) (jt a)=O (iM c a):=by
 intro c
 induction c with
 |nil=>
  intro a
  rcases a with _|⟨_,_⟩
  ·intro _ _ _
   exact rfl
  ·intro _ _ d
   cases d
 |cons b c f=>
  intro a
  rcases a with _|⟨e,a⟩
  ·intro _ _ d
   cases d
  ·intro d i o
   have f:=f (a:=a) (fun h g=>d h (ia _ g)) (fun h g=>i h (ia _ g)) (by simpa using o)
   refine bU fun k=>?_
   obtain ⟨m,l,n⟩:=FL (d b fD)
   obtain ⟨p,r,q⟩:=FL (i e fD)
   refine k ?_;try clear k
   have s:nt 11 (XC b) (XC e)=O (BD b e):=by
    unfold XC
    (rewrite [RT];refine bT (if_pos (by simp)) ?_)
    show (nt 10 (.ad b.bV.cT) (.ad e.bV.cT)).bind _=_
    simp only [sg,u6 m p,u6 l r,u6 n q,tn,F8,LM]
    show O ((b.bV.cT==e.bV.cT)&&_)=_
    rw [gp];rfl
   show (nt 11 _ _).bind _=_
   (refine bT s ?_;rw [tn])
   show (sg (nt 11) (jt c) (jt a)).map _=_
   refine bT f ?_;rfl
def z4:∀{b a:List R},b.length≠a.length→iM b a=b2:=by
 intro b
 induction b with
 |nil=>
  intro a
  rcases a with _|⟨_,_⟩
  ·intro c
   exact absurd rfl c
  ·intro _
   exact rfl
 |cons f b d=>
  intro a
  rcases a with _|⟨e,a⟩
  ·intro _
   exact rfl
  ·intro c
   unfold iM
   (refine bT (d (by simpa using c)) ?_;rw [qz])
def Ke{e:Bool}{h:bS}{a b:List R}(g:∀d∈a,d.cF e=ar)(f:∀d∈b,d.cF e=ar):fh cq h .cZ (.f (.a3 (jt a))) (.f (.a3 (jt b)))=O (iM a b):=by
 show lE (.a3 (jt a)) (.a3 (jt b))=_
 unfold lE
 show (if (jt a).length=(jt b).length then sg (nt 11) (jt a) (jt b) else O b2)=_
 by_cases c:a.length=b.length
 ·(refine bT (if_pos (by simp [jt,c])) ?_;refine bT (HU g f c) ?_;rfl)
 ·(refine bT (if_neg (by simpa [jt] using c)) ?_;refine bT (z4 c) ?_;rfl)
def I1{c:Cd}{b:Bool}(e:gk c b):∀a∈c.a2,a.cF b=ar:=fun a d=>by
 obtain ⟨g,f⟩:=yA d
 exact e.cF g a (dF.mpr f)
section
variable{b:Nat}{a:bS}{c:Bool}
def I2(i:Hd)(d:Cd)(j:Bd d):PC (vC cq (b+1)) 34 [.f (cf i d)] (.a3 (jt d.a2)):=pf rfl rfl rfl rfl fun o n a g h=>by
 have e:d.a2.length≤500:=cr j.a2 (by decide)
 apply aj;exact ef e
 refine iD eR XC (fun m l K k f=>f) ?_
 apply aj;exact lh e
 exact c8 (b:=g) h eO
def q3{d:Cd}(f:kL d c)(e:Bd d):Bd (ig d):=by
 unfold ig
 refine Bd.cX (Bd.cX (Bd.cX (Bd.cX (Bd.cX (Bd.cX (Bd.cX (Bd.cX e ?_) ?_) ?_) ?_) ?_) ?_) ?_) ?_
 ·simp
 ·exact dN oN _
 ·exact dN qt _
 ·exact pj
 ·exact pj
 ·exact dN oi _
 ·exact dN oj _
 ·exact dN qs _
def Bd.iB{d:Cd}(e:Bd d):d.a2.length≤500∧d.b6.length≤500∧d.cp.length≤500:=⟨cr e.a2 (by decide),cr e.b6 (by decide),cr e.cp (by decide)⟩
def Kf{P:cK}(f:P=vC cq (b+4))(e:Hd){d:Cd}(g:kL d c)(h:Bd d){ac:bl}{z o r x:Option bZ}{K:KS}{X:cV→bS→Prop}(W:iM (ig d).a2 d.a2=ar→∀s,K (.cw (.f (cf e (ig d)))) s a)(T:iM (ig d).a2 d.a2=b2→∀z o r x,X [O (.f (cf e (ig d))),z,o,r,x] a):
  jP [O (.f (cf e d)),z,o,r,x] [1] b2 ac fun s=>fG ⟨cq,P⟩ iJ s a (jQ X K):=by
 have p:=pV g.jS g.gH
 have v:=lH g.cF
 have k:Bd (eo d):=h.cX (by rw [et,et])
 have q:=pq v.1
 have G:=u1 v.1 p.1
 have n:Bd (fE (eo d)):=k.cX (dN oN _)
 have ab:=nY q.1
 have F:=xI q.1 G
 have l:Bd (fq (fE (eo d))):=n.cX (dN qt _)
 have A:=pr ab.1
 have C:=u2 F
 have m:Bd (dM (fq (fE (eo d)))):=l.cX pj
 have t:=rq A.1
 have L:=xJ C
 have i:Bd (dO (dM (fq (fE (eo d))))):=m.cX pj
 have u:=nX t.1.1
 have aa:=xG t.1.1 L
 have j:Bd (eX (dO (dM (fq (fE (eo d)))))):=i.cX (dN oi _)
 have ae:=q0 u.1
 have af:=xH u.1 aa
 have y:Bd (ff (eX (dO (dM (fq (fE (eo d))))))):=j.cX (dN oj _)
 have Y:=pt g
 have R:=q3 g h
 refine pc f (I2 e d h) ?_
 refine pc f (yh e d g.jS g.gH h.iB.1 h.iB.2.1 h.iB.2.2) ?_
 refine pc f (IZ e _ v.1 p.1 p.2 k.iB.1 k.iB.2.1 k.iB.2.2) ?_
 refine pc f (D8 e _ q.1 G n.iB.1 n.iB.2.1 n.iB.2.2) ?_
 refine pc f (D9 e _ F l.iB.1 l.iB.2.1 l.iB.2.2) ?_
 refine pc f (NG e _ A.1 C m.a2 m.b6 m.cp) ?_
 refine pc f (D5 e _ t.1.1 L i.iB.1 i.iB.2.1 i.iB.2.2) ?_
 refine pc f (D6 e _ u.1 aa j.iB.1 j.iB.2.1 j.iB.2.2) ?_
 have I:PC (vC cq (b+4)) 33 _ (cf e (ig d)):=IY e _ ae.1 af y.iB.1 y.iB.2.1 y.iB.2.2
 generalize ig d=Q at I Y R W T
 refine pc f I ?_
 refine pc f (I2 e Q R) ?_
 apply aj;exact Ke (a:=Q.a2) (b:=d.a2) (I1 Y.cF) (I1 g.cF)
 exact cD (fun w=>W w _) fun w=>T w _ _ _ _
def Kg{n:cK}(u:n=vC cq (b+4))(l:Hd){K:KS}{k:Cd}(s:∀o,K (.cw (.f (cf l k))) o a)(w:∀i d g h,K .cc [O (.f (cf l k)),i,d,g,h] a)(j:List bl):∀{f:Cd}{i d g h:Option bZ},kL f c→Bd f→k=d5 j.length f→
  jZ (fG ⟨cq,n⟩ iJ) [1] b2 K j [O (.f (cf l f)),i,d,g,h] a:=by
 induction j with
 |nil=>exact fun {f i d g h} m q e=>(show k=f from e)▸w i d g h
 |cons x j r=>
  intro f i d g h m q e
  rw [lZ,d5] at e
  have v:=pt m
  have t:=q3 m q
  refine Kf (X:=jZ (fG ⟨cq,n⟩ iJ) [1] b2 K j) u l m q (fun p o=>?_) fun p i d g h=>?_
  ·rw [if_pos p] at e
   refine gT e ?_;exact s o
  ·rw [if_neg (by refine bT p ?_;exact kx)] at e
   exact r v t e
def O1(f:Hd){d:Cd}(k:kL d c)(j:Bd d):PC (vC cq (b+5)) 35 [.f (cf f d)] (cf f (d5 24 d)):=pf rfl rfl rfl rfl fun m l a h i=>by
 have g:=c8 (b:=h) i (eO (l:=a))
 exact Kg l f (k:=d5 24 d) (fun e=>g) (fun e e e e=>g) (dL 24) (i:=b1) k j rfl
end
abbrev pd:=Hd×Cd
def ez(a:pd):bl:=cf a.1 a.2
def uq(a:pd):Prop:=(kL a.2 b2)∧(Bd a.2)∧(a.1.fB=[])
section
variable{b:pd}(a:uq b)
include a
def uq.hM:kL b.2 b2:=a.1
def uq.bd:Bd b.2:=a.2.1
def uq.bX:b.1.fB=[] :=a.2.2
end
def Do(a:pd):Prop:=(gR a.2 b2)∧(Bd a.2)∧(a.1.fB=[])
section
variable{b:pd}(a:Do b)
include a
def Do.ly:gR b.2 b2:=a.1
def Do.bd:Bd b.2:=a.2.1
def Do.bX:b.1.fB=[] :=a.2.2
end
def h7(a:pd):pd:=(a.1,d5 24 a.2)
noncomputable def Hd.wk(b:Hd)(a:List bl):Hd:={b with fB:=a}
def Hd.BJ{a:Hd}{b:List bl}(c:a.fB=b):a.wk b=a:=by subst c;rfl
def BK{f:Bool}:∀(b:Nat){a:Cd},kL a f→Bd a→Bd (d5 b a):=by
 intro b
 induction b with
 |zero=>
  intro a _ c
  exact c
 |succ b g=>
  intro a e c
  have d:=q3 e c
  unfold d5
  split
  ·exact d
  ·exact g (pt e) d
section
variable{a:Nat}{b:bS}{c:Bool}
def AE{n:Type}(h:Hd){f:Cd}(r:kL f c)(u:Bd f)(d:List n)(e i:n→bl)(m:d.length≤500)(t:∀g∈d,PC (vC cq (a+5)) 36 [.f (e g)] (i g)):
  PC (vC cq (a+6)) 36 [.f (cf (h.wk (d.map e)) f)] (cf (h.wk (d.map i)) (d5 24 f)):=pf rfl rfl rfl rfl fun w j b q k=>by
 have l:=O1 (b:=a) (h.wk (d.map e)) r u
 generalize d5 24 f=p at l k
 refine pc j l ?_
 apply aj;exact ef (c:=e) (a:=d) m
 refine iD e i (fun g v K o s=>pc j (t g o) s) ?_
 apply aj;exact lh m
 exact pc j (q2 (h.wk (d.map e)) p ..) (c8 (b:=q) k eO)
def O2(d:pd)(e:uq d):PC (vC cq (a+6)) 36 [.f (ez d)] (ez (h7 d)):=by
 have:=AE (a:=a) d.1 e.hM e.bd ([] :List Unit) (fun f=>.bX) (fun f=>.bX) (fy _) (fun f g=>absurd g gD)
 rw [Ck,Hd.BJ e.bX] at this
 have h:ez (h7 d)=cf d.1 (d5 24 d.2):=by unfold ez h7;with_reducible rfl
 rewrite [h]
 exact this
def NH(g:Hd){f:Cd}(k:kL f c)(j:Bd f){e:List pd}(h:e.length≤500)(l:∀d∈e,uq d):
  PC (vC cq (a+7)) 36 [.f (cf (g.wk (e.map ez)) f)] (cf (g.wk (e.map fun d=>ez (h7 d))) (d5 24 f)):=
 AE (a:=a+1) g k j e ez _ h fun d i=>O2 d (l d i)
noncomputable def j6:List (b4×Nat):=[("threaded",24),("known branches",30),("turned branches",31),("short jumps",32),("dead rows",26),("pushes",27),("copies",28),("swaps",33)]
def j7{e:b4}{f:Nat}(h:∀(b:bS)(d:KE),vC cq (a+1) 37 [.f (.ad e)] b d=d (.f (.fn f)) (b.take b.length)):PC (vC cq (a+1)) 37 [.f (.ad e)] (.fn f):=⟨fun b d g=>by
 (rewrite [h];refine bT eO ?_);exact g⟩
def sI{d:b4×Nat→Prop}{g:b4×Nat}(f:g∈j6)(e:d ("threaded",24)∧d ("known branches",30)∧d ("turned branches",31)∧d ("short jumps",32)∧d ("dead rows",26)∧d ("pushes",27)∧d ("copies",28)∧d ("swaps",33)):d g:=by
 simp only [j6,eP,gD,or_false] at f
 rcases f with rfl|rfl|rfl|rfl|rfl|rfl|rfl|rfl
 ·exact e.1
 ·exact e.2.1
 ·exact e.2.2.1
 ·exact e.2.2.2.1
 ·exact e.2.2.2.2.1
 ·exact e.2.2.2.2.2.1
 ·exact e.2.2.2.2.2.2.1
 ·exact e.2.2.2.2.2.2.2
def RU(e:b4×Nat)(f:e∈j6):PC (vC cq (a+1)) 37 [.f (.ad e.1)] (.fn e.2):=
 sI (d:=fun e=>PC (vC cq (a+1)) 37 [.f (.ad e.1)] (.fn e.2)) f ⟨j7 (by intro b d;kernel_rfl),j7 (by intro b d;kernel_rfl),j7 (by intro b d;kernel_rfl),j7 (by intro b d;kernel_rfl),j7 (by intro b d;kernel_rfl),j7 (by intro b d;kernel_rfl),j7 (by intro b d;kernel_rfl),j7 (by intro b d;kernel_rfl)⟩
def Kh(e:Hd){d:Cd}(f:gR d c)(m:Bd d)(l:b4×Nat)(o:l∈j6):jJ l.2 1000=ar∧PC (vC cq (a+4)) l.2 [.f (cf e d)] (cf e d):=by
 obtain ⟨h,i,j⟩:=m.iB
 have k:=f.hM.cF
 have g:=f.hM.jS
 have n:=f.hM.gH
 refine sI (d:=fun l=>jJ l.2 1000=ar∧PC (vC cq (a+4)) l.2 [.f (cf e d)] (cf e d)) o ⟨⟨rfl,?_⟩,⟨rfl,?_⟩,⟨rfl,?_⟩,⟨rfl,?_⟩,⟨rfl,?_⟩,⟨rfl,?_⟩,⟨rfl,?_⟩,⟨rfl,?_⟩⟩
 ·have:=yh (d:=a) e d g n h i j;rw [f.xL] at this;exact this
 ·have:=IZ (c:=a) e d k g n h i j;rw [f.Hg.1] at this;exact this
 ·have:=D8 (b:=a) e d k g h i j;rw [f.Fw.1] at this;exact this
 ·have:=D9 (b:=a) e d g h i j;rw [f.MZ.1] at this;exact this
 ·have:=NG (b:=a) e d k g m.a2 m.b6 m.cp;rw [f.J5.1] at this;exact this
 ·have:=D5 (b:=a) e d k g h i j;rw [f.Fx.1] at this;exact this
 ·have:=D6 (b:=a) e d k g h i j;rw [f.Fy.1] at this;exact this
 ·have:=IY (b:=a) e d k g h i j;rw [f.Hh.1] at this;exact this
def vA{m:Type}(i:Hd){g:Cd}(p:gR g c)(t:Bd g)(f:b4×Nat)(k:f∈j6)(e:List m)(d:m→bl)(l:e.length≤500)(v:∀h∈e,PC (vC cq (a+4)) 38 [.f (d h),.f (.a3 [.ad f.1])] (d h)):
  PC (vC cq (a+5)) 38 [.f (cf (i.wk (e.map d)) g),.f (.a3 [.ad f.1])] (cf (i.wk (e.map d)) g):=pf rfl rfl rfl rfl fun x j b r n=>by
 obtain ⟨o,u⟩:=Kh (a:=a) (i.wk (e.map d)) p t f k
 refine pc j (RU f k) ?_
 refine gL (sI (d:=fun f=>MR cq (.f (.fn f.2))=ar) k ⟨rfl,rfl,rfl,rfl,rfl,rfl,rfl,rfl⟩) ?_
 refine gL o ?_
 refine pc j u ?_
 apply aj;exact ef (c:=d) (a:=e) l
 refine iD d d (fun h w K q s=>pc j (v h q) s) ?_
 apply aj;exact lh l
 exact pc j (q2 (i.wk (e.map d)) g ..) (c8 (b:=r) n eO)
def HV(d:pd)(e:Do d)(f:b4×Nat)(i:f∈j6):PC (vC cq (a+5)) 38 [.f (ez d),.f (.a3 [.ad f.1])] (ez d):=by
 have:=vA (a:=a) d.1 e.ly e.bd f i ([] :List Unit) (fun g=>.bX) (fy _) (fun g h=>absurd h gD)
 rw [Ck,Hd.BJ e.bX] at this
 exact this
def O3(h:Hd){f:Cd}(k:gR f c)(n:Bd f){d:List pd}(j:d.length≤500)(m:∀e∈d,Do e)(g:b4×Nat)(i:g∈j6):PC (vC cq (a+6)) 38 [.f (cf (h.wk (d.map ez)) f),.f (.a3 [.ad g.1])] (cf (h.wk (d.map ez)) f):=
 vA (a:=a+1) h k n g i d ez j fun e l=>HV e (m e l) g i
end
def FM(a:Op):b4:=MJ a.cT b1 (O 4)
def AF(b:bS)(a:Op):jY b ar (.f (.ad a.cT)) (.f .bX) (.f (.Z 4))=O (.f (.ad (FM a)),b):=if_pos (of_decide_eq_true (jf (b:=fun a=>dY (a.cT.length≤100000)) (by kernel_rfl) a))
def kl(a:Op):(FM a==("jump":b4))=a.b8:=dr (jf (b:=fun a=>(FM a==("jump":b4))==a.b8) (by kernel_rfl) a)
def u7(b:List Nat)(a:Nat):ic (.Z a) (cU b)=O (b.contains a):=by
 unfold ic
 induction b with
 |nil=>rfl
 |cons c b d=>
  show zu (.Z a) (.Z c::cU b)=_
  unfold zu
  (refine bT (if_pos (show (gh (.Z c)&&gh (.Z a))=ar from rfl)) ?_;refine bT d ?_;refine bT (show nt 1 (.Z c) (.Z a)=O ((c:Int)==(a:Int)) from rfl) ?_;refine bT List.contains_cons ?_;rewrite [sZ,tn,F8];refine bT MK ?_;rfl)
def oO{a:bS}{c b:List Nat}(d:(c++b).length≤500):pn a ar .dc (.f (.a3 (cU c))) (.f (.a3 (cU b)))=O (.f (.a3 (cU (c++b))),a):=by
 have:=lh (a:=a) (c:=e8) d
 rw [r8] at this
 unfold cU;refine bT r8 ?_;exact this
def ii(c:Cd)(b:Nat)(a:R):List Nat:=((c.b6.filter (·.c4 b)).map (·.cP)++(if a.bV.b8 then [a.t] else []))++(if a.bV.dR then [] else [b+1])
def u8(a:Cd)(b:Nat)(c:R):(ii a b c).length≤2+a.b6.length:=by
 unfold ii
 have:=r7 (fun d:Ct=>d.c4 b) a.b6
 (refine bT dZ ?_;refine bT dZ ?_;rw [et])
 split<;>split<;>simp<;>lia
def E8{c:Cd}{f:Nat}{i:R}(d:c.a2[f]? =O i)(e:cx c.nc f):∀g∈ii c f i,cx c.nc g:=fun g a=>by
 unfold ii at a
 rcases my.mp a with a|a
 ·rcases my.mp a with a|a
  ·refine bU fun h=>?_
   obtain ⟨b,k,rfl⟩:=hJ.mp a
   obtain ⟨j,l⟩:=l3.mp k
   refine h ?_;try clear h
   exact .dJ e (dF.mpr d) j l
  ·split at a
   ·rename_i b;simp at a;subst a;exact .cI e (dF.mpr d) b
   ·cases a
 ·split at a
  ·cases a
  ·rename_i b;simp at a;subst a;exact .eK e (dF.mpr d) (by simpa using b)
def CT{f:Cd}{e:List Nat}(j:∀a∈f.cp,a∈e)(g:∀a∈e,∀h,f.a2[a]? =O h→∀k∈ii f a h,k∈e):∀a,cx f.nc a→a∈e:=fun a i=>by
 induction i with
 |dH m=>exact j _ m
 |lg _ b _=>exact absurd b (sY _)
 |eK _ b c d=>exact g _ d _ (dF.mp b) _ (by unfold ii;refine bT c ?_;simp)
 |cI _ b c d=>exact g _ d _ (dF.mp b) _ (by unfold ii;refine bT (if_pos c) ?_;simp)
 |dJ _ b l c d=>exact g _ d _ (dF.mp b) _ (by
  unfold ii
  exact ow _ (ow _ (hJ.mpr ⟨_,l3.mpr ⟨l,c⟩,rfl⟩)))
def sw(b:Nat)(a:List Nat):Nat:=ww b fun c=>a.contains c
def I3{a:Nat}{c d:List Nat}{b:Nat}(q:b<a)(i:b∉c)(m:b∈d)(h:∀f∈c,f∈d):sw a d+1≤sw a c:=by
 unfold sw ww
 show (f5 a).countP (fun b=>!d.contains b)+1≤(f5 a).countP fun b=>!c.contains b
 induction a with
 |zero=>lia
 |succ a k=>
  (refine bT vT ?_;refine bT Go ?_;refine bT Go ?_;refine bT Gk ?_;refine bT Gk ?_)
  have n:(f5 a).countP (fun b=>!d.contains b)≤(f5 a).countP fun b=>!c.contains b:=List.countP_mono_left fun f o g=>by
   simp only [B5,vO,decide_eq_false_iff_not] at g⊢
   exact fun e=>g (h f e)
  have p:(if (!d.contains a)=ar then 1 else 0)≤(if (!c.contains a)=ar then 1 else 0):=by
   by_cases e:a∈c
   ·have:=h a e;simp [e,this]
   ·by_cases l:a∈d<;>simp [e,l]
  by_cases j:b=a
  ·subst j
   have:(if (!d.contains b)=ar then 1 else 0)+1=(if (!c.contains b)=ar then 1 else 0):=by simp [i,m]
   lia
  ·have:=k (by lia)
   lia
def s3(b:Cd)(a:List Nat)(c:Nat):List Nat:=match b.a2[c]? with
 |some e=>a++(ii b c e).filter fun d=>!a.contains d
 |none=>a
def rA(b:Cd)(c:Nat)(a:List Nat):Prop:=(∀d∈a,cx b.nc d)∧(a.length+(3+b.b6.length)*sw b.a2.length a≤c)
section
variable{b:Cd}{d:Nat}{a:List Nat}(c:rA b d a)
include c
def rA.mH:∀e∈a,cx b.nc e:=c.1
def rA.s4:a.length+(3+b.b6.length)*sw b.a2.length a≤d:=c.2
end
def xR{a:Cd}(e:∀c,cx a.nc c→c<a.a2.length){u:Nat}{d:List Nat}{b:Nat}(r:rA a u d)(f:cx a.nc b):rA a u (s3 a d b)∧d <+: s3 a d b∧(s3 a d b=d∨sw a.a2.length (s3 a d b)+1≤sw a.a2.length d)∧∀p,a.a2[b]? =O p→∀c∈ii a b p,c∈s3 a d b:=by
 have n:a.a2[b]? =O (a.a2[b]'(e b f)):=gS _
 have x:s3 a d b=d++(ii a b (a.a2[b]'(e b f))).filter fun c=>!d.contains c:=by unfold s3;simp only [n]
 refine bT x ?_
 have l:=E8 n f
 have q:=r7 (fun c=>!d.contains c) (ii a b (a.a2[b]'(e b f)))
 have y:=u8 a b (a.a2[b]'(e b f))
 have w:∀c∈ii a b (a.a2[b]'(e b f)),c∈d++(ii a b (a.a2[b]'(e b f))).filter fun c=>!d.contains c:=fun c g=>by
  by_cases i:c∈d
  ·exact ow _ i
  ·exact nU _ (l3.mpr ⟨g,by (rewrite [vO];refine bT (decide_eq_false i) ?_);rfl⟩)
 refine ⟨?_,vP _ _,?_,fun p t c g=>by rw [n] at t;obtain rfl:=dg t;exact w c g⟩
 ·refine ⟨fun c g=>(my.mp g).elim (r.mH c) fun g=>l c (l3.mp g).1,?_⟩
  have s:=r.s4
  refine bT dZ ?_
  cases k:(ii a b (a.a2[b]'(e b f))).filter (fun c=>!d.contains c) with
  |nil=>rw [kX];exact s
  |cons h o=>
   obtain ⟨m,j⟩:=l3.mp (k▸fD:h∈(ii a b (a.a2[b]'(e b f))).filter fun c=>!d.contains c)
   have:=I3 (a:=a.a2.length) (c:=d) (d:=d++h::o) (e h (l h m)) (fun i=>by rw [vO,decide_eq_true i] at j;exact dy j) (nU _ fD) (fun c g=>ow _ g)
   have v:(3+a.b6.length)*sw a.a2.length (d++h::o)+(3+a.b6.length)≤(3+a.b6.length)*sw a.a2.length d:=by
    rw [← y7];exact v9 _ this
   rw [k] at q
   exact WO s (cr q (cr (u8 _ _ _) (m7 (by decide) _))) v
 ·cases k:(ii a b (a.a2[b]'(e b f))).filter (fun c=>!d.contains c) with
  |nil=>rw [kX];exact .inl rfl
  |cons h o=>
   obtain ⟨m,j⟩:=l3.mp (k▸fD:h∈(ii a b (a.a2[b]'(e b f))).filter fun c=>!d.contains c)
   exact .inr (I3 (e h (l h m)) (fun i=>by rw [vO,decide_eq_true i] at j;exact dy j) (nU _ fD) (fun c g=>ow _ g))
def O4{a:Cd}(x:∀d,cx a.nc d→d<a.a2.length){v:Nat}:∀{c b:List Nat},(∀g∈c,cx a.nc g)→rA a v b→b <+: c.foldl (s3 a) b∧(c.foldl (s3 a) b=b∨sw a.a2.length (c.foldl (s3 a) b)+1≤sw a.a2.length b)∧∀g∈c,∀h,a.a2[g]? =O h→∀d∈ii a g h,d∈c.foldl (s3 a) b:=by
 intro c
 induction c with
 |nil=>
  intro b _ k
  exact ⟨jU _,.inl rfl,fun z u=>absurd u gD⟩
 |cons g c t=>
  intro b m k
  refine bU fun p=>?_
  obtain ⟨s,r,f,w⟩:=xR x k (m g fD)
  obtain ⟨q,e,y⟩:=t (fun d j=>m d (ia _ j)) s
  refine p ?_;try clear p
  refine ⟨r.trans q,?_,fun d j h l o n=>(eP.mp j).elim (fun i=>q.subset (w h (i▸l) o (i▸n))) fun i=>y d i h l o n⟩
  refine bT Gr ?_
  rcases e with e|e
  ·refine bT e ?_;exact f
  ·rcases f with f|f
   ·rw [f] at e⊢;exact .inr e
   ·exact .inr (cr e (lC f))
section
variable{a:Nat}{b:Bool}
def sJ{e:bS}(c:List Nat)(d:Nat):fh cq e .fY (.f (.Z d)) (.f (.a3 (cU c)))=O (!c.contains d):=congrArg Wv (u7 c d)
def RV{e:bS}(c:List Nat)(d:Nat):fh cq e .ft (.f (.Z d)) (.f (.a3 (cU c)))=O (c.contains d):=u7 c d
def BL{d:Type}{e:d→bl}{f:bS}{c:List d}(g:c.length≤500):eW f ar 1 [.f (.a3 (c.map e))] =O (.f (.a3 (c.map e)),f):=lh g
def Ki{A:cK}{t:bS}(p:Hd){d:Cd}(v:Bd d){e:List Nat}{c:Nat}{g:R}(y:d.a2[c]? =O g)(ab:e.length≤300){w u q F:Option bZ}{x:cV→bS→Prop}{K:KS}(C:∀Q G T:Option bZ,x [O (.f (cf p d)),O (.f (.a3 (cU (s3 d e c)))),w,Q,G,T,b1,b1] t):
  jP [O (.f (cf p d)),O (.f (.a3 (cU e))),w,u,q,F,b1,b1] [3] b2 (.Z c) fun W=>fG ⟨cq,A⟩ rj W t (jQ x K):=by
 have P:=u8 d c g
 have ac:=v.b6
 apply aj;exact hC y v.iB.1
 apply aj;exact ef v.iB.2.1
 refine k6 k0 (·.c4 c) (fun f=>e8 f.cP) (fun f L K ae n m=>?_) ?_
 ·have I:f.c4 c=(dY ((f.d1:Int)≤c)&&dY ((c:Int)<f.iz)):=by
   unfold Ct.c4
   rw [decide_eq_decide.mpr (pN (m:=f.d1) (n:=c)),decide_eq_decide.mpr (kY (n:=c) (m:=f.iz))]
  rw [I] at n m
  refine cD (fun k=>?_) fun k=>?_<;>rw [k] at n m
  ·exact cD (fun k=>n k) fun k=>m k
  ·exact m rfl
 have r:((d.b6.filter (·.c4 c)).map (·.cP)).length≤d.b6.length:=by
  rw [et];exact r7 _ _
 rw [Gp,show ((d.b6.filter (·.c4 c)).map fun f=>e8 f.cP)=cU ((d.b6.filter (·.c4 c)).map (·.cP)) by unfold cU;refine bT lO ?_;rfl]
 apply aj;exact lh (cr r v.iB.2.1)
 have X:s3 d e c=e++(ii d c g).filter fun i=>!e.contains i:=by unfold s3;simp only [y]
 have h:∀(u q:Option bZ),fG ⟨cq,A⟩ (.J (.ch 1 (.eD ar .dc (.bW 1) ri)) .N) [O (.f (cf p d)),O (.f (.a3 (cU e))),w,u,q,O (.f (.a3 (cU (ii d c g)))),b1,b1] t (jQ x K):=fun u q=>by
  apply aj;exact ef (cr P (by lia))
  refine k6 e8 (fun i=>!e.contains i) e8 (fun i L K aa n m=>?_) ?_
  ·apply aj;exact sJ e i
   exact cD n m
  have Y:=r7 (fun i=>!e.contains i) (ii d c g)
  rw [Gp]
  apply aj;exact lh (by lia)
  apply aj;exact oO (by refine bT dZ ?_;lia)
  rw [X] at C
  exact C _ _ _
 unfold ii at h
 generalize (d.b6.filter (·.c4 c)).map (·.cP)=j at r h⊢
 apply aj;exact AF _ _
 have l:∀{z:Nat},z≤d.b6.length+2→z≤500:=fun p=>cr p (by lia)
 refine cD (fun s=>?_) fun s=>?_<;>rw [kl] at s<;>rw [s] at h
 ·apply aj (c:=(.f (.a3 (cU (j++[g.t]))),t));refine bT (fi s) ?_;exact oO (b:=[g.t]) (l (by refine bT dZ ?_;show _+1≤_;lia))
  apply aj;exact xP _
  refine cD (fun o=>?_) fun o=>?_<;>rw [o] at h
  ·apply aj;exact oO (c:=j++[g.t]) (b:=[]) (l (by (rewrite [kX];refine bT dZ ?_);show _+1≤_;lia))
   exact h _ _
  ·apply aj;exact oO (c:=j++[g.t]) (b:=[c+1]) (l (by (refine bT dZ ?_;refine bT dZ ?_);show _+1+1≤_;lia))
   exact h _ _
 ·apply aj;exact oO (c:=j) (b:=[]) (l (by rw [kX];exact cr r (fg _ _)))
  apply aj;exact xP _
  refine cD (fun o=>?_) fun o=>?_<;>rw [o] at h
  ·apply aj;exact oO (c:=j++[]) (b:=[]) (l (by rw [kX,kX];exact cr r (fg _ _)))
   exact h _ _
  ·apply aj;exact oO (c:=j++[]) (b:=[c+1]) (l (by (rewrite [kX];refine bT dZ ?_);show _+1≤_;lia))
   exact h _ _
def WL(h:Hd)(i:Cd)(c:List Nat)(g:Int)(e f d:Option bZ):cV:=[O (.f (cf h i)),O (.f (.a3 (cU c))),O (.f (.Z g)),e,f,d,b1,b1]
def yk{s:cK}{r:bS}(g:Hd){c:Cd}(I:Bd c)(v:∀w,cx c.nc w→w<c.a2.length){k:Nat}(x:k≤300){d:List Nat}(n:rA c k d){m:Int}{i e f:Option bZ}{p:cV→bS→Prop}{K:KS}(z:m<d.length)(o:rA c k (d.foldl (s3 c) d)→∀i e f,p (WL g c (d.foldl (s3 c) d) d.length i e f) r):
  zx (vE ⟨cq,s⟩ ni) (WL g c d m i e f) r (kWh (fG ⟨cq,s⟩ nl) p K (WL g c d m i e f)):=by
 have A:d.length≤300:=cr (fg _ _) (cr n.s4 x)
 have j:d.length≤500:=cr A (by decide)
 apply aj;exact eZ (d:=e8) j
 refine gL (decide_eq_true z) ?_
 apply aj;exact eZ (d:=e8) j
 apply aj;exact BL (e:=e8) j
 apply aj;exact ef (c:=e8) j
 refine Xv (s:=e8) (c:=d) (s3 c) (rA c k) (fun u (h:Option bZ×Option bZ×Option bZ)=>WL g c u d.length h.1 h.2.1 h.2.2) (b:=(i,e,f)) (fun u t h p C l o=>?_) n fun l h=>o l _ _ _
 have q:=n.mH t C
 exact Ki g I (gS (v t q)) (cr (fg _ _) (cr l.s4 x)) fun F y G=>o (xR v l q).1 (F,y,G)
def Kj(u:Hd){d:Cd}(P:Bd d)(v:∀n,cx d.nc n→n<d.a2.length){m:Nat}(F:m≤300):∀(p:Nat){c:List Nat},rA d m c→sw d.a2.length c<p→∃j,rA d m j∧c <+: j∧(∀l∈j,∀Q,d.a2[l]? =O Q→∀n∈ii d l Q,n∈j)∧
  ∀(s:cK)(q:bS)(K:KS)(g:Nat)(k:Int)(i h f:Option bZ),k<c.length→p<g→(∀k i h f,K .cc (WL u d j k i h f) q)→qb (zx (vE ⟨cq,s⟩ ni)) (fG ⟨cq,s⟩ nl) K g (WL u d c k i h f) q:=by
 intro p
 induction p with
 |zero=>
  intro c _ z
  exact absurd z (tP _)
 |succ p x=>
  intro c e z
  refine bU fun r=>?_
  obtain ⟨A,ab,G⟩:=O4 v e.mH e
  refine r ?_;try clear r
  by_cases w:c.foldl (s3 d) c=c
  ·rw [w] at G
   refine ⟨c,e,jU _,G,fun s q K g k i h f y t C=>?_⟩
   match g,t with
   |g+2,_=>
   refine yk u P v F e y fun L i h f=>?_
   refine bT w ?_
   have Y:c.length≤500:=cr (fg _ _) (cr e.s4 (cr F (by decide)))
   unfold qb
   apply aj;exact eZ (d:=e8) Y
   exact ed (decide_eq_false (UL _)) (C _ _ _ _)
  ·have R:=ab.resolve_left w
   have L:rA d m (c.foldl (s3 d) c):=by
    have:∀{o c:List Nat},(∀l∈o,cx d.nc l)→rA d m c→rA d m (o.foldl (s3 d) c):=fun {o}=>by
     induction o with
     |nil=>exact fun aa e=>e
     |cons l o x=>exact fun I e=>x (fun n T=>I n (ia _ T)) (xR v e (I l fD)).1
    exact this e.mH e
   have af:c.length<(c.foldl (s3 d) c).length:=y5 A.length_le fun f=>w (A.eq_of_length f).symm
   refine bU fun r=>?_
   obtain ⟨j,ae,X,ac,W⟩:=x L (hH R (qk z))
   refine r ?_;try clear r
   refine ⟨j,ae,A.trans X,ac,fun s q K g k i h f y t C=>?_⟩
   match g,t with
   |g+1,t=>
   exact yk u P v F e y fun aa i h f=>W s q K g _ i h f (kY.mpr af) (LN t) C
def NI(m:Hd)(c:Cd)(o:gk c b)(f:Bd c):∃e:List Nat,(∀d,d∈e↔cx c.nc d)∧e.length≤500∧∀a,PC (vC cq (a+1)) 55 [.f (cf m c)] (.a3 (cU e)):=by
 refine bU fun n=>?_
 obtain ⟨C,x⟩:=o.gK
 have w:∀h,cx c.nc h→h<c.a2.length:=fun h g=>by
  have:=x.kJ h g
  unfold Cd.nc at this;rw [et] at this;exact this
 have l:c.cp.length+(3+c.b6.length)*c.a2.length≤300:=by
  have:(3+c.b6.length)*c.a2.length≤11*20:=Gf (jq f.b6 3) f.a2
  have:=f.cp
  lia
 have j:sw c.a2.length c.cp≤c.a2.length:=BI _ _
 obtain ⟨e,k,u,p,y⟩:=Kj m f w l 21 (c:=c.cp) ⟨fun d i=>.dH i,jq (v9 _ j) _⟩ (vM (cr j f.a2))
 refine n ?_;try clear n
 have r:e.length≤300:=cr (fg _ _) (cr k.s4 l)
 refine ⟨e,fun d=>⟨k.mH d,fun g=>CT (fun d i=>u.subset i) p d g⟩,cr r (by decide),fun a=>pf rfl rfl rfl rfl fun t G s v q=>?_⟩
 apply aj;exact BL (e:=e8) f.iB.2.2
 refine y t s _ 1000 (-1) b1 b1 b1 (GS (by decide) (sb _)) (by decide) fun z F A g=>?_
 exact c8 (b:=v) q eO
end
def Ea{a:Cd}{c:Nat}{b:R}(d:a.a2[c]? =O b):hP a.a2 c=(b.bV== .cI):=by unfold hP;(refine bT d ?_;rfl)
def QU(b:Cd)(a:Nat):bl:=if hP b.a2 a then .bX else .Z a
def FN{d:bS}{c:Nat}{a:List Nat}(e:d[c]? =O (O (.a3 (cU a))))(b:Nat):fh cq d .ft (.f (.Z b)) (.cu c)=O (a.contains b):=by
 show ((ud d (.cu c)).bind si).bind _=_
 refine bT (xb e) ?_
 exact u7 a b
def Kk{d:bS}{c:Nat}{b:List Nat}(e:d[c]? =O (O (.a3 (cU b))))(a:Nat):fh cq d .fY (.f (.Z a)) (.cu c)=O (!b.contains a):=congrArg Wv (FN e a)
def XD{b:bS}{a:List Nat}{d:Nat}{c:bS}(e:a.length≤1100):jk cq (b++O (.a3 (cU a))::c) .eJ (.cu b.length) [.f (.Z d)] =O (.f .bX,b++O (.a3 (cU (a++[d])))::c):=by
 (refine bT (on (tE e)) ?_;rw [py])
section
variable{a:Nat}{b:Bool}
def aal(G:Hd){c:Cd}(ag:gR c b)(I:Bd c){d:Nat}(x:d<c.a2.length)(ah:mr c.a2 d=d):PC (vC cq (a+1)) 56 [.f (cf G c),.f (.Z d)] (QU c d):=pf rfl rfl rfl rfl fun ak r w z i=>by
 have T:=ag.hM.gH
 have q:=I.iB.1
 apply aj;exact g4 (fy _)
 unfold QU at i
 have s:c.a2[d]? =O c.a2[d] :=gS x
 rcases Ax T x with ⟨n,ai,f,K,Q⟩|⟨f,K⟩
 ·have aa:n=0:=by
   induction n with
   |zero=>rfl
   |succ n=>
    exfalso
    have W:=Q.symm.trans ah
    have:lX c.a2 (0+(n+1)) d=lX c.a2 0 d:=by rewrite [wm,W];rfl
    rw [kU] at this
    have m:=K 0 (Nat.zero_lt_succ _)
    rw [← this,f] at m;exact dy m
  subst aa
  rw [lX] at f
  rw [f] at i
  have A:(c.a2[d].bV.cT==("jump":b4))=b2:=by (rewrite [ny];refine gT (Ea s) ?_);exact f
  apply aj;exact hC s q
  refine ed A ?_
  refine ed A ?_
  apply aj;exact FN (a:=[]) (en _ _ _) d
  exact c8 (b:=z) i (jB _ _)
 ·have ae:hP c.a2 d=ar:=f 0
  rw [ae] at i
  have k:∀e,lX c.a2 e d<c.a2.length:=fun e=>OH (f e)
  refine wv (fun p C u=>∃(e:Nat)(g:List Nat),C=[O (.f (cf G c)),O (.f (.Z (lX c.a2 e d))),O (.cu w.length)] ∧u=w++[O (.a3 (cU g))] ∧g.Nodup∧(∀o∈g,o<c.a2.length)∧c.a2.length+1≤p+g.length) (fun p C u am L ac=>?_) (b:=c.a2.length+1) ⟨0,[],rfl,rfl,Mg,(fun o j=>absurd j gD),dX _⟩ (by lia)
  refine bU fun y=>?_
  obtain ⟨e,g,rfl,rfl,F,v,R⟩:=L
  refine y ?_;try clear y
  have af:=DQ _ g F v
  have l:c.a2[lX c.a2 e d]? =O (c.a2[lX c.a2 e d]'(k e)):=gS (k e)
  have t:((c.a2[lX c.a2 e d]'(k e)).bV== .cI)=ar:=by refine gT (Ea l) ?_;exact f e
  apply aj;exact hC l q
  refine gL ((ny _).trans t) ?_
  apply aj;exact Kk (en _ _ _) _
  refine cD (fun h=>?_) fun h=>?_
  ·apply aj;exact dK (en _ _ _)
   apply aj;exact XD (by lia)
   apply aj;exact hC l q
   have P:fa (c.a2[lX c.a2 e d]'(k e))=.Z (lX c.a2 (e+1) d):=by
    rw [fi (by refine bT (dr t) ?_;rfl),mW,DR,l]
   have h:=nN h
   have X:lX c.a2 e d∉g:=fun m=>by rw [vO,decide_eq_true m] at h;exact dy h
   refine ac (p-1) _ _ (by lia) ⟨e+1,g++[lX c.a2 e d],by (refine gT P ?_;rfl),rfl,zb.mpr ⟨F,vU.mpr ⟨gD,Mg⟩,fun al Y I ab r=>X (by rw [ib.mp ab] at r;exact r▸Y)⟩,fun o j=>(my.mp j).elim (v o) fun j=>ib.mp j▸k e,by (refine bT dZ ?_;refine bT uM ?_);exact ZE R af⟩
  ·apply aj;exact FN (en _ _ _) _
   refine gL (pW h) ?_
   exact c8 (b:=z) i (jB _ _)
def E9(l:Hd){d:Cd}(j:gR d b)(s:Bd d){f:Nat}{c:R}(r:d.a2[f]? =O c)(h:c.bV.b8=ar):PC (vC cq (a+2)) 57 [.f (cf l d),.f (.Z f),.f (eR c)] (.b3 b2):=pf rfl rfl rfl rfl fun x u p i g=>by
 have o:=gj r
 have q:=j.hM.gH c o h
 obtain ⟨v,A⟩:=j.mr o h
 have z:=j.MZ.2 f c r h
 have k:=fi h
 have w:PC x 56 [.f (cf l d),.f (fa c)] (QU d c.t):=by (refine bT k ?_;refine bT u ?_);exact aal l j s q v
 refine pc rfl w ?_
 have t:fh cq p .cZ (.f (fa c)) (.f (.Z ((f:Int)+1)))=O b2:=by
  refine bT k ?_;exact congrArg O ((sZ c.t (f+1)).trans (beq_false_of_ne z))
 apply aj;exact t
 have n:d.a2[c.t]? =O d.a2[c.t] :=gS q
 unfold QU
 cases C:hP d.a2 c.t with
 |true=>
  refine cD (fun e=>?_) fun e=>?_
  ·exact c8 (b:=i) g eO
  ·refine bT e ?_
   exact c8 (b:=i) g eO
 |false=>
  have y:fh cq p .ne (.f (.Z c.t)) (.f (fa c))=O b2:=by
   refine bT k ?_;exact congrArg O (by refine bT (show ((c.t:Int)==(c.t:Int))=ar from beq_self_eq_true _) ?_;rfl)
  apply aj;exact y
  refine cD (fun e=>?_) fun e=>?_
  ·have m:=A (dr (ny _▸e))
   unfold gP at m
   simp only [n] at m
   apply aj;exact hC n s.iB.1
   have:(d.a2[c.t].bV.cT==("leave":b4))=b2:=(D2 _).trans m
   exact c8 (b:=i) (by refine bT this ?_;exact g) eO
  ·exact c8 (b:=i) (by refine bT e ?_;exact g) eO
end
def VB(b:gB)(e:cv)(c:cV)(a:bS)(d:Bool):Prop:=∀K:KE,K (.f (.b3 d)) a→vE b e c a K
def AG{b:gB}{f g:cv}{c:cV}{d:bS}{a h:Bool}(j:VB b f c d a)(i:a=ar→VB b g c d h):VB b (.ev (.J f (.J g .N))) c d (a&&h):=fun K e=>j _ (by
 induction a with
 |false=>exact e
 |true=>exact i rfl K e)
def QV{b:gB}{h i j:cv}{c:cV}{d:bS}{a e f:Bool}(m:VB b h c d a)(k:a=ar→VB b i c d e)(l:a=ar→e=ar→VB b j c d f):VB b (.ev (.J h (.J i (.J j .N)))) c d (a&&(e&&f)):=fun K g=>m _ (by
 induction a with
 |false=>exact g
 |true=>exact AG (k rfl) (l rfl) K g)
def VN{b:gB}{f g:cv}{c:cV}{d:bS}{a h:Bool}(j:VB b f c d a)(i:a=b2→VB b g c d h):VB b (.hK (.J f (.J g .N))) c d (a||h):=fun K e=>j _ (by
 induction a with
 |true=>exact e
 |false=>exact i rfl K e)
def wd(a:Option R):b4:=match a with|some b=>b.bV.cT|none=>""
noncomputable def xd(a:Option R)(b:Op→Bool):Bool:=match a with|some c=>b c.bV|none=>b2
def CU(b:Option R)(a:Op):(wd b==a.cT)=xd b (· ==a):=by
 induction b with
 |none=>exact dr (jf (b:=fun a=>(("":b4)==a.cT)==b2) (by kernel_rfl) a)
 |some c=>exact gp _ _
def VO{f:bS}{a:List bl}{d:Op→Bool}(e:(fu.all fun c=>eA (ic (.ad c.cT) a) (d c))=ar)(h:eA (ic (.ad "") a) b2=ar)(b:Option R):fh cq f .ft (.f (.ad (wd b))) (.f (.cQ a))=O (xd b d):=by
 induction b with
 |none=>exact pw h
 |some g=>exact ol e g.bV
def Kl:(fu.all fun a=>eA (ic (.ad a.cT) [.ad "swap",.ad "dup"]) (a== .dt||a== .kq))=ar:=by kernel_rfl
def O5:eA (ic (.ad "") IS) b2=ar:=by kernel_rfl
def HW:eA (ic (.ad "") rt) b2=ar:=by kernel_rfl
section
variable{a:Nat}{b:Bool}
def Fa(T:Hd){h:Cd}(l:gR h b)(X:Bd h){i:Nat}{e:R}(k:h.a2[i]? =O e)(f n:Option R)(g:∀d,f=O d→h.a2[i+1]? =O d∧h.c2 (i+1)=b2)(G:∀d,n=O d→(∃q,f=O q)∧h.a2[i+2]? =O d∧h.c2 (i+2)=b2):
  PC (vC cq (a+1)) 58 [.f (cf T h),.f (.Z i),.f (.a3 [.ad e.bV.cT,.ad (wd f),.ad (wd n)])] (.b3 b2):=pf rfl rfl rfl rfl fun aa ab Y P y=>by
 have p:=X.iB.1
 have C:(e.bV.i6&&xd f (· == .gy))=b2:=by
  induction f with
  |none=>exact qz _
  |some d=>exact (l.J7 k (g d rfl).1 (g d rfl).2).1
 have w:((e.bV== .dt||e.bV== .kq)&&xd f (· == .dt))=b2:=by
  induction f with
  |none=>exact qz _
  |some d=>exact (l.J7 k (g d rfl).1 (g d rfl).2).2.1
 have Q:(e.bV== .kq&&(xd f Op.fQ&&xd n (· == .gy)))=b2:=by
  induction n with
  |none=>(refine bT (show xd b1 (· ==Op.gy)=b2 from rfl) ?_;rw [qz,qz])
  |some q=>
   refine bU fun t=>?_
   obtain ⟨⟨d,rfl⟩,v,A⟩:=G q rfl
   refine t ?_;try clear t
   rw [← Tr];exact l.Xs k (g d rfl).1 v (g d rfl).2 A
 have x:(e.bV== .d0&&xd f Op.cg)=b2:=by
  induction f with
  |none=>exact qz _
  |some d=>exact (l.J7 k (g d rfl).1 (g d rfl).2).2.2.1
 refine VN (AG (a:=e.bV.i6) (h:=xd f (· == .gy)) (fun K c=>?_) fun j K c=>?_) (fun j=>AG (a:=e.bV== .dt||e.bV== .kq) (h:=xd f (· == .dt)) (fun K c=>?_) fun j K c=>?_) _ ?_
 ·apply aj;exact ol BE e.bV
  exact c
 ·rw [← CU] at c;exact c
 ·apply aj;exact qf Kl e.bV
  exact c
 ·rw [← CU] at c;exact c
 refine ed (by (refine bT C ?_;refine bT w ?_);rfl) ?_
 refine VN (QV (a:=e.bV== .kq) (e:=xd f Op.fQ) (f:=xd n (· == .gy)) (fun K c=>?_) (fun j K c=>?_) fun j j K c=>?_) (fun j=>AG (a:=e.bV== .d0) (h:=xd f Op.cg) (fun K c=>?_) fun j K c=>?_) _ ?_
 ·rw [← gp] at c;exact c
 ·apply aj;exact VO xO O5 f
  exact c
 ·rw [← CU] at c;exact c
 ·rw [← gp] at c;exact c
 ·apply aj;exact VO px HW f
  exact c
 refine ed (by (refine bT Q ?_;refine bT x ?_);rfl) ?_
 refine QV (a:=e.bV.cg) (e:=xd f (· == .cI)) (f:=e.t==i+2) (fun K c=>?_) (fun j K c=>?_) (fun L j K c=>?_) _ ?_
 ·apply aj;exact gU e.bV
  exact c
 ·rw [← CU] at c;exact c
 ·apply aj;exact hC k p
  apply aj (b:=fh cq _ .cZ (.f (fa e)) _) (c:=e.t==i+2);refine bT (fi (rm L)) ?_;exact congrArg O (sZ e.t (i+2))
  exact c
 have z:(e.bV.cg&&(xd f (· == .cI)&&e.t==i+2))=b2:=by
  induction f with
  |none=>(refine bT (show xd b1 (· ==Op.cI)=b2 from rfl) ?_;rw [Tq,qz])
  |some d=>rw [← Tr];exact (l.J7 k (g d rfl).1 (g d rfl).2).2.2.2.1
 refine ed z ?_
 refine QV (a:=e.bV== .d0) (e:=xd f (· == .cI)) (f:=b2) (fun K c=>?_) (fun j K c=>?_) (fun F m K c=>?_) _ ?_
 ·rw [← gp] at c;exact c
 ·rw [← CU] at c;exact c
 ·induction f with
  |none=>exact dy m
  |some d=>
   have m:(d.bV== .cI)=ar:=m
   obtain ⟨o,W⟩:=g d rfl
   have u:d.bV.b8=ar:=by refine bT (dr m) ?_;rfl
   have I:=l.hM.gH d (gj o) u
   have r:h.a2[d.t]? =O h.a2[d.t] :=gS I
   have s:=(l.J7 k o W).2.2.2.2
   rw [F,m,r] at s
   apply aj;exact hC o p
   apply aj (b:=jX cq _ _ (.f (fa d)));refine bT (fi u) ?_;exact hC r p
   apply aj;exact gU _
   refine bT (show h.a2[d.t].bV.cg=b2 from s) ?_;exact c
 rw [qz,qz]
 exact c8 (b:=P) y eO
end
def ur(a:Cd):List Nat:=((a.a2.filter fun b=>b.bV.b8).map (·.t)++a.b6.map (·.cP))++a.cp
def Fb(a:Cd)(b:Nat):(ur a).contains b=a.c2 b:=by
 unfold ur Cd.c2
 rw [vJ]
 simp only [vO,decide_eq_true_eq,my,hJ,l3,LL,tS,B6,beq_iff_eq,and_assoc]
def wl(e:R)(c a:Option R):List bl:=.ad e.bV.cT::(match c with|none=>[] |some d=>.ad d.bV.cT::(match a with|none=>[] |some b=>[.ad b.bV.cT]))
noncomputable def wn(b a:Option R):Nat:=match b with|none=>1 |some _=>(match a with|none=>2 |some _=>3)
def FO(c:R)(b a:Option R):(wl c b a).length=wn b a:=by induction b<;>induction a<;>rfl
def M2(b a:Option R):1≤wn b a∧wn b a≤3:=by induction b<;>induction a<;>exact ⟨er rfl,er rfl⟩
def XE(c:R)(b a:Option R)(d:a.isSome→b.isSome):x6 (wl c b a++[.ad "",.ad ""]) b1 (O 3)=[.ad c.bV.cT,.ad (wd b),.ad (wd a)] :=by
 induction b<;>induction a<;>first|rfl|exact absurd (d rfl) (by decide)
structure VQ(c:Cd)(p:Nat)(o1 o2:Option R):Prop where
 o9:∀r',o1=O r'→c.a2[p+1]? =O r'∧c.c2 (p+1)=b2
 XF:∀r',o2=O r'→(∃r'',o1=O r'')∧c.a2[p+2]? =O r'∧c.c2 (p+2)=b2
section
variable{a:Nat}{b:Bool}
def WdL(f:Hd)(c:Cd)(e:Option bZ)(h:Nat)(g:R)(d:Nat):cV:=[O (.f (cf f c)),O (.f (.a3 (cU (ur c)))),e,O (.f (.Z h)),O (.f (eR g)),O (.cu d),b1,b1]
def RW{w:cK}{h:bS}{e:Cd}(F:e.a2.length≤500){i:Hd}{g:Nat}{f:R}{v:Option bZ}{K:KS}(W:e.a2[g]? =O f)(T:∀d c,VQ e g d c→K .cc (WdL i e v g f h.length) (h++[O (.a3 (wl f d c))])):
  qb (zx (vE ⟨cq,w⟩ n6)) (fG ⟨cq,w⟩ n7) K 1000 (WdL i e v g f h.length) (h++[O (.a3 (wl f b1 b1))]):=by
 refine wv (fun k G C=>∃d c,G=WdL i e v g f h.length∧C=h++[O (.a3 (wl f d c))] ∧3≤k+wn d c∧VQ e g d c) (fun k G C Y P I=>?_) (b:=2) ⟨b1,b1,rfl,rfl,dX 3,(fun n i=>cG i),(fun n i=>cG i)⟩ (by decide)
 refine bU fun l=>?_
 obtain ⟨d,c,rfl,rfl,u,A⟩:=P
 refine l ?_;try clear l
 have L:(wl f d c).length≤100000:=by rw [FO];exact cr (M2 d c).2 (by decide)
 have p:eW (h++[O (.a3 (wl f d c))]) ar 0 [.cu h.length] =O (.f (.Z (wn d c)),h++[O (.a3 (wl f d c))]):=by (refine bT (uo (en _ _ _) L) ?_;rw [FO])
 refine QV (b:=⟨cq,w⟩) (a:=dY ((wn d c:Int)<3)) (e:=dY (((g+wn d c:Nat):Int)<e.a2.length)) (f:=!e.c2 (g+wn d c)) (fun K m=>?_) (fun n K m=>?_) (fun n n K m=>?_) _ ?_
 ·apply aj;exact p
  exact m
 ·apply aj;exact p
  apply aj;exact eZ F
  exact m
 ·apply aj;exact p
  apply aj;exact sJ (ur e) (g+wn d c)
  rw [Fb];exact m
 refine cD (fun y=>?_) fun y=>T d c A
 rw [B6,B6] at y
 refine bU fun l=>?_
 obtain ⟨s,x,q⟩:=y
 refine l ?_;try clear l
 have s:=of_decide_eq_true s
 have x:g+wn d c<e.a2.length:=kY.mp (of_decide_eq_true x)
 have q:=nN q
 have o:e.a2[g+wn d c]? =O e.a2[g+wn d c] :=gS x
 apply aj;exact dK (en _ _ _)
 apply aj;exact p
 apply aj;exact hC o F
 apply aj;exact on L
 generalize e.a2[g+wn d c] =j at o⊢
 have X:=(M2 d c).2
 rcases d with _|t
 ·have r:wl f b1 c++[.ad j.bV.cT] =wl f (O j) b1:=rfl
  refine bT r ?_
  exact I (k-1) _ _ (abA u) ⟨O j,b1,rfl,rfl,abB u,fun Q z=>by obtain rfl:=dg z;exact ⟨o,q⟩,fun n i=>cG i⟩
 rcases c with _|aa
 ·have r:wl f (O t) b1++[.ad j.bV.cT] =wl f (O t) (O j):=rfl
  refine bT r ?_
  exact I (k-1) _ _ (abC u) ⟨O t,O j,rfl,rfl,abD k,A.o9,fun Q z=>by obtain rfl:=dg z;exact ⟨⟨_,rfl⟩,o,q⟩⟩
 ·exact absurd s (UL 3)
def XG{d:bS}{c:List bl}(e:c.length≤100000):jY d ar (.f (.a3 c)) (.f .bX) (.f (.Z 3))=iI d ar (x6 c b1 (O 3)):=if_pos e
def AH(i:Hd){d:Cd}(s:gR d b)(h:Bd d):PC (vC cq (a+3)) 59 [.f (cf i d)] (.b3 ar):=by
 refine bU fun j=>?_
 obtain ⟨u,X,ak,L⟩:=NI i d s.hM.cF h
 refine j ?_;try clear j
 refine pf rfl rfl rfl rfl fun al p l Y I=>?_
 have y:=h.iB.1
 have ag:=h.a2
 have an:=h.b6
 have ao:=h.cp
 have ah:=r7 (fun c:R=>c.bV.b8) d.a2
 apply aj;exact ef y
 refine k6 eR (fun c=>c.bV.b8) (fun c=>fa c) (fun c T K A Q W=>?_) ?_
 ·apply aj;exact AF _ _
  refine cD (fun n=>Q ((kl _).symm.trans n)) fun n=>W ((kl _).symm.trans n)
 rw [Gp,show ((d.a2.filter fun c=>c.bV.b8).map fun c=>fa c)=cU ((d.a2.filter fun c=>c.bV.b8).map (·.t)) by
  unfold cU;refine bT lO ?_;exact y9 fun c A=>fi (l3.mp A).2]
 apply aj;exact lh (by rw [et];lia)
 apply aj;exact ef h.iB.2.1
 refine iD k0 (fun r=>e8 r.cP) (fun r T K aq ac=>ac) ?_
 rw [show (d.b6.map fun r=>e8 r.cP)=cU (d.b6.map (·.cP)) by unfold cU;refine bT lO ?_;rfl]
 apply aj;exact lh (by rw [et];exact h.iB.2.1)
 apply aj;exact oO (by (refine bT dZ ?_;rw [et,et]);lia)
 apply aj;exact oO (by (refine bT dZ ?_;refine bT dZ ?_;rw [et,et]);lia)
 refine pc p (L _) ?_
 apply aj;exact m3 y
 refine wo (fun z x=>∃o k m g,z=[O (.f (cf i d)),O (.f (.a3 (cU (ur d)))),O (.f (.a3 (cU u))),o,k,m,b1,b1] ∧x=l++g) (fun am z x af P v aa=>?_) ⟨_,_,_,[],rfl,(kX _).symm⟩ fun z x v=>?_
 ·refine bU fun j=>?_
  obtain ⟨o,k,m,g,rfl,rfl⟩:=v
  obtain ⟨q,c,t,rfl⟩:=DT P
  refine j ?_;try clear j
  apply aj;exact g4 (er rfl)
  refine RW y t fun f e w=>?_
  have G:u.contains q=ar:=by
   rw [vO]
   exact decide_eq_true ((X q).mpr (s.J5.2 q (fJ.mp t).1))
  apply aj;exact sJ u q
  refine ed (by refine bT G ?_;rfl) ?_
  have F:(wl c f e++[bl.ad "",bl.ad ""]).length≤100000:=by
   (refine bT dZ ?_;rw [FO])
   exact cr (m7 (M2 f e).2 _) (er rfl)
  have ab:pn (l++g++[O (.a3 (wl c f e))]) ar .dc (.cu (l++g).length) (.f (.a3 [.ad "",.ad ""]))=O (.f (.a3 (wl c f e++[.ad "",.ad ""])),l++g++[O (.a3 (wl c f e))]):=by
   have p:kI (l++g++[O (.a3 (wl c f e))]) (.cu (l++g).length)=O (wl c f e):=FC (en _ _ _)
   show (kI _ _).bind _=_
   refine bT p ?_;exact lw F
  apply aj;exact ab
  apply aj;exact (XG F).trans (by
   rw [XE c f e (by
    induction e with
    |none=>exact fun i=>dy i
    |some ae=>obtain ⟨⟨ai,p⟩,_⟩:=w.XF ae rfl;intro _;refine bT p ?_;rfl)]
   exact lw (er rfl))
  refine pc p (Fa i s h t f e w.o9 w.XF) ?_
  apply aj;exact AF _ _
  have C:∀(o k m:Option bZ),af [O (.f (cf i d)),O (.f (.a3 (cU (ur d)))),O (.f (.a3 (cU u))),o,k,m,b1,b1] (l++g++[O (.a3 (wl c f e))]):=fun o k m=>aa _ _ ⟨o,k,m,g++[O (.a3 (wl c f e))],rfl,m8 ..⟩
  refine cD (fun n=>?_) fun n=>?_
  ·refine pc p (E9 i s h t ((kl _).symm.trans n)) ?_
   exact C _ _ _
  ·exact ed n (C _ _ _)
 ·refine bU fun j=>?_
  obtain ⟨o,k,m,g,rfl,rfl⟩:=v
  refine j ?_;try clear j
  exact c8 (b:=Y) I (jB _ _)
end
def tF(a:Hd):Prop:=(gh a.dm=ar)∧(gh a.cJ=ar)∧(gh a.b9=ar)∧(∃b,a.gc=.a3 b∧b.length≤100∧∀c∈b,gh c=ar)
section
variable{b:Hd}(a:tF b)
include a
def tF.dm:gh b.dm=ar:=a.1
def tF.cJ:gh b.cJ=ar:=a.2.1
def tF.b9:gh b.b9=ar:=a.2.2.1
def tF.gc:∃c,b.gc=.a3 c∧c.length≤100∧∀d∈c,gh d=ar:=a.2.2.2
end
def M3(a:R):bl:=.cQ [.ad a.bV.cT,.ad ((gY (fa a)).getD ""),a.b,a.c,.Z a.e6]
noncomputable def M4(a:Ct):bl:=.cQ [a.mF,.Z a.d1,.Z a.iz,.Z a.cP,.Z a.dG]
def nO(a:Hd)(b:Cd)(c:List bl):bl:=.a3 [a.dm,a.cJ,a.b9,a.gc,.a3 (b.a2.map M3),.a3 (b.b6.map M4),.a3 (cU b.cp),.a3 c]
def k1(b:Nat)(a:bl):Prop:=nt b a a=O ar
def fC{b:Nat}{a:bl}(c:gh a=ar):k1 (b+1) a:=by
 cases a<;>first|rfl|exact congrArg O (beq_self_eq_true _)|exact dy c
def AI{c:Nat}:∀{a:List bl},(∀b∈a,k1 c b)→sg (nt c) a a=O ar:=by
 intro a
 induction a with
 |nil=>
  intro _
  exact rfl
 |cons b a f=>
  intro d
  show (nt c b b).bind _=_
  (refine bT (d b fD) ?_;rewrite [tn];refine bT (f fun g e=>d g (ia _ e)) ?_)
  rfl
def j8{b:Nat}{a:List bl}(d:∀c∈a,k1 b c):k1 (b+1) (.a3 a):=by
 show (if a.length=a.length then sg (nt b) a a else O b2)=_
 (refine bT (if_pos rfl) ?_;refine bT (AI d) ?_;rfl)
def xS{b:Nat}{a:List bl}(d:∀c∈a,k1 b c):k1 (b+1) (.cQ a):=by
 show (if a.length=a.length then sg (nt b) a a else b1)=_
 (refine bT (if_pos rfl) ?_;refine bT (AI d) ?_;rfl)
def Km{b:Nat}(a:List Nat):k1 (b+2) (.a3 (cU a)):=j8 fun d c=>by
 obtain ⟨e,_,rfl⟩:=hJ.mp c
 exact fC rfl
def XH{e:Nat}{d:Bool}{a:R}(f:a.cF d=ar):k1 (e+2) (M3 a):=by
 obtain ⟨_,g,c⟩:=FL f
 refine xS fun h b=>?_
 simp only [eP,gD,or_false] at b
 rcases b with rfl|rfl|rfl|rfl|rfl
 ·exact fC rfl
 ·exact fC rfl
 ·exact fC g
 ·exact fC c
 ·exact fC rfl
def XI{c:Nat}{a:Ct}(d:gh a.mF=ar):k1 (c+2) (M4 a):=by
 refine xS fun e b=>?_
 simp only [eP,gD,or_false] at b
 rcases b with rfl|rfl|rfl|rfl|rfl
 ·exact fC d
 ·exact fC rfl
 ·exact fC rfl
 ·exact fC rfl
 ·exact fC rfl
def s5(a:Cd):Prop:=∀b∈a.b6,gh b.mF=ar
def rB{i:Nat}{j:Hd}{f:Cd}{h:List bl}{o:Bool}(d:tF j)(q:s5 f)(k:∀g∈f.a2,g.cF o=ar)(p:∀c∈h,k1 (i+3) c):k1 (i+5) (nO j f h):=by
 refine j8 fun c a=>?_
 simp only [eP,gD,or_false] at a
 refine bU fun b=>?_
 obtain ⟨r,l,_,n⟩:=d.gc
 refine b ?_;try clear b
 rcases a with rfl|rfl|rfl|rfl|rfl|rfl|rfl|rfl
 ·exact fC d.dm
 ·exact fC d.cJ
 ·exact fC d.b9
 ·refine bT l ?_;exact j8 fun c a=>fC (n c a)
 ·exact j8 fun c a=>by
   refine bU fun b=>?_
   obtain ⟨g,e,rfl⟩:=hJ.mp a
   refine b ?_;try clear b
   exact XH (k g e)
 ·exact j8 fun c a=>by
   refine bU fun b=>?_
   obtain ⟨m,e,rfl⟩:=hJ.mp a
   refine b ?_;try clear b
   exact XI (q m e)
 ·exact Km _
 ·exact j8 p
def RX{q:Bool}{e:R}(g:e.cF q=ar)(m:e.bV.b8=ar→e.t≤1000):gY (fa e)=O ((gY (fa e)).getD ""):=by
 have l:∃c,gY (fa e)=O c:=by
  have o:∀{b:bl},dW b=ar→∃c,gY b=O c:=fun f=>by refine bT (iA f) ?_;exact ⟨_,rfl⟩
  have h:∀{b:bl},rP 0 b=ar→∃c,gY b=O c:=fun f=>by refine bT (mG f) ?_;exact ⟨_,rfl⟩
  have d:∀{i:b4}{b:bl},(GK i).length≤100000→lv i b=ar→∃c,gY b=O c:=fun n f=>by refine bT (j1 f) ?_;exact ⟨_,if_pos n⟩
  refine bU fun j=>?_
  obtain ⟨p,k,v,w,s,u⟩:=e
  refine j ?_;try clear j
  induction p
  case hV|e5|eL|cI=>exact ⟨_,if_pos (show (k:Int).natAbs<_ from kT (m rfl) (by decide))⟩
  all_goals refine eE (show _=ar from g) fun g r=>eE g fun a t=>?_
  all_goals first
   |exact uV a
   |exact o a
   |exact h a
   |exact h (iX.mp a).2
   |exact d (i:="@x") (by decide+kernel) a
   |exact d (i:="$x") (by decide+kernel) a
   |exact d (i:="C") (by decide+kernel) a
   |exact d (i:="u") (by decide+kernel) a
   |exact d (i:="E") (by decide+kernel) a
   |exact oX a (d (i:="t") (by decide+kernel)) (d (i:="u") (by decide+kernel))
 obtain ⟨c,f⟩:=l
 refine bT f ?_;rfl
section
variable{a:Nat}{b:Bool}
def FP{c:bS}{d:bl}{e:b4}(g:gY d=O e){fz:Bool}:eW c fz 6 [.f d] =O (.f (.ad e),c):=congrArg (nG fun f=>(bZ.f (.ad f),c)) g
def AJ{p:Type}(d:Hd){i:Cd}(v:tF d)(C:Bd i)(s:∀c∈i.a2,c.cF b=ar)(w:∀c∈i.a2,c.bV.b8=ar→c.t≤1000)(e:List p)(g m:p→bl)(o:e.length≤500)(A:∀j∈e,PC (vC cq a) 54 [.f (g j)] (m j)):
  PC (vC cq (a+1)) 54 [.f (cf (d.wk (e.map g)) i)] (nO d i (e.map m)):=pf rfl rfl rfl rfl fun I G h y t=>by
 refine bU fun l=>?_
 obtain ⟨n,r,u⟩:=C.iB
 refine l ?_;try clear l
 apply aj;exact ef n
 refine iD eR M3 (fun c q K f k=>?_) ?_
 ·apply aj;exact FP (RX (s c f) (w c f))
  exact k
 apply aj;exact lh n
 apply aj;exact ef r
 refine iD k0 M4 (fun j q K f k=>k) ?_
 apply aj;exact lh r
 apply aj;exact ef (c:=g) o
 refine iD g m (fun j q K f k=>pc G (A j f) k) ?_
 apply aj;exact lh o
 refine bU fun l=>?_
 obtain ⟨L,F,z,_⟩:=v.gc
 refine l ?_;try clear l
 have x:∀h,eW h ar 1 [.f (d.wk (e.map g)).gc] =O (.f d.gc,h):=fun h=>by
  show eW h ar 1 [.f d.gc] =_
  refine bT F ?_;exact lw (cr z (by decide))
 apply aj;exact x _
 apply aj;exact BL (e:=e8) u
 exact c8 (b:=y) t eO
def wz(c:pd):Prop:=(tF c.1)∧(Bd c.2)∧(∀d∈c.2.a2,d.cF b2=ar)∧(∀d∈c.2.a2,d.bV.b8=ar→d.t≤1000)∧(c.1.fB=[])
section
variable{d:pd}(c:wz d)
include c
def wz.hd:tF d.1:=c.1
def wz.bd:Bd d.2:=c.2.1
def wz.cF:∀e∈d.2.a2,e.cF b2=ar:=c.2.2.1
def wz.Kn:∀e∈d.2.a2,e.bV.b8=ar→e.t≤1000:=c.2.2.2.1
def wz.bX:d.1.fB=[] :=c.2.2.2.2
end
def O6(c:pd)(K:wz c):PC (vC cq (a+1)) 54 [.f (ez c)] (nO c.1 c.2 []):=by
 have:=AJ (a:=a) c.1 K.hd K.bd K.cF K.Kn ([] :List Unit) (fun d=>.bX) (fun d=>.bX) (fy _) (fun d e=>absurd e gD)
 rw [Ck,Hd.BJ K.bX] at this
 exact this
def NJ(f:Hd){e:Cd}(l:tF f)(n:Bd e)(h:∀g∈e.a2,g.cF b=ar)(i:∀g∈e.a2,g.bV.b8=ar→g.t≤1000){d:List pd}(j:d.length≤500)(m:∀c∈d,wz c):
  PC (vC cq (a+2)) 54 [.f (cf (f.wk (d.map ez)) e)] (nO f e (d.map fun c=>nO c.1 c.2 [])):=
 AJ f l n h i d ez _ j fun c k=>O6 c (m c k)
end
def O7{a b:bS}(d:bS)(c:b.take a.length=a):(b++d).take a.length=a:=by
 have:a.length≤b.length:=by
  have:=congrArg qE c
  rw [zd] at this;lia
 (refine bT (TN this) ?_;refine bT c ?_;rfl)
structure iZ(σ τ:bS)(ks:Nat)(sk:List bl)(kd:Kd)(de:List bl):Prop where
 jm:τ[ks]? =O (O (.a3 sk.reverse))
 ek:τ[σ.length+1]? =O (O (.a3 de))
 fU:τ[σ.length+2]? =O (O (.eg kd))
 ju:τ.take σ.length=σ
 mC:σ.length≤ks
 n1:ks≠σ.length+1
 Ko:ks≠σ.length+2
def qw{a b:bS}{c:Nat}{d:Option dw}(f:b.take a.length=a)(e:a.length≤c):(b.set c d).take a.length=a:=by
 (refine bT (List.take_set_of_le e) ?_;refine bT f ?_;rfl)
section
variable{b a:bS}{c:Nat}{g:List bl}{e:Kd}{d:List bl}
def iZ.l9(f:iZ b a c g e d)(i h:List bl)(j:h=i.reverse):iZ b (a.set c (O (.a3 h))) c i e d:=by
 subst j
 have k:=(fJ.mp f.jm).1
 refine ⟨by simp [k],?_,?_,qw f.ju f.mC,f.mC,f.n1,f.Ko⟩
 ·rw [pi f.n1];exact f.ek
 ·rw [pi f.Ko];exact f.fU
def iZ.xT(f:iZ b a c g e d)(h:List bl):iZ b (a.set (b.length+1) (O (.a3 h))) c g e h:=by
 have i:=(fJ.mp f.ek).1
 refine ⟨?_,by simp [i],?_,qw f.ju (by lia),f.mC,f.n1,f.Ko⟩
 ·rw [pi (Cv f.n1)];exact f.jm
 ·rw [pi (by lia)];exact f.fU
def iZ.O8(f:iZ b a c g e d)(h:Kd):iZ b (a.set (b.length+2) (O (.eg h))) c g h d:=by
 have i:=(fJ.mp f.fU).1
 refine ⟨?_,?_,by simp [i],qw f.ju (by lia),f.mC,f.n1,f.Ko⟩
 ·rw [pi (Cv f.Ko)];exact f.jm
 ·rw [pi (by lia)];exact f.ek
def iZ.mN(f:iZ b a c g e d)(i h:List bl)(j:h=i.reverse):iZ b (a++[O (.a3 h)]) a.length i e d:=by
 subst j
 have k:=(fJ.mp f.ek).1
 have l:=(fJ.mp f.fU).1
 refine ⟨en _ _ _,?_,?_,O7 _ f.ju,by lia,by lia,by lia⟩
 ·rw [ph k];exact f.ek
 ·rw [ph l];exact f.fU
def Eb{h:bl}{k:Sum Int b4}{f:Nat}{l:Kd}{m:bl}(i:a[f]? =O (O (.eg l)))(n:jM h=O k)(j:fA k l=O m):jX cq a (.cu f) (.f h)=O m:=by
 cases h<;>first|cases n|skip
 ·show (nG bl.a3 (il a f)).elim ((ml a f).bind _) _=_
  (refine bT (BF i) ?_;refine bT (qP i) ?_)
  exact j
 ·show (ml a f).bind _=_
  refine bT (qP i) ?_
  exact j
def O9{i k:bl}{j:Sum Int b4}{f:Nat}{h:Kd}(l:a[f]? =O (O (.eg h)))(n:jM i=O j)(m:h.length≤1000):l4 a (.cu f) (.f i) (.f k)=O (a.set f (O (.eg (gF h j k)))):=by
 show (il a f).elim ((ml a f).bind _) _=_
 (refine bT (BF l) ?_;refine bT (qP l) ?_)
 refine (if_pos m).trans ?_
 show (jM i).map _=_
 refine bT n ?_;rfl
def wA{i:Nat}{h:bl}{f:List bl}(m:a[i]? =O (O (.a3 (h::f).reverse)))(l:f.length+1≤100000):jk cq a .gy (.cu i) [] =O (.f h,a.set i (O (.a3 f.reverse))):=by
 have k:(h::f).reverse=f.reverse++[h] :=uN
 have j:(h::f).reverse.length-1=f.reverse.length:=by (refine bT rd ?_;refine bT rd ?_);rfl
 rw [VH m (by refine bT rd ?_;exact l) (by (refine bT j ?_;refine bT k ?_;rw [la (dX _),pg]);rfl),j,k,LZ (dX _),pg]
 (refine bT (show [h].eraseIdx 0=[] from rfl) ?_;rw [kX])
def Kp{j:Nat}{h i:bl}{f:List bl}(n:a[j]? =O (O (.a3 (h::i::f).reverse)))(l:f.length+2≤100000):jk cq a .gy (.cu j) [.f (.Z (-2))] =O (.f i,a.set j (O (.a3 (h::f).reverse))):=by
 have k:(h::i::f).reverse=f.reverse++[i,h] :=by (refine bT uN ?_;refine bT uN ?_;rw [m8]);rfl
 have m:g8 (-2) (h::i::f).reverse.length=O f.reverse.length:=by
  unfold g8
  rw [rd,rd,if_neg (by decide),if_pos (by (refine bT lZ ?_;refine bT lZ ?_);lia)]
  (refine bT lZ ?_;refine bT lZ ?_);congr 1;lia
 rw [aah n (by refine bT rd ?_;exact l) m (by (refine bT k ?_;rw [la (dX _),pg]);rfl),k,LZ (dX _),pg,uN]
 rfl
def I5{i:Nat}{h:bl}{f:List bl}(k:a[i]? =O (O (.a3 (h::f).reverse))):jX cq a (.cu i) (.f (.Z (-1)))=O h:=by
 show (ud a (.cu i)).elim _ _=_
 refine bT (xb k) ?_
 have j:g8 (-1) (h::f).reverse.length=O f.reverse.length:=by
  unfold g8
  rw [rd,rd,if_neg (by decide),if_pos (by refine bT lZ ?_;lia)]
  refine bT lZ ?_;congr 1;lia
 refine (congrArg (jG · _) j).trans ?_
 show (h::f).reverse[f.reverse.length]? =_
 (refine bT uN ?_;rw [la (dX _),pg]);rfl
end
section
variable{a:Nat}
def Kq{b:bl}(f:∀(c:bS)(d:KE),vC cq (a+1) 60 [.f b] c d=d (.f (.b3 (dI b))) (c.take c.length)):PC (vC cq (a+1)) 60 [.f b] (.b3 (dI b)):=⟨fun c d e=>by
 (rewrite [f];refine bT eO ?_);exact e⟩
set_option tactic.hygienic true in
def RY{c:bl}(b:gZ c=true):PC (vC cq (a+1)) 60 [.f c] (.b3 (dI c)):=by
 refine Kq fun g e=>?_
 unfold gZ at b
 split at b
 ·kernel_rfl
 ·rename_i d
  induction d<;>kernel_rfl
 ·simp only [Bool.or_eq_true,beq_iff_eq] at b
  rcases b with rfl|rfl<;>kernel_rfl
 ·rename_i f
  simp only [List.contains_eq_mem,decide_eq_true_eq,List.mem_cons,List.not_mem_nil,or_false] at b
  rcases b with rfl|rfl|rfl|rfl|rfl|rfl<;>kernel_rfl
 ·exact Bool.noConfusion b
end
noncomputable def fo:Nat→cW→cW
 | 0,a=>a
 |c+1,.J _ b=>fo c b
 |_+1,.N=>.N
def xe(a:Op):b4:=MJ a.cT b1 (O 3)
def wB(b:bS)(a:Op):jY b ar (.f (.ad a.cT)) (.f .bX) (.f (.Z 3))=O (.f (.ad (xe a)),b):=if_pos (of_decide_eq_true (jf (b:=fun a=>dY (a.cT.length≤100000)) (by kernel_rfl) a))
noncomputable def CV:Op→Bool
 |.kB|.uQ|.uR=>ar
 |_=>b2
def yl(a:Op):(xe a==("get":b4))=CV a:=dr (jf (b:=fun a=>(xe a==("get":b4))==CV a) (by kernel_rfl) a)
def ym(a:Op):(xe a==("set":b4))=a.fQ:=dr (jf (b:=fun a=>(xe a==("set":b4))==a.fQ) (by kernel_rfl) a)
def AK(a:Op):Bool:=a== .nv||(a== .sq||a== .j0)
def CW(a:Op):Bool:=a== .d0||(a== .iQ||(a== .g9||AK a))
def aam:(fu.all fun a=>eA (ic (.ad a.cT) [.ad "getl",.ad "setl"]) (a== .kB||a== .kC))=ar:=by kernel_rfl
def NK:(fu.all fun a=>eA (ic (.ad a.cT) [.ad "text",.ad "undef",.ad "lambda"]) (AK a))=ar:=by kernel_rfl
def VR:(fu.all fun a=>eA (ic (.ad a.cT) [.ad "push",.ad "self",.ad "blockgiven",.ad "text",.ad "undef",.ad "lambda"]) (CW a))=ar:=by kernel_rfl
def m4:Nat→Op→Bool
 | 2,a=>AK a
 | 3,a=>CW a
 | 4,a=>CV a
 | 5,a=>a.fQ
 | 6,a=>a== .gy
 | 7,a=>a== .kq
 | 8,a=>a== .dt
 | 9,a=>a== .ew
 | 10,a=>a== .cI||a== .eL
 | 11,a=>a.cg
 | 12,a=>a== .gx ()
 |_,_=>ar
noncomputable abbrev RL(i:Hd)(k:Cd)(h:bl)(d:Bool)(e:Option bZ)(j:bl)(c:Nat)(a:bS)(l b g f:Option bZ):cV:=[O (.f (cf i k)),O (.f h),O (.f (.b3 d)),e,O (.f j),O (.cu c),O (.cu (a.length+1)),O (.cu (a.length+2)),l,b,g,f,b1]
section
variable{o:cK}{j:Hd}{m:Cd}{i:bl}{d:Bool}{e:Option bZ}{l:bl}{c:Nat}{k b:bS}{n h g:Option bZ}{K:KS}{a:Op}
def ut{a:Op}(f:Op)(p:(a==f)=b2):(a.cT==f.cT)=b2:=(gp a f).trans p
def aan:∀q:Nat,q<13→m4 q a=b2→fG ⟨cq,o⟩ (fo (q+1) c1) (RL j m i d e l c k n (O (.f (.ad a.cT))) h g) b K→fG ⟨cq,o⟩ (fo q c1) (RL j m i d e l c k n (O (.f (.ad a.cT))) h g) b K:=
 oB (fun f s=>dy f) (oB (fun f s=>dy f) (oB (fun f p=>aj (qf NK a) (ed f p)) (oB (fun f p=>aj (qf VR a) (ed f p)) (oB (fun f p=>aj (wB _ a) (ed ((yl a).trans f) p)) (oB (fun f p=>aj (wB _ a) (ed ((ym a).trans f) p))
  (oB (fun f p=>ed (ut .gy f) p) (oB (fun f p=>ed (ut .kq f) p) (oB (fun f p=>ed (ut .dt f) p) (oB (fun f p=>ed (ut .ew f) p) (oB (fun f p=>have r:=Ga.mp f;ed (ut .cI r.1) (ed (ut .eL r.2) (ed (ut .eL r.2) p)))
   (oB (fun f p=>aj (gU a) (ed f (ed f p))) (oB (fun f p=>ed (ut (.gx ()) f) p) Wg))))))))))))
def mw:∀(p f:Nat),f+p≤13→((f5 p).all fun q=>!m4 (f+q) a)=ar→fG ⟨cq,o⟩ (fo (f+p) c1) (RL j m i d e l c k n (O (.f (.ad a.cT))) h g) b K→fG ⟨cq,o⟩ (fo f c1) (RL j m i d e l c k n (O (.f (.ad a.cT))) h g) b K:=by
 intro p
 induction p with
 |zero=>
  intro f _ _ r
  exact r
 |succ p v=>
  intro f u w r
  have t:∀q<p+1,m4 (f+q) a=b2:=fun q s=>nN (lD.mp w q (nf.mpr s))
  refine aan f (hH (B7 (nI p)) u) (t 0 (nI p)) (v (f+1) (nS f 1 p▸u) (lD.mpr fun q s=>?_) (nS f 1 p▸r))
  have:=t (q+1) (Ge (nf.mp s))
  (refine bT (show f+1+q=f+(q+1) from nS f 1 q) ?_;refine bT this ?_);rfl
def kt(f p:Nat)(q:f+p=13)(t:((f5 p).all fun s=>!m4 (f+s) a)=ar)(r:K .cc (RL j m i d e l c k n (O (.f (.ad a.cT))) h g) b):fG ⟨cq,o⟩ (fo f c1) (RL j m i d e l c k n (O (.f (.ad a.cT))) h g) b K:=
 mw p f (jH q) t (q▸r)
end
def gd(a:R):bl:=if a.bV== .kB||a.bV== .kC then a.b else fa a
def Kr{a:R}(b:a.bV.b8=b2):gd a=oG a:=by
 unfold gd oG
 cases c:a.bV<;>first|rfl|(unfold fa;refine bT b ?_;rfl)|(rw [c] at b;cases b)
def wC(b:Bool)(a:R):bl:=if a.bV== .d0 then gd a else if a.bV== .g9 then .b3 b else .ad a.bV.cT
def RZ{a:Op}(c:CW a=ar):((f5 9).all fun b=>!m4 (4+b) a)=ar:=by
 have:=jf (b:=fun a=>!CW a||(f5 9).all fun b=>!m4 (4+b) a) (by kernel_rfl) a
 rw [c] at this;exact this
section
variable{r:cK}{x:Nat}{h:Hd}{g:Cd}{j:bl}{e:Bool}{k:Option bZ}{o:bl}{c:Nat}{d l:bS}{p w s i:Option bZ}{K:KS}{a:R}{n:List bl}{q:Kd}{m:List bl}
def R0{y:Nat}{z:bl}(C:g.a2[y]? =O a)(A:g.a2.length≤500)(f:fG ⟨cq,r⟩ (fo 2 c1) (RL h g j e (O (.f z)) (.Z ((y+1:Nat):Int)) c d (O (.f (eR a))) (O (.f (.ad a.bV.cT))) (O (.f (gd a))) i) l K):
  jP (RL h g j e k (.Z y) c d p w s i) [3] b2 z fun F=>fG ⟨cq,r⟩ c1 F l K:=by
 apply aj;exact hC C A
 apply aj;exact qf aam a.bV
 unfold gd at f
 refine cD (fun t=>?_) fun t=>?_
 ·rw [if_pos t] at f;exact f
 ·rw [if_neg (by refine bT t ?_;exact kx)] at f;exact f
variable(b:iZ d l c n q m)(u:n.length≤1000)(v:m.length≤1000)
include b u v
theorem I6(L:CW a.bV=ar)(y:∀t,iZ d t c (wC e a::n) q (if AK a.bV then m++[.ad a.bV.cT] else m)→K .cc (RL h g j e k o c d p (O (.f (.ad a.bV.cT))) (O (.f (gd a))) i) t):
  fG ⟨cq,r⟩ (fo 2 c1) (RL h g j e k o c d p (O (.f (.ad a.bV.cT))) (O (.f (gd a))) i) l K:=by
 have P:∀{F:Nat},F≤1000→F≤100000:=fun h=>cr h (by decide)
 have G:∀{l:bS}{m:List bl},iZ d l c n q m→(∀t,iZ d t c (wC e a::n) q m→K .cc (RL h g j e k o c d p (O (.f (.ad a.bV.cT))) (O (.f (gd a))) i) t)→fG ⟨cq,r⟩ (fo 3 c1) (RL h g j e k o c d p (O (.f (.ad a.bV.cT))) (O (.f (gd a))) i) l K:=fun {l m} b y=>by
  have A:∀z,wC e a=z→fG ⟨cq,r⟩ (fo 4 c1) (RL h g j e k o c d p (O (.f (.ad a.bV.cT))) (O (.f (gd a))) i) (l.set c (O (.a3 (n.reverse++[z])))) K:=fun z Q=>
   kt 4 9 rfl (RZ L) (y _ (b.l9 (wC e a::n) _ (by (refine bT uN ?_;refine bT Q ?_;rfl))))
  have C:n.reverse.length≤100000:=by refine bT rd ?_;exact P u
  apply aj;exact qf VR a.bV
  refine gL L ?_
  apply aj;exact dK b.jm
  refine cD (fun f=>?_) fun f=>?_
  ·apply aj;exact io b.jm C
   exact A _ (by unfold wC;(refine bT (if_pos ((gp a.bV .d0).symm.trans f)) ?_;rfl))
  ·have I:wC e a=if a.bV== .g9 then .b3 e else .ad a.bV.cT:=by unfold wC;rw [if_neg (by refine bT ((gp a.bV .d0).symm.trans f) ?_;exact kx)]
   refine cD (fun f=>?_) fun f=>?_
   ·apply aj;exact io b.jm C
    exact A _ (by (refine bT I ?_;refine bT (if_pos ((gp a.bV .g9).symm.trans f)) ?_;rfl))
   ·apply aj;exact io b.jm C
    exact A _ (by rw [I,if_neg (by refine bT ((gp a.bV .g9).symm.trans f) ?_;exact kx)])
 apply aj;exact qf NK a.bV
 refine cD (fun f=>?_) fun f=>?_<;>rw [f] at y
 ·apply aj;exact dK b.ek
  apply aj;exact io b.ek (P v)
  exact G (b.xT _) y
 ·exact G b y
theorem R1{A:Sum Int b4}{t:bl}(C:CV a.bV=ar)(P:jM (gd a)=O A)(G:fA A q=O t)(I:∀z,iZ d z c (t::n) q m→K .cc (RL h g j e k o c d p (O (.f (.ad a.bV.cT))) (O (.f (gd a))) i) z):
  fG ⟨cq,r⟩ (fo 2 c1) (RL h g j e k o c d p (O (.f (.ad a.bV.cT))) (O (.f (gd a))) i) l K:=by
 have F:=jf (b:=fun f=>!CV f||(((f5 2).all fun y=>!m4 (2+y) f)&&(f5 8).all fun y=>!m4 (5+y) f)) (by kernel_rfl) a.bV
 rw [C] at F
 obtain ⟨L,Q⟩:=iX.mp F
 refine mw 2 2 (by decide) L ?_
 apply aj;exact wB _ a.bV
 refine gL ((yl a.bV).trans C) ?_
 apply aj;exact dK b.jm
 apply aj;exact Eb b.fU P G
 apply aj;exact io b.jm (by refine bT rd ?_;exact cr u (by decide))
 exact kt 5 8 rfl Q (I _ (b.l9 (t::n) _ uN.symm))
theorem R2{f:List bl}{A:Sum Int b4}{y:bl}{L:b4}(T:q.length≤1000)(P:a.bV.fQ=ar)(Q:jM (gd a)=O A)(W:gY y=O L)(ab:n=y::f)(Y:∀I,iZ d I c f (gF q A y) (m++[.cQ [.ad a.bV.cT,gd a,.ad L]])→K .cc (RL h g j e k o c d p (O (.f (.ad a.bV.cT))) (O (.f (gd a))) i) I):
  fG ⟨cq,r⟩ (fo 2 c1) (RL h g j e k o c d p (O (.f (.ad a.bV.cT))) (O (.f (gd a))) i) l K:=by
 subst ab
 have F:=jf (b:=fun C=>!C.fQ||(((f5 3).all fun z=>!m4 (2+z) C)&&(f5 7).all fun z=>!m4 (6+z) C)) (by kernel_rfl) a.bV
 rw [P] at F
 obtain ⟨aa,X⟩:=iX.mp F
 have R:f.length+1≤100000:=cr u (by decide)
 refine mw 3 2 (by decide) aa ?_
 apply aj;exact wB _ a.bV
 refine gL ((ym a.bV).trans P) ?_
 apply aj;exact mY b.jm
 apply aj;exact wA b.jm R
 have G:=b.l9 f f.reverse rfl
 apply aj;exact O9 G.fU Q T
 have t:=G.O8 (gF q A y)
 apply aj;exact dK t.ek
 apply aj;exact Eb t.fU Q (by (rewrite [ug];refine bT (if_pos rfl) ?_;rfl))
 apply aj;exact FP W
 apply aj;exact io t.ek (cr v (by decide))
 exact kt 6 7 rfl X (Y _ (t.xT _))
theorem R3{A:bl}{f:List bl}(t:a.bV=.gy)(C:n=A::f)(z:∀y,iZ d y c f q m→K .cc (RL h g j e k o c d p (O (.f (.ad a.bV.cT))) s i) y):
  fG ⟨cq,r⟩ (fo 2 c1) (RL h g j e k o c d p (O (.f (.ad a.bV.cT))) s i) l K:=by
 subst C
 refine mw 4 2 (by decide) (by refine bT t ?_;rfl) ?_
 refine gL ((gp a.bV .gy).trans (by refine bT t ?_;rfl)) ?_
 apply aj;exact mY b.jm
 apply aj;exact wA b.jm (cr u (by decide))
 exact kt 7 6 rfl (by refine bT t ?_;rfl) (z _ (b.l9 f _ rfl))
theorem R4{f:bl}{t:List bl}(y:a.bV=.kq)(C:n=f::t)(A:∀z,iZ d z c (f::f::t) q m→K .cc (RL h g j e k o c d p (O (.f (.ad a.bV.cT))) s i) z):
  fG ⟨cq,r⟩ (fo 2 c1) (RL h g j e k o c d p (O (.f (.ad a.bV.cT))) s i) l K:=by
 subst C
 refine mw 5 2 (by decide) (by refine bT y ?_;rfl) ?_
 refine gL ((gp a.bV .kq).trans (by refine bT y ?_;rfl)) ?_
 apply aj;exact dK b.jm
 apply aj;exact I5 b.jm
 apply aj;exact io b.jm (by refine bT rd ?_;exact cr u (by decide))
 exact kt 8 5 rfl (by refine bT y ?_;rfl) (A _ (b.l9 (f::f::t) _ uN.symm))
theorem Pa{t y:bl}{f:List bl}(z:a.bV=.dt)(G:n=t::y::f)(F:∀A,iZ d A c (y::t::f) q m→K .cc (RL h g j e k o c d p (O (.f (.ad a.bV.cT))) s i) A):
  fG ⟨cq,r⟩ (fo 2 c1) (RL h g j e k o c d p (O (.f (.ad a.bV.cT))) s i) l K:=by
 subst G
 refine mw 6 2 (by decide) (by refine bT z ?_;rfl) ?_
 refine gL ((gp a.bV .dt).trans (by refine bT z ?_;rfl)) ?_
 apply aj;exact dK b.jm
 apply aj;exact mY b.jm
 apply aj;exact Kp b.jm (cr u (by decide))
 have C:=b.l9 (t::f) (t::f).reverse rfl
 apply aj;exact io C.jm (by refine bT rd ?_;exact cr (lC u) (by decide))
 exact kt 9 4 rfl (by refine bT z ?_;rfl) (F _ (C.l9 (y::t::f) _ uN.symm))
theorem Ks{C:bl}{f:List bl}{F:b4}(t:a.bV=.ew)(P:n=C::f)(I:gY C=O F)(G:∀Q z,z.take d.length=d→K (.cw (.f (.cQ [.a3 (m++[.cQ [.ad "leave",.ad F]]),.b3 ar]))) Q z):
  fG ⟨cq,r⟩ (fo 2 c1) (RL h g j e k o c d p (O (.f (.ad a.bV.cT))) s i) l K:=by
 subst P
 refine mw 7 2 (by decide) (by refine bT t ?_;rfl) ?_
 refine gL ((gp a.bV .ew).trans (by refine bT t ?_;rfl)) ?_
 apply aj;exact mY b.jm
 apply aj;exact wA b.jm (cr u (by decide))
 apply aj;exact FP I
 have A:=b.l9 f f.reverse rfl
 have L:∀y:bl,pn (l.set c (O (.a3 f.reverse))) ar .dc (.cu (d.length+1)) (.f (.a3 [y]))=O (.f (.a3 (m++[y])),l.set c (O (.a3 f.reverse))):=fun y=>by
  have t:kI (l.set c (O (.a3 f.reverse))) (.cu (d.length+1))=O m:=FC A.ek
  show (kI _ _).bind _=_
  refine bT t ?_;exact lw (by refine bT dZ ?_;exact cr (m7 v 1) (by decide))
 apply aj;exact L _
 refine bT t ?_
 exact G _ _ A.ju
theorem Pb(f:a.bV=.cI)(y:∀t,iZ d t c n q m→K .cc (RL h g j e k (.Z a.t) c d (O (.f (eR a))) (O (.f (.ad a.bV.cT))) s i) t):
  fG ⟨cq,r⟩ (fo 2 c1) (RL h g j e k o c d (O (.f (eR a))) (O (.f (.ad a.bV.cT))) s i) l K:=by
 refine mw 8 2 (by decide) (by refine bT f ?_;rfl) ?_
 have z:(a.bV.cT==("jump":b4))=ar:=(gp a.bV .cI).trans (by refine bT f ?_;rfl)
 refine gL z ?_
 refine gL z ?_
 rw [← fi (a:=a) (by refine bT f ?_;rfl)] at y
 exact kt 11 2 rfl (by refine bT f ?_;rfl) (y _ b)
theorem Fc{t:bl}{F:List bl}{A:Nat}(f:a.bV=.eL)(G:n=t::F)(y:∀C,iZ d C c n q m→K .cc (RL h g j e k (.Z ((cond (dW t) a.t A:Nat):Int)) c d (O (.f (eR a))) (O (.f (.ad a.bV.cT))) s i) C):
  fG ⟨cq,r⟩ (fo 2 c1) (RL h g j e k (.Z A) c d (O (.f (eR a))) (O (.f (.ad a.bV.cT))) s i) l K:=by
 subst G
 refine mw 8 2 (by decide) (by refine bT f ?_;rfl) ?_
 refine ed ((gp a.bV .cI).trans (by refine bT f ?_;rfl)) ?_
 refine gL ((gp a.bV .eL).trans (by refine bT f ?_;rfl)) ?_
 apply aj;exact I5 b.jm
 have I:(bZ.f t).gr=dW t:=by cases t<;>rfl
 refine cD (fun z=>?_) fun z=>?_<;>have z:=I.symm.trans z<;>rw [z] at y
 ·rw [show cond ar a.t A=a.t from rfl,← fi (a:=a) (by refine bT f ?_;rfl)] at y
  exact kt 11 2 rfl (by refine bT f ?_;rfl) (y _ b)
 ·exact kt 11 2 rfl (by refine bT f ?_;rfl) (y _ b)
theorem yn{f:bl}{z:List bl}{G:Nat}(Y:r=vC cq (x+1))(A:a.bV.cg=ar)(W:n=f::z)(R:gZ f=ar)(t:∀I,iZ d I c z q m→K .cc (RL h g j e k (.Z ((cond (a.bV.eM (dI f)) a.t G:Nat):Int)) c d (O (.f (eR a))) (O (.f (.ad a.bV.cT))) s i) I):
  fG ⟨cq,r⟩ (fo 2 c1) (RL h g j e k (.Z G) c d (O (.f (eR a))) (O (.f (.ad a.bV.cT))) s i) l K:=by
 subst W
 have Q:=jf (b:=fun C=>!C.cg||(((f5 9).all fun F=>!m4 (2+F) C)&&(f5 1).all fun F=>!m4 (12+F) C)) (by kernel_rfl) a.bV
 rw [A] at Q
 obtain ⟨X,P⟩:=iX.mp Q
 refine mw 9 2 (by decide) X ?_
 apply aj;exact gU a.bV
 refine gL A ?_
 apply aj;exact mY b.jm
 apply aj;exact wA b.jm (cr u (by decide))
 refine pc Y (RY R) ?_
 have T:(dI f==(a.bV.cT==("jumpif":b4)))=a.bV.eM (dI f):=by unfold Op.eM;rw [← gp];rfl
 have L:=b.l9 z z.reverse rfl
 refine cD (fun y=>?_) fun y=>?_<;>have y:=T.symm.trans y<;>rw [y] at t
 ·rw [show cond ar a.t G=a.t from rfl,← fi (a:=a) (rm A)] at t
  exact kt 12 1 rfl P (t _ L)
 ·exact kt 12 1 rfl P (t _ L)
end
end
section
open PySem
set_option linter.unusedSectionVars false
def bnd{a:Nat}(b:a≤1000):rO (.f (.Z a))=O (O a):=if_pos ⟨sb a,kT b (by decide)⟩
def xU{c:bS}{e:bZ}{b:Nat}{a:List bl}(g:ud c e=O (.a3 a))(d:a.length≤1000)(f:b≤1000):jY c ar e (.f .bX) (.f (.Z b))=O (.f (.a3 (a.take b)),c):=by
 unfold jY
 (refine bT (bnd f) ?_;refine bT (show rO (.f .bX)=O b1 from rfl) ?_;rewrite [tn,tn];refine bT g ?_)
 show (if a.length≤100000 then iI c ar (x6 a b1 (O b)) else b1)=_
 have h:x6 a b1 (O b)=a.take b:=Ul
 exact (if_pos (cr d (by decide))).trans (by refine bT h ?_;exact lw (cr (yB ..) (cr d (by decide))))
def s6{a:bS}:fh cq a .cZ (.f (.a3 [])) (.f (.a3 []))=O ar:=by
 show lE _ _=_
 unfold lE;rfl
def s7{a:bS}{c:bl}{b:List bl}:fh cq a .cZ (.f (.a3 (c::b))) (.f (.a3 []))=O b2:=by
 show lE _ _=_
 unfold lE;rfl
section
variable{s:cK}{u:Nat}{r:Hd}{c:Cd}{q:bl}{k:Bool}{l:Option bZ}{p:Nat}{d j:bS}{n o m h:Option bZ}{K:KS}{b:R}{e:List bl}{i:Kd}{g:List bl}
def Pc{f:Nat}(y:iZ d j p e i g)(F:e.length≤1000)(ag:g.length≤1000)(I:b.bV=.gx ())(T:c.b6.length≤500)(ae:∀a∈c.b6,a.c4 f=ar→a.dG≤e.length)
  (G:c.b6.find? (·.c4 f)=b1→∀ak v,v.take d.length=d→K (.cw (.f (.cQ [.a3 (g++[.ad "fail"]),.b3 ar]))) ak v)
  (C:∀a,c.b6.find? (·.c4 f)=O a→∀R v h,iZ d v R (.ad "way"::e.drop (e.length-a.dG)) i (g++[.ad "fail"])→K .cc (RL r c q k l (.Z a.cP) R d n (O (.f (.ad b.bV.cT))) m h) v):
  fG ⟨cq,s⟩ (fo 2 c1) (RL r c q k l (.Z ((f+1:Nat):Int)) p d n (O (.f (.ad b.bV.cT))) m h) j K:=by
 refine mw 10 2 (by decide) (by refine bT I ?_;rfl) ?_
 refine gL ((gp b.bV (.gx ())).trans (by refine bT I ?_;rfl)) ?_
 apply aj;exact ef T
 refine k6 k0 (·.c4 f) k0 (fun a am K al z x=>?_) ?_
 ·have Y:a.c4 f=(dY ((a.d1:Int)<((f+1:Nat):Int))&&dY (((f+1:Nat):Int)≤(a.iz:Int))):=by
   unfold Ct.c4
   rw [decide_eq_decide.mpr (show (a.d1:Int)<((f+1:Nat):Int)↔a.d1≤f from kY.trans Nat.lt_succ_iff),decide_eq_decide.mpr (show ((f+1:Nat):Int)≤(a.iz:Int)↔f<a.iz from pN)]
  rw [Y] at z x
  refine cD (fun t=>?_) fun t=>?_<;>rw [t] at z x
  ·exact cD (fun t=>z t) fun t=>x t
  ·exact x rfl
 have A:(c.b6.filter (·.c4 f)).length≤500:=cr (r7 _ _) T
 apply aj;exact lh A
 have w:=y.xT (g++[.ad "fail"])
 have X:b.bV.cT="fail":=by refine bT I ?_;rfl
 apply aj;exact dK y.ek
 apply aj;refine bT X ?_;exact io y.ek (cr ag (by decide))
 rw [← List.head?_filter] at G C
 have L:∀a∈c.b6.filter (·.c4 f),a.dG≤e.length:=fun a ab=>by obtain ⟨af,ai⟩:=l3.mp ab;exact ae a af ai
 generalize c.b6.filter (·.c4 f)=ah at A G C L⊢
 induction ah with
 |nil=>
  apply aj;exact s6
  apply aj;exact js w.ek
  exact G rfl _ _ (qw w.ju (fM _))
 |cons a ac=>
  have P:=L a fD
  have Q:∀j,jX cq j (.f (.a3 (k0 a::ac.map k0))) (.f (.Z 0))=O (k0 a):=fun j=>qu (c:=0) rfl (by
   (refine bT lZ ?_;rw [et]);exact cr A (by decide))
  apply aj;exact s7
  apply aj;exact Q _
  have aa:ud (j.set (d.length+1) (O (.a3 (g++[.ad "fail"])))) (.cu p)=O (.a3 e.reverse):=xb w.jm
  apply aj;exact xU aa (by refine bT rd ?_;exact F) (cr P F)
  have W:(e.reverse.take a.dG++[bl.ad "way"]).length≤100000:=by
   refine bT dZ ?_;exact cr (m7 (cr (yB ..) (by refine bT rd ?_;exact F)) 1) (by decide)
  apply aj;exact g4 W
  apply aj;exact Q _
  refine C a rfl _ _ _ (w.mN _ _ ?_)
  (refine bT uN ?_;refine bT List.reverse_drop ?_;refine bT (show e.length-(e.length-a.dG)=a.dG from TC P) ?_;rfl)
def aao(au:s=vC cq (u+1)){aE:Bool}(aB:c.a2.length≤500)(X:c.b6.length≤500){x:ej}(an:c.a2[x.pc]? =O b)(aG:b.cF aE=ar){ag:Sum (List bl) ej}(az:eT c.b6 k x.pc b x=O ag)
   (al:∀ah∈x.jm,gZ ah=ar) (y:iZ d j p x.jm x.fU x.ek) (z:x.jm.length≤1000) (A:x.ek.length≤1000) (aq:x.fU.length≤1000) (av:b.bV=.gx ()→∀G∈c.b6,G.c4 x.pc=ar→G.dG≤x.jm.length) {ak:cV→bS→Prop} {ah:bl}
   (ac:∀T,ag=.inl T→∀P v,v.take d.length=d→K (.cw (.f (.cQ [.a3 T,.b3 ar]))) P v)
   (am:∀I,ag=.inr I→∀R v l n o m h,iZ d v R I.jm I.fU I.ek→ak (RL r c q k l (.Z I.pc) R d n o m h) v):
   jP (RL r c q k l (.Z x.pc) p d n o m h) [3] b2 ah fun aC=>fG ⟨cq,s⟩ c1 aC j (jQ ak K):=by
 refine R0 an aB ?_
 obtain ⟨Y,e,i,g⟩:=x
 refine bU fun {aH} fz=>?_
 obtain ⟨aw,a,ai⟩:=tm.mp az
 dsimp only at an a al y z A aq av ac am fz
 have F:∀{W:nw}{I:ej},O W=O aw→rQ c.b6 Y b.t e i g W=.inr I→∀R v l n o m h,iZ d v R I.jm I.fU I.ek→ak (RL r c q k l (.Z I.pc) R d n o m h) v:=fun f G=>am _ (ai.symm.trans ((congrArg _ (dg f)).symm.trans G))
 have ao:∀{W:nw}{T:List bl},O W=O aw→rQ c.b6 Y b.t e i g W=.inl T→∀P v,v.take d.length=d→K (.cw (.f (.cQ [.a3 T,.b3 ar]))) P v:=fun f G=>ac _ (ai.symm.trans ((congrArg _ (dg f)).symm.trans G))
 clear ac am ai
 have aa:∀{Q:Op},b.bV=Q→Q.b8=b2→gd b=oG b:=fun f G=>Kr (f▸G)
 unfold Ah at a
 obtain ⟨Q,f⟩:∃Q,b.bV=Q:=⟨_,rfl⟩
 rw [f] at a
 induction Q
 case d0=>
  exact fz (I6 y z A (by refine bT f ?_;rfl) fun v t=>F a rfl _ _ _ _ _ _ _ (by
    have ay:wC k b=b.a:=by unfold wC gd fa;refine bT f ?_;rfl
    rw [ay,f] at t;exact t))
 case iQ|g9|nv|sq|j0=>exact fz (I6 y z A (by refine bT f ?_;rfl) fun v t=>F a rfl _ _ _ _ _ _ _ (by unfold wC at t;rw [f] at t;exact t))
 case kB|uQ|uR=>
  exact lf a fun G X a=>by
   obtain ⟨C,aA,a⟩:=tm.mp a
   exact fz (R1 y z A (by refine bT f ?_;rfl) ((aa f rfl).symm▸X) aA fun v t=>F (congrArg O a) rfl _ _ _ _ _ _ _ t)
 case kC|uS|uT|uU=>
  exact fc a fun C L w a=>lf a fun G X a=>by
   obtain ⟨aF,ab,a⟩:=tm.mp a
   exact fz (R2 y z A aq (by refine bT f ?_;rfl) ((aa f rfl).symm▸X) ab w fun v t=>F (congrArg O a) rfl _ _ _ _ _ _ _ (by
     rw [aa f rfl] at t;exact t))
 case gy=>exact fc a fun C L w a=>fz (R3 y z A f w fun v t=>F a rfl _ _ _ _ _ _ _ t)
 case kq=>exact fc a fun C L w a=>fz (R4 y z A f w fun v t=>F a rfl _ _ _ _ _ _ _ t)
 case dt=>exact fc a fun C L w a=>fc a fun aI aJ aD a=>fz (Pa y z A f (w.trans (congrArg (C:: ·) aD)) fun v t=>F a rfl _ _ _ _ _ _ _ t)
 case ew=>
  exact fc a fun C L w a=>by
   obtain ⟨aF,ab,a⟩:=tm.mp a
   exact fz (Ks y z A f w ab fun P v ae=>ao (congrArg O a) rfl P v ae)
 case cI=>exact fz (Pb y z A f fun v t=>F a rfl _ _ _ _ _ _ _ t)
 case eL=>exact fc a fun C L w a=>fz (Fc y z A f w fun v t=>F a rfl _ _ _ _ _ _ _ (w▸t))
 case hV=>exact fc a fun C L w a=>fz (yn y z A au (by refine bT f ?_;rfl) w (al C (w▸fD)) fun v t=>F (I:=⟨cond (b.bV.eM (dI C)) b.t (Y+1),L,i,g⟩) a (by (refine bT f ?_;rw [xA]);rfl) _ _ _ _ _ _ _ t)
 case e5=>exact fc a fun C L w a=>fz (yn y z A au (by refine bT f ?_;rfl) w (al C (w▸fD)) fun v t=>F (I:=⟨cond (b.bV.eM (dI C)) b.t (Y+1),L,i,g⟩) a (by (refine bT f ?_;rw [xB]);rfl) _ _ _ _ _ _ _ t)
 case gx=>exact fz (Pc y z A f X (av f) (fun af P v ae=>ao a (congrArg (zy g e i) af) P v ae) fun G af R v h t=>F a (congrArg (zy g e i) af) _ _ _ _ _ _ _ t)
end
noncomputable def Ec(a:Bool):Kd:=[(.inl 0,.b3 a),(.inl 1,.Z 5),(.inr "@x",.b3 (!a)),(.inr "$x",.bX)]
def FQ(a:Bool):DD (Ec a):=lY.mpr ⟨⟨.b3 a,rfl,rfl⟩,lY.mpr ⟨⟨.Z 5,rfl,rfl⟩,lY.mpr ⟨⟨.b3 (!a),rfl,rfl⟩,List.forall_mem_singleton.mpr ⟨.bX,rfl,rfl⟩⟩⟩⟩
def Fd(a:Kd)(c:Sum Int b4)(b:bl):(gF a c b).length≤a.length+1:=by
 unfold gF
 split
 ·rw [et];exact fM _
 ·refine bT dZ ?_;exact dX _
def kN(a:List bl):Prop:=∀b∈a,k1 11 b
def AL{a c:List bl}(f:kN a)(e:kN c):kN (a++c):=fun b d=>(my.mp d).elim (f b) (e b)
def j9:kN [] :=fun b a=>absurd a gD
def u9(a:b4):kN [.ad a] :=fun c b=>by
 refine bT (ib.mp b) ?_;exact fC rfl
def AM{a:List bl}(d:a.all gh=ar):kN [.cQ a] :=fun f b=>by
 refine bT (ib.mp b) ?_;exact xS fun c e=>fC (lD.mp d c e)
def R5{a:bl}{b:Sum Int b4}(c:jM a=O b):gh a=ar:=by
 cases a<;>first|rfl|exact cG c
inductive CX(s:ej):Sum (List bl) ej→Prop
 |yV {pc:Nat} {st:List bl} {kd:Kd} {dd:Option bl} (h1:st.length≤s.jm.length+1) (h2:kd.length≤s.fU.length+1) (h4:kN dd.toList):CX s (.inr ⟨pc,st,kd,G7 s.ek dd⟩)
 |gG {x:bl} (h:kN [x]):CX s (.inl (s.ek++[x]))
def Ww(c:List bl)(d:Kd):nw→Prop
 |.cc a e b=>a.length≤c.length+1∧e.length≤d.length+1∧kN b.toList
 |.cI a _=>a.length≤c.length+1
 |.gG b=>kN [b]
 |.gx=>True
section
variable{e:Bool}{d:R}{a:List bl}{c:Kd}{b:nw}
def R6(f:wg d a c=O b):Ww a c b:=MV f fun i j k l g h m=>⟨g▸uL (fM _),Fd ..,AM (show (ar&&(gh (oG d)&&(ar&&ar)))=ar by refine bT (R5 h) ?_;rfl)⟩
def R7(f:yP d a c=O b):Ww a c b:=MU f fun h i g g=>⟨dX _,fM _,j9⟩
def R8:Ah e d a c=O b→Ww a c b:=by
 refine bU fun j=>?_
 obtain ⟨l,u,p,s,t,m⟩:=d
 refine j ?_;try clear j
 induction l
 case kB|uQ|uR=>exact R7
 case kC|uS|uT|uU=>exact R6
 case kq=>exact fun f=>fc f fun i h g f=>dT f ⟨g▸dX _,fM _,j9⟩
 case gy=>exact fun f=>fc f fun i h g f=>dT f ⟨g▸uL (fM _),fM _,j9⟩
 case dt=>exact fun f=>fc f fun i h g f=>fc f fun q o k f=>dT f ⟨by (refine bT g ?_;refine bT k ?_);exact fM _,fM _,j9⟩
 case hV|e5=>exact fun f=>fc f fun i h g f=>dT f (show h.length≤a.length+1 from g▸uL (fM _))
 case eL=>exact fun f=>fc f fun i h g f=>dT f (show (i::h).length≤a.length+1 from g▸fM _)
 case cI=>exact fun f=>dT f (fM a.length)
 case ew=>exact fun f=>fc f fun i h g f=>fV f fun r n=>AM rfl
 case gx=>exact fun f=>dT f trivial
 case nv|sq|j0=>exact fun f=>dT f ⟨dX _,fM _,u9 _⟩
 all_goals exact fun f=>dT f ⟨dX _,fM _,j9⟩
end
def VS{f:List Ct}{d:Bool}{m:Nat}{k:R}{b:ej}{c:Sum (List bl) ej}(j:eT f d m k b=O c):CX b c:=fV (e:=CX b) j fun g l=>by
 have a:=R8 l
 induction g with
 |cc h n i=>exact .yV a.1 a.2.1 a.2.2
 |cI h o=>exact .yV (dd:=b1) a (fM _) j9
 |gG i=>exact .gG a
 |gx=>exact nW (d:=CX b) (fun e=>.gG (u9 _)) fun p e=>.yV (dd:=O (.ad "fail")) (iF (by refine bT zc ?_;exact y8 ..)) (fM _) (u9 _)
def Kt{b:List bl}(c:kN b):∀{a:Option bl},kN a.toList→kN (G7 b a)
 |none,_=>c
 |some a,d=>AL c d
def Ed(a:List bl)(b:Option bl):(G7 a b).length≤a.length+1:=by
 induction b
 ·exact fM _
 ·exact jH (dZ ..)
def Za{b d a c:Nat}(f:b≤d+1)(e:d+(a+1)≤c):b+a≤c:=cr (m7 f a) (cr (jH (y4 ..)) e)
def Ee{m:Nc}{j:Bool}:∀{a:Nat}{b:ej}{c:List bl×Bool},kZ m j a b=O c→kN b.ek→kN c.1∧c.1.length≤b.ek.length+a:=by
 intro a
 induction a with
 |zero=>
  intro b c f e
  exact dg f▸⟨e,dX _⟩
 |succ a d=>
  intro b c f e
  exact xr f fun r s p k k i h n=>by
   cases VS i with
   |gG l=>exact h _ rfl▸⟨AL e l,by refine bT dZ ?_;exact jq (iF (fy a)) _⟩
   |yV q o g=>
    have d:=d (n _ rfl) (Kt e g)
    exact ⟨d.1,cr d.2 (Za (Ed ..) (dX _))⟩
section
variable{a:Nat}
def Pd{C:cK}(ac:C=vC cq (a+1))(Y:Hd){c:Cd}{am:Bool}(ah:c.a2.length≤500)(an:c.b6.length≤500){R:Nat→Nat}(G:eb c.nc R)(Q:fm c.nc am){v:Bool}{W:bl}{l:bS}{x:List bl×Bool}{K:KS}
  (z:∀P o,o.take l.length=l→x.2=ar→K (.cw (.f (.cQ [.a3 x.1,.b3 ar]))) P o) (L:∀b e f j m g i h,iZ l f e b.jm b.fU b.ek→x=(b.ek,b2)→K .cc (RL Y c W v j (.Z (b:ej).pc) e l m g i h) f) (t:Nat):
  ∀(d:List bl){b:ej}{e:Nat}{f:bS}{j m g i h:Option bZ},Dl c.nc R b→iZ l f e b.jm b.fU b.ek→b.jm.length+d.length≤t→b.ek.length+d.length≤t→b.fU.length+d.length≤t→t≤1000→kZ c.nc v d.length b=O x→
  jZ (fG ⟨cq,C⟩ c1) [3] b2 K d (RL Y c W v j (.Z b.pc) e l m g i h) f:=by
 intro d
 induction d with
 |nil=>
  intro b e f j m g i h k I r s u p n
  exact L b e f _ _ _ _ _ I (dg n).symm
 |cons av d ab=>
  intro b e f j m g i h k I r s u p n
  have al:b.pc<c.a2.length:=by have:=G.kJ _ k.mH;unfold Cd.nc at this;rw [et] at this;exact this
  have T:c.a2[b.pc]? =O c.a2[b.pc] :=gS al
  have y:=dF.mpr T
  refine bU fun X=>?_
  obtain ⟨ay,A,ao⟩:=Ai G Q (c:=v) k y
  refine X ?_;try clear X
  have aq:=G.dh _ _ k.mH y
  rw [lZ,rk y,A] at n
  rw [lZ] at r s u
  have ag:=VS A
  refine aao (ak:=jZ (fG ⟨cq,C⟩ c1) [3] b2 K d) ac ah an T (Q _ _ y) A k.hM I (cr (fg ..) (cr r p)) (cr (fg ..) (cr s p)) (cr (fg ..) (cr u p)) (fun q ai ae ak=>by refine bT k.cC ?_;exact aq.gx q ai ae ak) (fun aw q P o af=>?_) fun w q az o j m g i h aa=>?_
  ·subst q
   obtain rfl:=dg n
   exact z P o af rfl
  ·subst q
   have F:w.jm.length≤b.jm.length+1∧w.ek.length≤b.ek.length+1∧w.fU.length≤b.fU.length+1:=by
    cases ag with|yV z L au=>exact ⟨z,Ed ..,L⟩
   exact ab (ao w rfl) aa (Za F.1 r) (Za F.2.1 s) (Za F.2.2 u) p n
def Wx(b:Int):cW:=.J (.ep [4,5,6,7] (.J (.bW 1) (.J (.a3 b2 .N) (.J (.a3 b2 .N) (.J (.eg (.J (.Z 0) (.J (.bW 2) (.J (.Z 1) (.J (.Z 5) (.J (.ad "@x") (.J (.gA (.bW 2)) (.J (.ad "$x") (.J .bX .N))))))))) .N)))))
 (.J (.fT [3] b2 (.gb (.Z b)) c1) (.J (.cw (.cQ (.J (.pR (.bW 6)) (.J (.b3 b2) .N)))) .N))
def Hl(b:Int):dz:={x7 with cN:=.cA (Wx b)}
def aap{h:cK}(R:h=vC cq (a+1))(n:Hd){e:Cd}{L:Bool}(C:e.a2.length≤500)(P:e.b6.length≤500){p:Nat→Nat}(r:eb e.nc p)(u:fm e.nc L){f:Nat}(s:f∈e.cp)(c:Bool)(d:Nat)(w:d≤500){i:List bl×Bool}(o:kZ e.nc c d ⟨f,[],Ec c,[]⟩=O i){b:bS}{g:KE}(k:g (.f (.cQ [.a3 i.1,.b3 i.2])) b):
  Ag ⟨cq,h⟩ (Hl d) (Wx d) [.f (cf n e),.f (.Z f),.f (.b3 c)] b g:=by
 have K:Dl e.nc p ⟨f,[],Ec c,[]⟩:=⟨.dH s,(r.dH f s).symm,(fun ae y=>absurd y gD),FQ c⟩
 apply aj;exact g4 (fy _)
 apply aj;exact qQ (fy _)
 apply aj;exact ip (cr w (by decide))
 have G:(b++[O (dw.a3 []),O (.a3 [])])++[O (.eg (Ec c))] =b++[O (.a3 []),O (.a3 []),O (.eg (Ec c))] :=m8 ..
 have I:(b++[O (dw.a3 []),O (.a3 [])]).length=b.length+2:=by refine bT dZ ?_;rfl
 have Q:kZ e.nc c (dL d).length ⟨f,[],Ec c,[]⟩=O i:=by rw [li];exact o
 have l:=li d
 have z:=Pd (K:=Dk (fG ⟨cq,h⟩ (.J (.cw (.cQ (.J (.pR (.bW 6)) (.J (.b3 b2) .N)))) .N)) (lG (Hl d).cR b.length g)) (x:=i) (W:=.Z f) (l:=b) (v:=c) R n C P r u (fun ag ac A F=>c8 (b:=g) (by rw [F] at k;exact k) A) (fun Y W j ab af T aa X q o=>by
  subst o
  apply aj;exact js q.ek
  exact c8 (b:=g) k (qw q.ju (fM _))) (4+d) (dL d) (b:=⟨f,[],Ec c,[]⟩) (e:=b.length) (f:=b++[O (.a3 []),O (.a3 []),O (.eg (Ec c))]) (j:=b1) (m:=b1) (g:=b1) (i:=b1) (h:=b1) K ⟨en _ _ _,kM _ _ _ _,zB _ _ _ _ _,jB _ _,dX _,kW (h9 _),kW (B7 (by decide))⟩ (by refine bT l ?_;exact m7 (fy 4) d) (by refine bT l ?_;exact m7 (fy 4) d) (by refine bT l ?_;exact dX _) (by lia) Q
 have x:∀(j:bS)(m:Nat),j=b++[O (.a3 []),O (.a3 []),O (.eg (Ec c))] →m=b.length+2→jZ (fG ⟨cq,h⟩ c1) [3] b2 (Dk (fG ⟨cq,h⟩ (.J (.cw (.cQ (.J (.pR (.bW 6)) (.J (.b3 b2) .N)))) .N)) (lG (Hl d).cR b.length g)) (dL d) [O (.f (cf n e)),O (.f (.Z f)),O (.f (.b3 c)),b1,O (.f (.Z f)),O (.cu b.length),O (.cu (b.length+1)),O (.cu m),b1,b1,b1,b1,b1] j:=fun j m v t=>by
  subst v t;exact z
 exact x _ _ G I
def VT(j:Hd){b:Cd}{p:Bool}(n:b.a2.length≤500)(q:b.b6.length≤500){i:Nat→Nat}(f:eb b.nc i)(h:fm b.nc p){d:Nat}(g:d∈b.cp)(c:Bool):
  ∃e,kZ b.nc c 26 ⟨d,[],Ec c,[]⟩=O e∧PC (vC cq (a+2)) 61 [.f (cf j b),.f (.Z d),.f (.b3 c)] (.cQ [.a3 e.1,.b3 e.2]):=by
 have o:Dl b.nc i ⟨d,[],Ec c,[]⟩:=⟨.dH g,(f.dH d g).symm,(fun v m=>absurd m gD),FQ c⟩
 obtain ⟨e,k⟩:=xw f h (c:=c) 26 o
 exact ⟨e,k,pf (b:=Hl 26) (j:=Wx 26) rfl rfl rfl rfl fun t r s u l=>aap r j n q f h g c 26 (by decide) k l⟩
end
end
section
open PySem
def BM{b:bS}{a:List bl}(c:kN a):fh cq b .ne (.f (.a3 a)) (.f (.a3 a))=O b2:=by
 show (lE (.a3 a) (.a3 a)).map _=_
 unfold lE
 refine bT (show nt k5 (.a3 a) (.a3 a)=O ar from j8 c) ?_;rfl
section
variable{a:Nat}
def AN{C:cK}(R:C=vC cq (a+2))(s r:Hd){c b:Cd}{L:Bool}(ac:c.a2.length≤500)(ao:c.b6.length≤500)(X:b.a2.length≤500)(ah:b.b6.length≤500)(W:b.cp.length≤500)(v:gk c L)(y:gk b L)(ak:fH c.nc b.nc)
  {h j P:Nat} (Q:c.cp[h]? =O j) (o:b.cp[h]? =O P) (d:Bool) {e:bS} {q p l t:Option bZ} {K:KS} (G:∀q p l t,K .cc [O (.f (cf s c)),O (.f (cf r b)),O (.f (.Z h)),O (.f (.Z j)),O (.f (.b3 d)),q,p,l,t] e):
  fG ⟨cq,C⟩ mD [O (.f (cf s c)),O (.f (cf r b)),O (.f (.Z h)),O (.f (.Z j)),O (.f (.b3 d)),q,p,l,t] e K:=by
 refine bU fun A=>?_
 obtain ⟨au,am⟩:=v.gK
 obtain ⟨aq,ae⟩:=y.gK
 obtain ⟨f,z,ab⟩:=VT (a:=a) s ac ao am v.cF (gj Q) d
 obtain ⟨an,w,T⟩:=VT (a:=a) r X ah ae y.cF (gj o) d
 obtain ⟨i,ai,F⟩:=ak.2 h j P Q o d (Ec d) 26 f (FQ d) z
 obtain rfl:i=an:=dg (ai.symm.trans w)
 obtain ⟨m,k⟩:=Ee z j9
 obtain ⟨aa,n⟩:=Ee w j9
 refine A ?_;try clear A
 rw [List.length_nil,kU] at k n
 have u:i.1.take f.1.length=f.1:=(List.prefix_iff_eq_take.mp F.1).symm
 have g:=F.2
 refine pc R ab ?_
 apply aj;exact hB (d:=e8) o W
 refine pc R T ?_
 generalize f.1=I at m k u g⊢
 generalize f.2=al at g⊢
 generalize i.1=x at aa n u g⊢
 generalize i.2=av at g⊢
 apply aj;exact xQ (cr k (by decide))
 have af:∀e,jY e ar (.f (.a3 x)) (.f .bX) (.f (.Z I.length))=O (.f (.a3 I),e):=fun e=>by
  (refine bT (xU (a:=x) rfl (cr n (by decide)) (cr k (by decide))) ?_;refine bT u ?_;rfl)
 apply aj;exact af _
 apply aj;exact BM m
 induction al with
 |false=>exact G _ _ _ _
 |true=>
  obtain ⟨Y,ag⟩:=g rfl
  (refine bT Y ?_;refine bT ag ?_)
  apply aj;exact BM m
  exact G _ _ _ _
def vB(f e:Hd){c b:Cd}{F:Bool}(z:c.a2.length≤500)(G:c.b6.length≤500)(w:b.a2.length≤500)(A:b.b6.length≤500)(u:c.cp.length≤500)(v:gk c F)(x:gk b F)(r:fH c.nc b.nc):
  PC (vC cq (a+3)) 62 [.f (cf f c),.f (cf e b)] (.b3 ar):=pf rfl rfl rfl rfl fun aa I R W L=>by
 have k:c.cp.length=b.cp.length:=r.1
 have h:b.cp.length≤500:=k▸u
 apply aj;exact eZ (d:=e8) u
 apply aj;exact eZ (d:=e8) h
 refine ed (by (refine bT k ?_;refine bT (show ((b.cp.length:Int)==(b.cp.length:Int))=ar from beq_self_eq_true _) ?_);rfl) ?_
 apply aj;exact m3 (c:=e8) u
 refine wo (fun p l=>∃q t s j n i o,p=[O (.f (cf f c)),O (.f (cf e b)),q,t,s,j,n,i,o] ∧l=R) (fun ac p l ae T g X=>?_) ⟨_,_,_,_,_,_,_,rfl,rfl⟩ fun p l g=>?_
 ·refine bU fun d=>?_
  obtain ⟨q,t,s,j,n,i,o,rfl,rfl⟩:=g
  obtain ⟨y,ab,m,rfl⟩:=DT (g:=e8) T
  refine d ?_;try clear d
  have C:b.cp[y]? =O (b.cp[y]'(k▸(fJ.mp m).1)):=gS _
  refine AN I f e z G w A h v x r m C b2 fun Q P K Y=>?_
  refine AN I f e z G w A h v x r m C ar fun Q P K Y=>?_
  exact X _ _ ⟨_,_,_,_,_,_,_,rfl,rfl⟩
 ·refine bU fun d=>?_
  obtain ⟨q,t,s,j,n,i,o,rfl,rfl⟩:=g
  refine d ?_;try clear d
  exact c8 (b:=W) L eO
end
noncomputable def yW:Op→List b4
 |.d0=>["v"] |.nv=>["t"] |.kB=>["c","c"] |.kC=>["c","c"] |.uQ|.uS|.uR|.uT|.uU|.sq=>["n"] |.cI|.hV|.e5|.eL=>["p"] |.j0=>["c"] |.gx _=>["n","t"]
 |_=>[]
section
variable{d:Nat}{e:bS}
def aaq(a:Op):jX cq e (.f (.ob 0)) (.f (.ad a.cT))=O (.cQ [.Z a.c0,.Z a.fS]):=by
 induction a<;>kernel_rfl
def Pe(a:R):PC (vC cq (d+1)) 6 [.f (eR a)] (.cQ [.Z a.bV.c0,.Z a.bV.fS]):=pf rfl rfl rfl rfl fun g f e b c=>by
 apply aj;exact aaq a.bV
 exact c8 (b:=b) c eO
def s8(b:Int):PC (vC cq (d+1)) 7 [.f (.Z b)] (.b3 ar):=pf rfl rfl rfl rfl fun g f e a c=>c8 (b:=a) c eO
def BN{f c:bl}{b:b4}(h:∀(e:bS)(a:KE),vC cq (d+2) 8 [.f f,.f (.ad b),.f c] e a=a (.f (.b3 ar)) (e.take e.length)):PC (vC cq (d+2)) 8 [.f f,.f (.ad b),.f c] (.b3 ar):=⟨fun e a g=>by
 (rewrite [h];refine bT eO ?_);exact g⟩
def VU(b:bl)(a:b4):PC (vC cq (d+2)) 8 [.f b,.f (.ad "n"),.f (.ad a)] (.b3 ar):=BN (by intro e c;kernel_rfl)
def VV(b:bl)(a:b4):PC (vC cq (d+2)) 8 [.f b,.f (.ad "t"),.f (.ad a)] (.b3 ar):=BN (by intro e c;kernel_rfl)
def aar(b a:bl):PC (vC cq (d+2)) 8 [.f b,.f (.ad "v"),.f a] (.b3 ar):=BN (by intro e c;kernel_rfl)
def VW{f:bl}{a:Nat}{c:b4}(g:∀(e:bS)(b:KE),vC cq (d+2) 8 [.f f,.f (.ad c),.f (.Z a)] e b=b (.f (.b3 (dY (0≤(a:Int))))) ((e.take e.length).take e.length)):PC (vC cq (d+2)) 8 [.f f,.f (.ad c),.f (.Z a)] (.b3 ar):=⟨fun e b h=>by
 (rewrite [g];refine bT eO ?_;refine bT eO ?_;refine bT (decide_eq_true (sb a)) ?_);exact h⟩
def CY(a:bl)(b:Nat):PC (vC cq (d+2)) 8 [.f a,.f (.ad "c"),.f (.Z b)] (.b3 ar):=VW (by intro e c;kernel_rfl)
def aas(a:bl)(b:Nat):PC (vC cq (d+2)) 8 [.f a,.f (.ad "p"),.f (.Z b)] (.b3 ar):=VW (by intro e c;kernel_rfl)
def Hm(d:Nat)(h:R)(f:List b4)(g:List bl):Prop:=∀(c:Nat)(b:b4),f[c]? =O b→∃a,g[c]? =O a∧PC (vC cq (d+2)) 8 [.f (eR h),.f (.ad b),.f a] (.b3 ar)
def Hm.N{c:R}{a:List bl}:Hm d c [] a:=fun g f b=>cG b
def Hm.J{f:R}{i:b4}{g:List b4}{b:bl}{h:List bl}(k:PC (vC cq (d+2)) 8 [.f (eR f),.f (.ad i),.f b] (.b3 ar))(l:Hm d f g h):Hm d f (i::g) (b::h):=fun c j a=>match c,a with
 | 0,a=>⟨b,rfl,dg a▸k⟩
 |c+1,a=>l c j a
def XJ{z:Bool}{i:R}(j:i.cF z=ar):Hm d i (yW i.bV) [fa i,i.b,i.c] ∧∀l∈([fa i,i.b,i.c] :List bl).drop (yW i.bV).length,l=.bX:=by
 unfold R.cF at j
 have n:i.bV.b8=b2→fa i=i.a:=fun r=>by unfold fa;rw [if_neg (by refine bT r ?_;exact kx)]
 have p:∀{h a:bl},dW h=ar→dW a=ar→∀l∈ [h,a],l=.bX:=fun t q l m=>by
  rcases eP.mp m with rfl|m
  ·exact iA t
  ·exact iA (ib.mp m▸q)
 have s:∀{a:bl},dW a=ar→∀l∈ [a],l=.bX:=fun q l m=>iA (ib.mp m▸q)
 have y:∀{k h a:bl},dW k=ar→dW h=ar→dW a=ar→∀l∈ [k,h,a],l=.bX:=fun x t q l m=>by
  rcases eP.mp m with rfl|m
  ·exact iA x
  ·exact p t q l m
 obtain ⟨u,v⟩:∃u,i.bV=u:=⟨_,rfl⟩
 rw [v] at j n⊢
 have o:∀{k h a:Bool},(k&&h&&a)=ar→k=ar∧h=ar∧a=ar:=fun {k h a} j=>by
  induction k<;>induction h<;>induction a<;>first|exact ⟨rfl,rfl,rfl⟩|exact dy j
 have w:∀{k h a d:Bool},(k&&h&&a&&d)=ar→k=ar∧h=ar∧a=ar∧d=ar:=fun {k h a d} j=>by
  induction k<;>induction h<;>induction a<;>induction d<;>first|exact ⟨rfl,rfl,rfl,rfl⟩|exact dy j
 induction u
 case d0=>obtain ⟨f,g,c⟩:=o j;exact ⟨.J (aar _ _) .N,p g c⟩
 case nv=>
  refine bU fun b=>?_
  obtain ⟨f,g,c⟩:=o j
  refine b ?_;try clear b
  refine bT (n rfl) ?_
  rcases nR.mp f with f|f<;>refine bT (j1 f) ?_<;>exact ⟨.J (VV _ _) .N,p g c⟩
 case uQ|uS|uR|uT|uU|sq=>
  refine bU fun b=>?_
  obtain ⟨f,g,c⟩:=o j
  refine b ?_;try clear b
  (refine bT (n rfl) ?_;refine bT (j1 f) ?_)
  exact ⟨.J (VU _ _) .N,p g c⟩
 case cI|hV|e5|eL=>
  refine bU fun b=>?_
  obtain ⟨f,g,c⟩:=o j
  refine b ?_;try clear b
  rw [fi (a:=i) (by refine bT v ?_;rfl)]
  exact ⟨.J (aas _ _) .N,p g c⟩
 case j0=>
  refine bU fun b=>?_
  obtain ⟨_,f,g,c⟩:=w j
  refine b ?_;try clear b
  (refine bT (n rfl) ?_;refine bT (mG f) ?_)
  exact ⟨.J (CY _ 0) .N,p g c⟩
 case kB|kC=>
  refine bU fun b=>?_
  obtain ⟨f,g,c⟩:=o j
  refine b ?_;try clear b
  (refine bT (n rfl) ?_;refine bT (mG f) ?_)
  rcases tw g with r|r<;>refine bT r ?_
  ·exact ⟨.J (CY _ 0) (.J (CY _ 0) .N),s c⟩
  ·exact ⟨.J (CY _ 0) (.J (CY _ 1) .N),s c⟩
 case gx=>
  refine bU fun b=>?_
  obtain ⟨f,g,c⟩:=o j
  refine b ?_;try clear b
  (refine bT (n rfl) ?_;refine bT (j1 f) ?_;refine bT (j1 g) ?_)
  exact ⟨.J (VU _ _) (.J (VV _ _) .N),s c⟩
 all_goals (obtain ⟨f,g,c⟩:=o j;refine bT (n rfl) ?_;exact ⟨.N,y f g c⟩)
end
structure RC(C:cK)(k:Nat)(args:List bZ)(x:bl)(σ AO:bS):Prop where
 eI:∀Q:KE,Q (.f x) AO→C k args σ Q
def rc{h c:cK}{b:Nat}{g:List bZ}{f:bl}{e d:bS}(k:h=c)(j:RC c b g f e d){a:KE}(i:a (.f f) d):h b g e a:=k▸j.eI a i
def rf{i d:Nat}{j e:List bZ}{b:dz}{k:cW}{h:bl}{g f:bS}(l:cq.p9[d]? =O b)(r:b.cN=.cA k)(m:l5 b j=O e)(o:jJ d 1000=ar)(q:∀(c:cK),c=vC cq i→∀(a:KE),a (.f h) f→Ag ⟨cq,c⟩ b k e g a):RC (vC cq (i+1)) d j h g f:=
 ⟨fun a p=>Hi (fun c n=>q c n a p) l r m o⟩
structure zK(σ:bS)(i:Nat)(h:Hd)(c:Cd)(Dn:List bl)(jd jw:Nat):Prop where
 jv:zv cq σ (.fK i) "code"=O (.f (cf h c))
 Dn:zv cq σ (.fK i) "seen"=O (.f (.a3 Dn))
 AP:zv cq σ (.fK i) "depths"=O (.cu jd)
 BO:zv cq σ (.fK i) "waiting"=O (.cu jw)
def zK.eI{f:bS}{d c b:Nat}{e:Hd}{g:Cd}{h:List bl}(a:f[d]? =O (O (.jW 3 [.f (cf e g),.f (.a3 h),.cu c,.cu b]))):zK f d e g h c b:=by
 have a:=wq a
 constructor<;>exact congrArg (jG · _) a
def Wy(a:Op):bl:=match cq.ll[1]? with
 |some b=>(b.lookup a.cT).getD (.ad "")
 |none=>.bX
section
variable{d:Nat}{a:bS}{fz:Bool}
def HX(b:Op):fh cq a .fY (.f (.ad b.cT)) (.f (.ob 0))=O b2:=by induction b<;>kernel_rfl
def Pf(b:Op):w1 ar (.f (Wy b))=O (eV ((yW b).map .ad)):=by induction b<;>kernel_rfl
def R9(b:Op):eW a fz 0 [.f (Wy b)] =O (.f (.Z (yW b).length),a):=by induction b<;>kernel_rfl
def Pg(b:Op):(yW b).length≤2:=by induction b<;>exact er rfl
def wD:fh cq a .ne (.f (.a3 [])) (.f (.a3 []))=O b2:=by
 show (lE _ _).map _=_
 unfold lE;rfl
def Ku{h:cV→bS→List bl→KL→Prop}{j:List Nat}{k:Bool}{i:cV}{c:List bl}(l:∀K:KL,K c a→jP i j k .bX fun p=>h p a c K){K:KL}:∀{b:List bl},(∀e∈b,e=.bX)→K c a→og h i j k b a c K:=by
 intro b
 induction b with
 |nil=>
  intro _ f
  exact f
 |cons e q m=>
  intro g f
  exact g e fD▸l _ (m (fun n o=>g n (ia _ o)) f)
def XK{G:Bool}{b:R}(C:b.cF G=ar){A:Hd}{e:Cd}{f y r k:Nat}{p:List bl}(K:zK a f A e p y r)(w:e.a2.length≤500)(q:b.bV.b8=ar→b.t<e.a2.length):RC (vC cq (d+3)) 12 [.fK f,.f (.Z k),.f (eR b)] .bX a a:=rf rfl rfl rfl rfl fun Q L l g=>by
 obtain ⟨o,m⟩:=XJ (d:=d) C
 refine ed (dg (HX (a:=a) b.bV)) ?_
 apply aj;exact Pf b.bV
 refine Fz (fun T=>a) (fun _ (c:Option bZ×Option bZ)=>[O (.fK f),O (.f (.Z k)),O (.f (eR b)),O (.f (Wy b.bV)),O (.f (.cQ [fa b,b.b,b.c])),c.1,c.2,b1]) (a:=(b1,b1)) (fun F v c X s z=>?_) fun c=>?_
 ·refine bU fun j=>?_
  obtain ⟨W,u,t⟩:=o F v s
  refine j ?_;try clear j
  apply aj;exact IU u (er rfl)
  exact pc L t (z (_,_))
 have i:=cr (Pg b.bV) (er rfl:2≤3)
 have x:jY a ar (.f (.cQ [fa b,b.b,b.c])) (.f (.Z (yW b.bV).length)) (.f .bX)=O (.f (.cQ ([fa b,b.b,b.c].drop (yW b.bV).length)),a):=by
  unfold jY
  (refine bT (bnd (cr i (er rfl))) ?_;refine bT (show rO (.f .bX)=O b1 from rfl) ?_;rw [tn,tn])
  exact if_pos ⟨i,er rfl⟩
 apply aj;exact R9 b.bV
 apply aj;exact x
 have h:([fa b,b.b,b.c].drop (yW b.bV).length).length≤3:=by refine bT zc ?_;exact y8 _ _
 generalize [fa b,b.b,b.c].drop (yW b.bV).length=P at m h⊢
 apply aj;exact FA (cr h (er rfl))
 refine Ku (fun K I=>?_) m ?_
 ·exact I
 apply aj;exact wD
 apply aj;exact om b.bV
 refine cD (fun c=>?_) fun c=>?_
 ·apply aj;exact K.jv
  apply aj;exact eZ w
  have n:fh cq a .mC (.f (fa b)) (.f (.Z e.a2.length))=O b2:=by
   refine bT (fi c) ?_
   exact congrArg O (decide_eq_false (GU.mpr (kY.mpr (q c))))
  apply aj;exact n
  exact c8 (b:=l) g eO
 ·refine ed c ?_
  exact c8 (b:=l) g eO
end
section
variable{d:Nat}{c:bS}
def Sa{A:Bool}{a:R}(g:a.cF A=ar)(r:a.bV=.kB∨a.bV=.kC){b:Hd}{f:Cd}{i w p t:Nat}{e:List bl}(K:zK c i b f (cf b f::e) w p)(G:e.length≤5){C n:bl}(z:b.gc=.a3 [C,n]):RC (vC cq (d+1)) 13 [.fK i,.f (.Z t),.f (eR a)] .bX c c:=rf rfl rfl rfl rfl fun P h v o=>by
 have F:fa a=.Z 0∧sr a.b=ar:=by
  unfold R.cF at g
  unfold fa
  rcases r with h|h<;>rw [h] at g⊢ <;>obtain ⟨g,L⟩:=iX.mp g<;>obtain ⟨q,s⟩:=iX.mp g<;>exact ⟨mG q,s⟩
 obtain ⟨k,u⟩:=F
 have j:(cf b f::e).length≤100000:=iF (cr G (er rfl))
 have m:fh cq c .mC (.f (fa a)) (.f (.Z (cf b f::e).length))=O b2:=by
  refine bT k ?_
  exact congrArg O (decide_eq_false (GU.mpr (kY.mpr (nI e.length))))
 have y:jX cq c (.f (.a3 (cf b f::e))) (.f (fa a))=O (cf b f):=by
  refine bT k ?_;exact qu (c:=0) rfl j
 have x:fh cq c .mC (.f a.b) (.f (.Z 2))=O b2:=by rcases tw u with l|l<;>refine bT l ?_<;>rfl
 have I:eW c ar 0 [.f b.gc] =O (.f (.Z 2),c):=by refine bT z ?_;rfl
 apply aj;exact K.Dn
 apply aj;exact xQ j
 apply aj;exact m
 apply aj;exact K.Dn
 apply aj;exact y
 apply aj;exact I
 apply aj;exact x
 exact c8 (b:=v) o eO
def AQ{e b:bl}(g:∀(c:bS)(a:KE),vC cq (d+1) 9 [.f e] c a=a (.f b) (c.take c.length)):PC (vC cq (d+1)) 9 [.f e] b:=⟨fun c a f=>by
 (rewrite [g];refine bT eO ?_);exact f⟩
def Sb{a:R}(f:a.bV≠ .j0):PC (vC cq (d+1)) 9 [.f (eR a)] .bX:=by
 refine bU fun b=>?_
 obtain ⟨e,l,h,i,j,k⟩:=a
 refine b ?_;try clear b
 induction e<;>first|exact absurd rfl f|exact AQ (by intro c g;kernel_rfl)
def Kv{a:R}(b:a.bV=.j0):PC (vC cq (d+1)) 9 [.f (eR a)] (.cQ [a.a,.ad "block"]):=by
 obtain ⟨f,k,g,h,i,j⟩:=a
 dsimp only at b
 subst b
 exact AQ (by intro c e;kernel_rfl)
def CZ{k:Bool}{e:R}(b:e.cF k=ar){h:Hd}{z:Cd}{m I u F:Nat}{t:List bl}(K:zK c m h z t I u){g:List pd}(q:h.fB=g.map ez)(v:g.length≤5)(Q:k=ar→g≠ [])(C:∀G∈g,G.1.dm=.ad "block"):RC (vC cq (d+2)) 14 [.fK m,.f (.Z F),.f (eR e)] .bX c c:=rf rfl rfl rfl rfl fun X r o l=>by
 by_cases i:e.bV=.j0
 ·refine pc r (Kv i) ?_
  have T:k=ar∧e.a=.Z 0:=by
   unfold R.cF at b
   rw [i] at b
   have ⟨b,_⟩:=iX.mp b
   have ⟨b,_⟩:=iX.mp b
   have ⟨w,y⟩:=iX.mp b
   exact ⟨w,mG y⟩
  refine bU fun n=>?_
  obtain ⟨x,j⟩:=T
  obtain ⟨a,f,rfl⟩:∃a f,g=a::f:=List.exists_cons_of_ne_nil (Q x)
  refine n ?_;try clear n
  have s:fh cq c .gm (.f (.Z 0)) (.f e.a)=O ar:=by refine bT j ?_;rfl
  have W:fh cq c .jL (.f e.a) (.f (.Z (a::f).length))=O ar:=by
   refine bT j ?_;exact congrArg O (decide_eq_true (kY.mpr (nI f.length)))
  have p:(a::f).length≤500:=cr v (er rfl)
  have P:jX cq c (.f (.a3 h.fB)) (.f e.a)=O (ez a):=by (refine bT j ?_;refine bT q ?_);exact hB (e:=0) rfl p
  have A:eW c ar 0 [.f (.a3 h.fB)] =O (.f (.Z (a::f).length),c):=by refine bT q ?_;exact eZ p
  have L:fh cq c .ne (.f a.1.dm) (.f (.ad "block"))=O b2:=by refine bT (C a fD) ?_;kernel_rfl
  apply aj;exact s
  apply aj;exact K.jv
  apply aj;exact A
  apply aj;exact W
  apply aj;exact K.jv
  apply aj;exact P
  apply aj;exact L
  exact c8 (b:=o) l eO
 ·refine pc r (Sb i) ?_
  exact c8 (b:=o) l eO
end
noncomputable def oP(c:Nat→Nat)(b:Nat→Bool)(a:Nat):bl:=cond (b a) (.Z (c a)) .bX
def iN(c:Nat)(b:Nat→Nat)(a:Nat→Bool):List bl:=(f5 c).map (oP b a)
noncomputable def tG(b:Nat→Bool)(c:Nat):Nat→Bool:=fun a=>b a||c==a
noncomputable def AR(c:Nat→Bool)(a:List Nat)(b:Nat):List Nat:=cond (c b) a (a++[b])
def NL{b:Nat→Bool}{a:Nat}(e:b a=ar):tG b a=b:=funext fun c=>by
 unfold tG
 by_cases d:a=c
 ·(refine gT d ?_;refine bT e ?_);rfl
 ·(refine bT (show (a==c)=b2 from beq_eq_false_iff_ne.mpr d) ?_;rw [vK])
def mZ{a:Nat}{c:Nat→Nat}{b:Nat→Bool}:(iN a c b).length=a:=by unfold iN;(rewrite [et];refine bT pk ?_;rfl)
def tH{c a:Nat}{b:Nat→Nat}{d:Nat→Bool}(e:a<c):(iN c b d)[a]? =O (oP b d a):=by
 unfold iN;rw [i4,L5 e];rfl
def Ph{f b:Nat}{e:Nat→Nat}{g:Nat→Bool}:(iN f e g).set b (.Z (e b))=iN f e (tG g b):=by
 refine vQ fun c=>?_
 rw [Ma]
 by_cases d:c<f
 ·(refine bT (tH d) ?_;refine bT (tH d) ?_)
  unfold oP tG
  by_cases a:b=c
  ·(refine bT (if_pos a) ?_;refine bT (if_pos (mZ.symm▸a.symm▸d)) ?_;refine gT a ?_;rw [beq_self_eq_true,Tu]);rfl
  ·(refine bT (if_neg a) ?_;refine bT (show (b==c)=b2 from beq_eq_false_iff_ne.mpr a) ?_;rw [vK])
 ·have h:(iN f e g)[c]? =b1:=Gl (mZ.symm▸ra d)
  have i:(iN f e (tG g b))[c]? =b1:=Gl (mZ.symm▸ra d)
  (refine bT h ?_;refine bT i ?_)
  by_cases a:b=c
  ·(refine bT (if_pos a) ?_;refine bT (if_neg (mZ.symm▸a.symm▸d)) ?_;rfl)
  ·(refine bT (if_neg a) ?_;rfl)
def CH(a:bS)(e:Hd)(b:Cd)(g:List bl)(c:Nat→Nat)(d:Nat→Bool)(f:List Nat):bS:=a++[O (.a3 (iN b.a2.length c d)),O (.a3 (cU f)),O (.jW 3 [.f (cf e b),.f (.a3 g),.cu a.length,.cu (a.length+1)])]
section
variable{i:Nat}{a:bS}{g:Hd}{d:Cd}{h:List bl}{b:Nat→Nat}{c:Nat→Bool}{e:List Nat}
def CH.k3:zK (CH a g d h b c e) (a.length+2) g d h a.length (a.length+1):=zK.eI (zB _ _ _ _ _)
def CH.cC:(CH a g d h b c e).length=a.length+3:=dZ
def CH.ju{j:Nat→Bool}{f:List Nat}:(CH a g d h b c e).take (CH a g d h b j f).length=CH a g d h b c e:=Cb (by (refine bT CH.cC ?_;refine bT CH.cC ?_);exact dX _)
def CH.AS:(CH a g d h b c e)[a.length]? =O (O (.a3 (iN d.a2.length b c))):=en _ _ _
def CH.wai:(CH a g d h b c e)[a.length+1]? =O (O (.a3 (cU e))):=kM _ _ _ _
def CH.aat{f:Nat→Bool}:(CH a g d h b c e).set a.length (O (.a3 (iN d.a2.length b f)))=CH a g d h b f e:=kk _ _ _ _
def CH.zE{f:List Nat}:(CH a g d h b c e).set (a.length+1) (O (.a3 (cU f)))=CH a g d h b c f:=zC _ _ _ _ _
def Sd(o:d.a2.length≤500)(t:e.length≤1000){f:Nat}(m:f<d.a2.length){p:Int}(A:p=b f)(w:bl):RC (vC cq (i+2)) 11 [.fK (a.length+2),.f (.Z f),.f (.Z p),.f w] .bX (CH a g d h b c e) (CH a g d h b (tG c f) (AR c e f)):=rf rfl rfl rfl rfl fun F C q k=>by
 subst A
 have K:zK (CH a g d h b c e) (a.length+2) g d h a.length (a.length+1):=CH.k3
 have n:(iN d.a2.length b c).length≤100000:=mZ.symm▸cr o (er rfl)
 have x:jX cq (CH a g d h b c e) (.cu a.length) (.f (.Z f))=O (oP b c f):=zD CH.AS (tH m) n
 refine pc C (s8 _) ?_
 apply aj;exact K.jv
 apply aj;exact eZ o
 refine ed (congrArg (! ·) (decide_eq_true (kY.mpr m))) ?_
 apply aj;exact K.AP
 apply aj;exact x
 have z:c f=ar∨c f=b2:=F9 _
 have v:l4 (CH a g d h b c e) (.cu a.length) (.f (.Z f)) (.f (.Z (b f)))=O (CH a g d h b (tG c f) e):=by
  rw [FD CH.AS (by refine bT mZ ?_;exact m) n,Ph,CH.aat]
 have r:zK (CH a g d h b (tG c f) e) (a.length+2) g d h a.length (a.length+1):=CH.k3
 have s:jN cq (CH a g d h b (tG c f) e) (.cu (a.length+1)) "append"=O .eJ:=dK CH.wai
 have y:jk cq (CH a g d h b (tG c f) e) .eJ (.cu (a.length+1)) [.f (.Z f)] =O (.f .bX,CH a g d h b (tG c f) (e++[f])):=by
  rw [io CH.wai (by unfold cU;rw [et];exact cr t (er rfl)),py,CH.zE]
 rcases z with j|j
 ·have l:fh cq (CH a g d h b c e) .wb (.f (oP b c f)) (.f .bX)=O b2:=by unfold oP;refine bT j ?_;rfl
  have u:fh cq (CH a g d h b c e) .ne (.f (oP b c f)) (.f (.Z (b f)))=O b2:=by
   unfold oP;refine bT j ?_
   exact congrArg O (congrArg (! ·) (beq_self_eq_true _))
  rw [NL j,show AR c e f=e by unfold AR;refine bT j ?_;rfl] at k
  refine ed (dg l) ?_
  apply aj;exact u
  exact c8 (b:=q) k eO
 ·have l:fh cq (CH a g d h b c e) .wb (.f (oP b c f)) (.f .bX)=O ar:=by unfold oP;refine bT j ?_;rfl
  rw [show AR c e f=e++[f] by unfold AR;refine bT j ?_;rfl] at k
  refine gL (dg l) ?_
  apply aj;exact K.AP
  apply aj;exact v
  apply aj;exact r.BO
  apply aj;exact s
  apply aj;exact y
  exact c8 (b:=q) k CH.ju
end
def AT(b:Nat)(a:Ct):Prop:=(a.mF=.ad "rescue"∨a.mF=.ad "ensure")∧(a.d1<a.iz)∧(a.iz≤b)∧(a.cP<b)
section
variable{c:Nat}{a:Ct}(b:AT c a)
include b
def AT.mF:a.mF=.ad "rescue"∨a.mF=.ad "ensure":=b.1
def AT.jL:a.d1<a.iz:=b.2.1
def AT.gm:a.iz≤c:=b.2.2.1
def AT.cP:a.cP<c:=b.2.2.2
end
section
variable{h:Nat}{a:bS}{d:Hd}{b:Cd}{i:List bl}{c g e:Nat}
def Pi:fh cq a .ft (.f (.b3 b2)) (.f (.a3 [.b3 ar,.b3 ar,.b3 ar,.b3 ar]))=O b2:=by kernel_rfl
def Se{f:bl}(d:f=.ad "rescue"∨f=.ad "ensure"):fh cq a .fY (.f f) (.f (.cQ [.ad "rescue",.ad "ensure"]))=O b2:=by rcases d with rfl|rfl<;>kernel_rfl
def yX(K:zK a c d b i g e)(m:b.a2.length≤500)(s:b.b6.length≤500)(p:∀l∈b.b6,AT b.a2.length l):RC (vC cq (h+2)) 16 [.fK c] .bX a a:=rf rfl rfl rfl rfl fun w k n q=>by
 apply aj;exact K.jv
 apply aj;exact ef s
 refine qe (fun t=>a) (fun _ (f:Option bZ×Option bZ×Option bZ)=>[O (.fK c),f.1,f.2.1,f.2.2,b1]) (a:=(b1,b1,b1)) (fun v l f u r o=>?_) fun f=>?_
 ·have j:=p l (gj r)
  apply aj;exact K.jv
  apply aj;exact eZ m
  refine pc k (s8 _) ?_
  refine pc k (s8 _) ?_
  refine pc k (s8 _) ?_
  refine pc k (s8 _) ?_
  apply aj;exact Pi
  apply aj;exact Se j.mF
  refine gL (decide_eq_true (kY.mpr j.jL)) ?_
  refine ed (congrArg (! ·) (decide_eq_true (pN.mpr j.gm))) ?_
  refine ed (congrArg (! ·) (decide_eq_true (kY.mpr j.cP))) ?_
  exact o (_,_,_)
 ·exact c8 (b:=n) q eO
end
def NM{f e l:Type}{o:cV→bS→KS→Prop}{p:List Nat}{r:Bool}{s:f→bl}{K:KS}(i:e→f→e)(j:e→Prop)(g:e→bS)(h:l→cV):∀{c:List f}{a:e}{b:l},
  (∀(a:e)(d:f)(b:l)(k:cV→bS→Prop),d∈c→j a→(j (i a d)→∀b,k (h b) (g (i a d)))→jP (h b) p r (s d) fun x=>o x (g a) (jQ k K))→
  j a→(j (c.foldl i a)→∀b,K .cc (h b) (g (c.foldl i a)))→jZ o p r K (c.map s) (h b) (g a):=by
 intro c
 induction c with
 |nil=>
  intro _ _ _ m n
  exact n m _
 |cons d z t=>
  intro a b q m n
  exact q a d b _ fD m fun v y=>t (fun a u b k w=>q a u b k (ia _ w)) v n
abbrev DW:=(Nat→Bool)×List Nat
def f3(a:DW)(b:Nat):DW:=(tG a.1 b,AR a.1 a.2 b)
def mO(b:Cd)(a:DW):Nat:=a.2.length+ww b.a2.length a.1
structure vD(c:Cd)(s:DW):Prop where
 pX:∀p,s.1 p=ar→cx c.nc p
 rz:∀p∈s.2,s.1 p=ar
 zF:mO c s≤c.a2.length
def Ef{b:DW}{c a:Nat}(d:b.1 a=ar):(f3 b c).1 a=ar:=by
 show (b.1 a||c==a)=ar
 refine bT d ?_;rfl
def Eg{b:DW}{a:Nat}:(f3 b a).1 a=ar:=by
 show (b.1 a||a==a)=ar
 rw [beq_self_eq_true,Tu]
def NN{c:DW}{d a:Nat}(b:(f3 c d).1 a=ar):c.1 a=ar∨d=a:=by
 rcases nR.mp (show (c.1 a||d==a)=ar from b) with b|b
 ·exact .inl b
 ·exact .inr (beq_iff_eq.mp b)
def Hn{a:DW}{b:Nat}(c:a.1 b=b2):(f3 a b).2=a.2++[b] :=by unfold f3 AR;refine bT c ?_;rfl
def M5{a:DW}{c:Nat}(b:a.1 c=ar):f3 a c=a:=by unfold f3 AR;(refine bT (NL b) ?_;refine bT b ?_);rfl
def Sf{b:DW}{e d:Nat}(a:(f3 b e).1 d=ar):b.1 d=ar∨d∈(f3 b e).2:=by
 rcases F9 (b.1 e) with c|c
 ·rw [M5 c] at a;exact .inl a
 ·rcases NN a with a|rfl
  ·exact .inl a
  ·exact .inr (by refine bT (Hn c) ?_;exact nU _ fD)
def Pj{b:DW}{e c:Nat}(d:c∈b.2):c∈(f3 b e).2:=by
 rcases F9 (b.1 e) with a|a
 ·refine bT (M5 a) ?_;exact d
 ·refine bT (Hn a) ?_;exact ow _ d
def vD.f3{b:Cd}{c:DW}(f:vD b c){d:Nat}(i:cx b.nc d)(j:d<b.a2.length):vD b (f3 c d)∧mO b (f3 c d)=mO b c:=by
 rcases F9 (c.1 d) with e|e
 ·refine bT (M5 e) ?_;exact ⟨f,rfl⟩
 ·have h:mO b (Mine.f3 c d)=mO b c:=by
   unfold mO
   (refine bT (Hn e) ?_;refine bT dZ ?_;refine gT (D4 j e) ?_)
   exact nS _ 1 _
  refine ⟨⟨fun g a=>?_,fun g a=>?_,h▸f.zF⟩,h⟩
  ·rcases NN a with a|rfl
   ·exact f.pX g a
   ·exact i
  ·rw [Hn e] at a
   rcases my.mp a with a|a
   ·exact Ef (f.rz g a)
   ·exact ib.mp a▸Eg
def XL{a d b c:Nat}(e:c+d=a+b):(a:Int)-(d:Int)+(b:Int)=(c:Int):=ZI e
def q4{c:Cd}{g:Nat}{d:R}(e:c.a2[g]? =O d)(f:cx c.nc g):∀h∈ih c g d,cx c.nc h:=fun h a=>by
 unfold ih at a
 rcases my.mp a with a|a
 ·rcases my.mp a with a|a
  ·by_cases b:d.bV.b8=ar
   ·rw [if_pos b] at a
    exact ib.mp a▸ .cI f (dF.mpr e) b
   ·rw [if_neg b] at a;cases a
  ·by_cases b:d.bV.dR=ar
   ·rw [if_pos b] at a;cases a
   ·rw [if_neg b] at a
    exact ib.mp a▸ .eK f (dF.mpr e) (LK _▸b)
 ·refine bU fun i=>?_
  obtain ⟨b,k,rfl⟩:=hJ.mp a
  obtain ⟨j,l⟩:=l3.mp k
  refine i ?_;try clear i
  exact .dJ f (dF.mpr e) j l
section
variable{h:Nat}{b:bS}{e:Hd}{a:Cd}{g:List bl}{c:Nat→Nat}{d:DW}{i:cK}
def iS(b:bS)(e:Hd)(a:Cd)(g:List bl)(c:Nat→Nat)(d:DW):bS:=CH b e a g c d.1 d.2
def iS.k3:zK (iS b e a g c d) (b.length+2) e a g b.length (b.length+1):=CH.k3
def iS.ju{f:DW}:(iS b e a g c d).take (iS b e a g c f).length=iS b e a g c d:=CH.ju
def pz:jN cq (iS b e a g c d) (.fK (b.length+2)) "reach"=O (.fn 11):=by
 have f:(iS b e a g c d)[b.length+2]? =O (O (.jW 3 [.f (cf e a),.f (.a3 g),.cu b.length,.cu (b.length+1)])):=zB _ _ _ _ _
 exact congrArg (jG · _) (wq f)
def Ho(m:vD a d)(j:a.a2.length≤500){f:Nat}(o:f<a.a2.length){k:Int}(n:k=c f)(l:bl):RC (vC cq (h+2)) 11 [.fK (b.length+2),.f (.Z f),.f (.Z k),.f l] .bX (iS b e a g c d) (iS b e a g c (f3 d f)):=
 Sd j (cr (fg _ _) (cr m.zF (cr j (er rfl)))) o n l
def XM(T:eb a.nc c)(X:∀f,cx a.nc f→∀m∈a.b6,m.c4 f=ar→m.dG≤c f)(n:vD a d)(v:a.a2.length≤500)(ae:a.b6.length≤500){f:Nat}{k:R}(t:a.a2[f]? =O k)(L:d.1 f=ar):RC (vC cq (h+3)) 15 [.fK (b.length+2),.f (.Z f)] .bX (iS b e a g c d) (iS b e a g c ((ih a f k).foldl f3 d)):=rf rfl rfl rfl rfl fun i s w l=>by
 have p:=n.pX f L
 have F:=T.dh f k p (dF.mpr t)
 have q:∀o,cx a.nc o→o<a.a2.length:=fun o A=>by
  have:=T.kJ o A
  unfold Cd.nc at this;rw [et] at this;exact this
 have Y:=q4 t p
 have aa:=q f p
 have W:(iN a.a2.length c d.1).length≤100000:=mZ.symm▸cr v (er rfl)
 have K:zK (iS b e a g c d) (b.length+2) e a g b.length (b.length+1):=iS.k3
 have ac:jX cq (iS b e a g c d) (.cu b.length) (.f (.Z f))=O (.Z (c f)):=by
  rw [show bl.Z (c f)=oP c d.1 f by unfold oP;refine bT L ?_;rfl]
  exact zD CH.AS (tH aa) W
 apply aj;exact K.jv
 apply aj;exact hC t v
 apply aj;exact K.AP
 apply aj;exact ac
 refine pc s (Pe k) ?_
 refine ed (decide_eq_false (zn.mpr (pN.mpr F.c0))) ?_
 have P:∀o,c o+k.bV.c0=c f+k.bV.fS→((c f:Int)-(k.bV.c0:Int)+(k.bV.fS:Int))=(c o:Int):=fun o s=>XL s
 unfold ih at Y l
 rw [tR,tR,List.foldl_map,List.foldl_filter] at l
 have Q:∀u:DW,vD a u→w (.f .bX) (iS b e a g c (a.b6.foldl (fun d m=>if m.c4 f=ar then f3 d m.cP else d) u))→fG ⟨cq,i⟩ (.J (.fT [2] b2 (.cE (.bY (.bY (.bW 0) "code") "catches")) jO) .N) [O (.fK (b.length+2)),O (.f (.Z f)),b1,O (.f (eR k)),O (.f (.Z (c f))),O (.f (.Z k.bV.c0)),O (.f (.Z k.bV.fS))] (iS b e a g c u) (lG lB.cR (iS b e a g c d).length w):=fun u z l=>by
  have af:zK (iS b e a g c u) (b.length+2) e a g b.length (b.length+1):=iS.k3
  apply aj;exact af.jv
  apply aj;exact ef ae
  refine NM (fun d m=>if m.c4 f=ar then f3 d m.cP else d) (vD a) (iS b e a g c) (fun (j:Option bZ)=>[O (.fK (b.length+2)),O (.f (.Z f)),j,O (.f (eR k)),O (.f (.Z (c f))),O (.f (.Z k.bV.c0)),O (.f (.Z k.bV.fS))]) (fun d m j ag G n C=>?_) z fun n j=>?_
  ·refine pc s (DY m f) ?_
   refine cD (fun j=>?_) fun j=>?_
   ·rw [if_pos j] at C
    have l:cx a.nc m.cP:=.dJ p (dF.mpr t) G j
    refine ed (decide_eq_false (zn.mpr (pN.mpr (X f p m G j)))) ?_
    apply aj;exact pz
    refine rc s (Ho n v (q _ l) (by refine bT (F.dJ m G j) ?_;rfl) _) ?_
    exact C (n.f3 l (q _ l)).1 _
   ·rw [if_neg (LK _▸j)] at C
    exact C n _
  ·exact c8 (b:=w) l iS.ju
 have I:∀x:DW,vD a x→(vD a ((if k.bV.dR then [] else [f+1]).foldl f3 x)→w (.f .bX) (iS b e a g c (a.b6.foldl (fun d m=>if m.c4 f=ar then f3 d m.cP else d) ((if k.bV.dR then [] else [f+1]).foldl f3 x))))→fG ⟨cq,i⟩ (.J (.cB (.b7 (.bY (.bW 3) "op") (.J .fY (.b5 18) .N)) (.J (.df (.eQ (.bW 0) "reach" (.J (.eD ar .dc (.bW 1) (.Z 1)) (.J (.eD ar .dc (.eD ar .fw (.bW 4) (.bW 5)) (.bW 6)) (.J (.bW 1) .N))))) .N) .N) (.J (.fT [2] b2 (.cE (.bY (.bY (.bW 0) "code") "catches")) jO) .N)) [O (.fK (b.length+2)),O (.f (.Z f)),b1,O (.f (eR k)),O (.f (.Z (c f))),O (.f (.Z k.bV.c0)),O (.f (.Z k.bV.fS))] (iS b e a g c x) (lG lB.cR (iS b e a g c d).length w):=fun x y l=>by
  apply aj;exact sH k.bV
  refine cD (fun j=>?_) fun j=>?_
  ·have j:=nN j
   rw [if_neg (by refine bT j ?_;exact kx)] at l
   have r:cx a.nc (f+1):=.eK p (dF.mpr t) j
   apply aj;exact pz
   refine rc s (Ho y v (q _ r) (P _ (F.eK j)) _) ?_
   have z:=(y.f3 r (q _ r)).1
   exact Q _ z (l z)
  ·rw [if_pos (pW j)] at l
   exact Q _ y (l y)
 apply aj;exact om k.bV
 refine cD (fun j=>?_) fun j=>?_
 ·rw [if_pos j] at l
  have r:cx a.nc k.t:=.cI p (dF.mpr t) j
  have A:=Ho (h:=h) (b:=b) (e:=e) (g:=g) (c:=c) n v (q _ r) (P _ (F.cI j)) (.Z f)
  rw [← fi j] at A
  apply aj;exact pz
  refine rc s A ?_
  exact I _ (n.f3 r (q _ r)).1 fun ab=>l
 ·rw [if_neg (LK _▸j)] at l
  exact I _ n fun ab=>l
end
def AU(d:Cd)(e:List Nat)(c b:DW):Prop:=(vD d b)∧(Mine.mO d b=Mine.mO d c)∧(∀a,c.1 a=ar→b.1 a=ar)∧(∀a∈e,b.1 a=ar)∧(∀a∈c.2,a∈b.2)∧(∀a,b.1 a=ar→c.1 a=ar∨a∈b.2)
section
variable{d:Cd}{e:List Nat}{c a:DW}(b:AU d e c a)
include b
def AU.cF:vD d a:=b.1
def AU.mO:Mine.mO d a=Mine.mO d c:=b.2.1
def AU.cO:∀f,c.1 f=ar→a.1 f=ar:=b.2.2.1
def AU.c2:∀f∈e,a.1 f=ar:=b.2.2.2.1
def AU.rz:∀f∈c.2,f∈a.2:=b.2.2.2.2.1
def AU.mN:∀f,a.1 f=ar→c.1 f=ar∨f∈a.2:=b.2.2.2.2.2
end
def I7{h:Cd}:∀{e:List Nat}{f:DW},vD h f→(∀g∈e,cx h.nc g∧g<h.a2.length)→AU h e f (e.foldl f3 f):=by
 intro e
 induction e with
 |nil=>
  intro f k _
  exact ⟨k,rfl,fun j c=>c,(fun j c=>absurd c gD),fun j c=>c,fun j c=>Or.inl c⟩
 |cons g e o=>
  intro f k c
  obtain ⟨m,l⟩:=c g fD
  obtain ⟨n,p⟩:=k.f3 m l
  have d:=o n fun b a=>c b (ia _ a)
  refine ⟨d.cF,d.mO.trans p,fun b a=>d.cO b (Ef a),fun b a=>?_,fun b a=>d.rz b (Pj a),fun b a=>?_⟩
  ·rcases eP.mp a with rfl|a
   ·exact d.cO _ Eg
   ·exact d.c2 b a
  ·rcases d.mN b a with i|i
   ·exact (Sf i).imp id (d.rz b)
   ·exact .inr i
def va(c:Cd)(b:DW):Prop:=(vD c b)∧(∀a∈c.cp,b.1 a=ar)∧(∀(a:Nat)(d:R),b.1 a=ar→a∉b.2→c.a2[a]? =O d→∀e∈ih c a d,b.1 e=ar)
section
variable{b:Cd}{a:DW}(c:va b a)
include c
def va.cF:vD b a:=c.1
def va.cp:∀d∈b.cp,a.1 d=ar:=c.2.1
def va.d9:∀(d:Nat)(e:R),a.1 d=ar→d∉a.2→b.a2[d]? =O e→∀f∈ih b d e,a.1 f=ar:=c.2.2
end
def va.nz{f:Cd}{e:Nat→Bool}(g:va f (e,[])):e=j5 f:=funext fun d=>by
 have i:∀{d j:Nat}{k:R},e d=ar→f.a2[d]? =O k→j∈ih f d k→e j=ar:=fun h m n=>g.d9 _ _ h (gD) m _ n
 rw [vJ,ln]
 refine ⟨g.cF.pX d,fun l=>?_⟩
 induction l with
 |dH h=>exact g.cp _ h
 |lg _ a _=>exact absurd a (sY _)
 |eK _ a b c=>exact i c (dF.mp a) (by unfold ih;refine bT b ?_;exact ow _ (nU _ fD))
 |cI _ a b c=>exact i c (dF.mp a) (by unfold ih;refine bT (if_pos b) ?_;exact ow _ (ow _ fD))
 |dJ _ a o b c=>exact i c (dF.mp a) (by unfold ih;exact nU _ (hJ.mpr ⟨_,l3.mpr ⟨o,b⟩,rfl⟩))
def va.fN{b:Cd}{d:Nat→Bool}{e:List Nat}{c:Nat}{n:R}(f:va b (d,e++[c]))(j:b.a2[c]? =O n)(v:∀a,cx b.nc a→a<b.a2.length):vD b (d,e)∧va b ((ih b c n).foldl f3 (d,e))∧mO b ((ih b c n).foldl f3 (d,e))+1=mO b (d,e++[c]):=by
 have s:d c=ar:=f.cF.rz c (nU _ fD)
 have r:mO b (d,e)+1=mO b (d,e++[c]):=by
  unfold mO
  refine bT dZ ?_
  exact nS _ _ 1
 have p:vD b (d,e):=⟨f.cF.pX,fun a g=>f.cF.rz a (ow _ g),cr (fM _) (r.symm▸f.cF.zF:mO b (d,e)+1≤b.a2.length)⟩
 have h:=I7 p fun a g=>⟨q4 j (f.cF.pX c s) a g,v a (q4 j (f.cF.pX c s) a g)⟩
 refine ⟨p,⟨h.cF,fun a g=>h.cO a (f.cp a g),fun a u g o m l q=>?_⟩,h.mO▸r⟩
 rcases h.mN a g with k|k
 ·by_cases t:a=c
  ·subst t
   rw [j] at m
   obtain rfl:=dg m
   exact h.c2 l q
  ·refine h.cO l (f.d9 a u k (fun i=>?_) m l q)
   rcases my.mp i with i|i
   ·exact o (h.rz a i)
   ·exact t (ib.mp i)
 ·exact absurd k o
def jn(d:Hd)(a:Cd)(g:Bool)(f:Nat→Nat):Prop:=(d.dm=.ad "block"∨d.dm=.ad "method")∧(∃h i,d.gc=.a3 [h,i])∧(∀c∈a.a2,c.cF g=ar)∧(∀c∈a.a2,c.bV.b8=ar→c.t<a.a2.length)∧(∀b∈a.b6,AT a.a2.length b)∧(a.cp≠ [])∧(eb a.nc f)∧(∀e,cx a.nc e→∀b∈a.b6,b.c4 e=ar→b.dG≤f e)∧(Bd a)
section
variable{c:Hd}{a:Cd}{e:Bool}{d:Nat→Nat}(b:jn c a e d)
include b
def jn.dm:c.dm=.ad "block"∨c.dm=.ad "method":=b.1
def jn.gc:∃f g,c.gc=.a3 [f,g] :=b.2.1
def jn.a2:∀f∈a.a2,f.cF e=ar:=b.2.2.1
def jn.iV:∀f∈a.a2,f.bV.b8=ar→f.t<a.a2.length:=b.2.2.2.1
def jn.b6:∀f∈a.b6,AT a.a2.length f:=b.2.2.2.2.1
def jn.cp:a.cp≠ [] :=b.2.2.2.2.2.1
def jn.gK:eb a.nc d:=b.2.2.2.2.2.2.1
def jn.AS:∀f,cx a.nc f→∀g∈a.b6,g.c4 f=ar→g.dG≤d f:=b.2.2.2.2.2.2.2.1
def jn.bd:Bd a:=b.2.2.2.2.2.2.2.2
end
section
variable{g:Nat}{b:bS}{c:Hd}{a:Cd}{e:Bool}{d:Nat→Nat}
def Sg{f:bl}(c:f=.ad "block"∨f=.ad "method"):fh cq b .fY (.f f) (.f (.cQ [.ad "method",.ad "block",.ad "class",.ad "program"]))=O b2:=by rcases c with rfl|rfl<;>kernel_rfl
noncomputable def Wz:Op→Bool
 |.kB|.kC=>ar
 |_=>b2
def acd:(fu.all fun f=>eA (ic (.ad f.cT) [.ad "getl",.ad "setl"]) (Wz f))=ar:=by kernel_rfl
def aau(f:Op):fh cq b .ft (.f (.ad f.cT)) (.f (.cQ [.ad "getl",.ad "setl"]))=O (Wz f):=ol acd f
def Si{f:Op}(c:Wz f=ar):f=.kB∨f=.kC:=by
 induction f<;>first|exact .inl rfl|exact .inr rfl|exact dy c
def xf{i:DW}{f:List bl}:jN cq (iS b c a f d i) (.fK (b.length+2)) "need_form"=O (.fn 12)∧jN cq (iS b c a f d i) (.fK (b.length+2)) "need_slots"=O (.fn 13)∧jN cq (iS b c a f d i) (.fK (b.length+2)) "need_child"=O (.fn 14)∧jN cq (iS b c a f d i) (.fK (b.length+2)) "need_catches"=O (.fn 16)∧jN cq (iS b c a f d i) (.fK (b.length+2)) "step"=O (.fn 15):=by
 have h:(iS b c a f d i)[b.length+2]? =O (O (.jW 3 [.f (cf c a),.f (.a3 f),.cu b.length,.cu (b.length+1)])):=zB _ _ _ _ _
 have h:=wq h
 exact ⟨congrArg (jG · _) h,congrArg (jG · _) h,congrArg (jG · _) h,congrArg (jG · _) h,congrArg (jG · _) h⟩
def Sj(f:jn c a e d){y:List pd}(aG:c.fB=y.map ez)(al:y.length≤5)(aB:e=ar→y≠ [])(au:∀av∈y,av.1.dm=.ad "block"){j:List bl}(am:j.length≤5):RC (vC cq (g+4)) 17 [.fK (b.length+2)] .bX (iS b c a (cf c a::j) d (fun l=>b2,[])) (iS b c a (cf c a::j) d (j5 a,[])):=rf rfl rfl rfl rfl fun aq q aw s=>by
 have n:a.a2.length≤500:=cr f.bd.a2 (er rfl)
 have ag:a.cp.length≤500:=cr f.bd.cp (er rfl)
 have ac:a.b6.length≤500:=cr f.bd.b6 (er rfl)
 have K:zK (iS b c a (cf c a::j) d (fun l=>b2,[])) (b.length+2) c a (cf c a::j) b.length (b.length+1):=iS.k3
 apply aj;exact K.jv
 apply aj;exact Sg f.dm
 apply aj;exact K.jv
 apply aj;exact eZ ag
 have C:a.cp.length≠0:=fun h=>f.cp (TV.mp h)
 refine ed (beq_false_of_ne fun h=>C (GZ h)) ?_
 apply aj;exact K.jv
 apply aj;exact m3 n
 refine Fz (fun l=>iS b c a (cf c a::j) d (fun l=>b2,[])) (fun _ (k:Option bZ×Option bZ)=>[O (.fK (b.length+2)),b1,k.1,k.2]) (a:=(b1,b1)) (fun aC x k I ak v=>?_) fun k=>?_
 ·have r:=gj ak
  have z:=f.a2 x r
  apply aj;exact xf.1
  refine rc q (XK z K n (f.iV x r)) ?_
  have af:∀aa:KS,fG ⟨cq,aq⟩ (.J (.df (.eQ (.bW 0) "need_child" (.J (.bW 2) (.J (.bW 3) .N)))) .N) [O (.fK (b.length+2)),b1,O (.f (.Z aC)),O (.f (eR x))] (iS b c a (cf c a::j) d (fun l=>b2,[])) (jQ I aa):=fun aa=>by
   apply aj;exact xf.2.2.1
   refine rc q (CZ z K aG al aB au) ?_
   exact v (_,_)
  apply aj;exact aau x.bV
  refine cD (fun k=>?_) fun k=>?_
  ·refine bU fun u=>?_
   obtain ⟨w,aI,C⟩:=f.gc
   refine u ?_;try clear u
   apply aj;exact xf.2.1
   refine rc q (Sa z (Si k) K am C) ?_
   exact af _
  ·exact af _
 ·apply aj;exact xf.2.2.2.1
  refine rc q (yX K n ac f.b6) ?_
  apply aj;exact K.jv
  apply aj;exact ef (c:=e8) ag
  have G:∀i,cx a.nc i→i<a.a2.length:=fun i h=>by
   have:=f.gK.kJ i h
   unfold Cd.nc at this;rw [et] at this;exact this
  have Q:∀i∈a.cp,cx a.nc i∧i<a.a2.length:=fun i s=>⟨.dH s,G i (.dH s)⟩
  have ab:vD a (fun l=>b2,[]):=⟨(fun l h=>dy h),(fun l h=>absurd h gD),cr (jH (kU _)) (BI _ _)⟩
  refine NM f3 (vD a) (iS b c a (cf c a::j) d) (fun (w:Option bZ)=>[O (.fK (b.length+2)),w,k.1,k.2]) (fun o i w I ae t v=>?_) ab fun t w=>?_
  ·obtain ⟨az,T⟩:=Q i ae
   apply aj;exact pz
   refine rc q (Ho t n T (congrArg Int.ofNat (f.gK.dH i ae).symm) _) ?_
   exact v (t.f3 az T).1 _
  ·have L:=I7 ab Q
   have F:va a (a.cp.foldl f3 (fun l=>b2,[])):=⟨L.cF,L.c2,fun m x aH an=>(L.mN m aH).elim (fun h=>dy h) fun h=>absurd h an⟩
   generalize a.cp.foldl f3 (fun l=>b2,[])=aD at F⊢
   refine wv (fun R Y W=>∃o,Y=[O (.fK (b.length+2)),w,k.1,k.2] ∧W=iS b c a (cf c a::j) d o∧va a o∧mO a o=R) (fun R Y W I ah v=>?_) ⟨aD,rfl,rfl,F,rfl⟩ (kT (cr F.cF.zF n) (er rfl))
   refine bU fun u=>?_
   obtain ⟨o,rfl,rfl,p,aE⟩:=ah
   obtain ⟨X,A⟩:=o
   refine u ?_;try clear u
   have P:A.length≤500:=cr (fg _ _) (cr p.cF.zF n)
   have K:zK (iS b c a (cf c a::j) d (X,A)) (b.length+2) c a (cf c a::j) b.length (b.length+1):=iS.k3
   apply aj;exact K.BO
   apply aj;exact VK (cr P (er rfl))
   rcases T3 A with rfl|⟨ay,m,rfl⟩
   ·rw [← p.nz] at s
    exact c8 (b:=aw) s iS.ju
   ·rw [T4] at*
    have ai:=p.cF.pX m (p.cF.rz m (nU _ fD))
    have r:a.a2[m]? =O (a.a2[m]'(G m ai)):=gS _
    have ⟨t,aA,ao⟩:=p.fN r G
    have aF:=p.cF.rz m (nU _ fD)
    refine gL (decide_eq_true (by refine bT dZ ?_;exact kY.mpr (nI _))) ?_
    apply aj;exact xf.2.2.2.2
    apply aj;exact K.BO
    apply aj;exact mY CH.wai
    apply aj;exact VJ (cr P (er rfl))
    refine rc q (XM (d:=(X,ay)) f.gK f.AS t n ac r aF) ?_
    exact v _ _ _ (Nat.lt_of_succ_le (aE▸jH ao)) ⟨_,rfl,rfl,aA,rfl⟩
end
section
variable{e:Nat}{a:bS}{c:Hd}{b:Cd}{g:Bool}{d:Nat→Nat}
def Sk{j:bl}{h:List bl}(i:b.a2.length≤500)(q:(c.dm=.ad "block"∧oe (.f j)=O h∧h.length≤5)∨(c.dm=.ad "method"∧h=[])){k:KE}(u:k (.fK (a.length+2)) (iS a c b (cf c b::h) d (fun f=>b2,[]))):vC cq (e+1) 1003 [.f (cf c b),.f j] a k:=by
 have o:pn a b2 .kF (.f (.a3 [.bX])) (.f (.Z b.a2.length))=O (.cu a.length,a++[O (.a3 (iN b.a2.length d fun f=>b2))]):=by
  have v:iN b.a2.length d (fun f=>b2)=ky b.a2.length .bX:=by
   unfold iN
   (refine bT (show oP d (fun f=>b2)=fun f=>bl.bX from rfl) ?_;refine bT Ug ?_;refine bT pk ?_;rfl)
  refine bT v ?_
  exact (u4 _ _ (cr i (er rfl))).trans (g4 (by refine bT L2 ?_;exact cr i (er rfl)))
 have r:(a++[O (dw.a3 (iN b.a2.length d fun f=>b2)),O (.a3 [])]).length=a.length+2:=dZ
 have n:k (.fK (a++[O (dw.a3 (iN b.a2.length d fun f=>b2)),O (.a3 [])]).length) ((a++[O (.a3 (iN b.a2.length d fun f=>b2)),O (.a3 [])])++[O (.jW 3 [.f (cf c b),.f (.a3 (cf c b::h)),.cu a.length,.cu (a.length+1)])]):=by
  (refine bT r ?_;rw [m8]);exact u
 rcases q with ⟨m,t,s⟩|⟨m,rfl⟩
 ·have l:fh cq a .cZ (.f c.dm) (.f (.ad "block"))=O ar:=by refine bT m ?_;kernel_rfl
  have p:Fr a (.f (cf c b)) (.f j)=O (.f (.a3 (cf c b::h)),a):=by
   show (oe (.f j)).bind _=_
   refine bT t ?_
   exact lw (iF (cr s (er rfl)))
  apply aj;exact l
  apply aj;exact p
  apply aj;exact eZ i
  apply aj;exact o
  apply aj;exact qQ (er rfl)
  exact n
 ·have l:fh cq a .cZ (.f c.dm) (.f (.ad "block"))=O b2:=by refine bT m ?_;kernel_rfl
  apply aj;exact l
  apply aj;exact eZ i
  apply aj;exact o
  apply aj;exact qQ (er rfl)
  exact n
def vc{k h:cK}(m:k=h){f:Nat}{j:List bZ}{a:bS}{i:KE}(l:h f j a i):k f j a i:=m▸l
def Pk{h:DW}{f:List bl}:jN cq (iS a c b f d h) (.fK (a.length+2)) "run"=O (.fn 17):=by
 have i:(iS a c b f d h)[a.length+2]? =O (O (.jW 3 [.f (cf c b),.f (.a3 f),.cu a.length,.cu (a.length+1)])):=zB _ _ _ _ _
 exact congrArg (jG · _) (wq i)
def iS.ace{h:DW}{i:List bl}{f:Option dw}:((iS a c b i d h).set a.length f).take a.length=a:=by
 unfold iS CH
 rw [kk]
 exact ze
def I8{y:List bZ}{p:bl}{h:List bl}(I:l5 sD y=O [.f (cf c b),.f p])(t:jn c b g d){f:List pd}(z:c.fB=f.map ez)(o:f.length≤5)(W:g=ar→f≠ [])(v:∀i∈f,i.1.dm=.ad "block")
  (s:(c.dm=.ad "block"∧oe (.f p)=O h∧h.length≤5)∨(c.dm=.ad "method"∧h=[]))
  (T:∀i∈f,∃x,PC (vC cq (e+5)) 18 [.f (ez i),.f (.a3 (cf c b::h))] x):PC (vC cq (e+6)) 18 y (.a3 (iN b.a2.length d (j5 b))):=pf rfl rfl I rfl fun ae r a P A=>by
 have L:b.a2.length≤500:=cr t.bd.a2 (er rfl)
 have G:h.length≤5:=by
  rcases s with ⟨_,_,Q⟩|⟨_,rfl⟩
  ·exact Q
  ·exact fy _
 refine bU fun u=>?_
 obtain ⟨j,k,l,m,aa⟩:=c
 refine u ?_;try clear u
 dsimp only at z
 subst z
 refine vc r (Sk (d:=d) L s ?_)
 apply aj;exact ef (cr o (er rfl))
 refine k6 ez (fun n=>b2) ez (fun af ac K ab n Y=>Y rfl) ?_
 refine bT (TY.mpr fun n n=>kx) ?_
 apply aj;exact wD
 apply aj;exact Pk
 refine rc r (Sj t rfl o W v G) ?_
 apply aj;exact ef (cr o (er rfl))
 refine qe (fun n=>iS a ⟨j,k,l,m,f.map ez⟩ b (cf ⟨j,k,l,m,f.map ez⟩ b::h) d (j5 b,[])) (fun _ (q:Option bZ)=>[O (.f (cf ⟨j,k,l,m,f.map ez⟩ b)),O (.f p),O (.fK (a.length+2)),q,b1]) (a:=b1) (fun ag i q ah F R=>?_) fun q=>?_
 ·have w:=gj F
  have C:fh cq (iS a ⟨j,k,l,m,f.map ez⟩ b (cf ⟨j,k,l,m,f.map ez⟩ b::h) d (j5 b,[])) .cZ (.f i.1.dm) (.f (.ad "block"))=O ar:=by refine bT (v i w) ?_;kernel_rfl
  obtain ⟨x,X⟩:=T i w
  apply aj;exact C
  apply aj;exact iS.k3.Dn
  refine pc r X ?_
  exact R _
 ·apply aj;exact iS.k3.AP
  apply aj;exact js CH.AS
  exact c8 (b:=P) A iS.ace
end
def Dp(a:pd):Prop:=(∃b,jn a.1 a.2 b2 b)∧(a.1.fB=[])∧(a.1.dm=.ad "block")
section
variable{a:pd}(b:Dp a)
include b
def Dp.cF:∃c,jn a.1 a.2 b2 c:=b.1
def Dp.bX:a.1.fB=[] :=b.2.1
def Dp.dm:a.1.dm=.ad "block":=b.2.2
end
section
variable{c:Nat}{a:Hd}{b:Cd}{e:Bool}{d:Nat→Nat}
def NO(n:jn a b e d)(p:a.dm=.ad "method"){i:List pd}(k:a.fB=i.map ez)(m:i.length≤5)(s:e=ar→i≠ [])(h:∀f∈i,Dp f):PC (vC cq (c+8)) 63 [.f (cf a b)] (.a3 (iN b.a2.length d (j5 b))):=pf rfl rfl rfl rfl fun w t v l r=>by
 refine pc t (I8 (e:=c+1) (p:=.cQ []) (h:=[]) rfl n k m s (fun f k=>(h f k).dm) (.inr ⟨p,rfl⟩) fun f j=>?_) ?_
 ·obtain ⟨u,o⟩:=(h f j).cF
  exact ⟨_,I8 (e:=c) (p:=.a3 [cf a b]) (h:=[cf a b]) (f:=[]) rfl o (h f j).bX (fy _) (fun g=>dy g) (fun q g=>absurd g gD) (.inl ⟨(h f j).dm,rfl,er rfl⟩) fun q g=>absurd g gD⟩
 ·exact c8 (b:=l) r eO
end
def GB(e:Bool)(d:Nat)(f:dw):Prop:=∃c a b:Nat,f=.a3 [.Z c,.Z a,.Z b,.b3 e] ∧a<2 ^ 31∧b≤d
def GB.up{c:Bool}{b a:Nat}{d:dw}(j:GB c b d)(g:b≤a):GB c a d:=by obtain ⟨f,h,i,l,k,e⟩:=j;exact ⟨f,h,i,l,k,cr e g⟩
structure EC(C:cK)(k:Nat)(args:List bZ)(fl:Bool)(j:Nat)(P:bl→Prop):Prop where
 eI:∀(m:Nat)(b:dw)(τ:bS)(Q:KE),m+j≤5000→GB fl m b→(∀(b':dw)(v:bl),GB fl (m+j) b'→P v→Q (.f v) (O b'::τ))→C k args (O b::τ) Q
section
variable{b:Nat}{a:bS}{fz:Bool}
def aav{d c:Int}(f:d.natAbs<2 ^ 64)(e:c.natAbs<2 ^ 64):pn a fz .kF (.f (.Z d)) (.f (.Z c))=O (.f (.Z (d*c)),a):=if_pos ⟨f,e⟩
def VX{d c:Int}(e:c≠0):pn a fz .qK (.f (.Z d)) (.f (.Z c))=O (.f (.Z (pO d c)),a):=if_neg e
def aaw{e c:Int}(f:c≠0)(g:c.natAbs<1073741824):pn a fz .ua (.f (.Z e)) (.f (.Z c))=O (.f (.Z (Cr e c)),a):=if_neg fun d=>d.elim f fun d=>d g
def aax{d c:Int}(g:d.natAbs<2 ^ 64)(f:0≤c)(e:c≤100):pn a fz (.sd ()) (.f (.Z d)) (.f (.Z c))=O (.f (.Z (d ^ c.toNat)),a):=if_pos ⟨g,f,e⟩
def wE{d:Int}{c:Nat}(e:0<c):∃g<c,pO d c=(g:Nat):=by
 have i:(c:Int)≠0:=fun h=>LW e (GZ h)
 have f:=Int.emod_nonneg d i
 have j:=Int.emod_lt_of_pos d (kY.mpr e)
 refine bT (Int.fmod_eq_emod_of_nonneg d (sb c)) ?_
 exact ⟨(d % c).toNat,(UN f).mpr j,(UF f).symm⟩
def aay{d:Int}{c:Nat}(e:0<c):(pO d c).natAbs<c:=by
 obtain ⟨h,f,g⟩:=wE (d:=d) e
 refine bT g ?_;exact f
def FR{c d:Int}{e f:Nat}(h:c.natAbs≤e)(g:d.natAbs≤f):(c+d).natAbs≤e+f:=cr (Int.natAbs_add_le c d) (pH h g)
def XN{d e:Int}{c f:Nat}(h:d.natAbs≤c)(g:e.natAbs≤f):(d*e).natAbs≤c*f:=by rw [Int.natAbs_mul];exact Gf h g
def M6{d f:Int}{c e:Nat}(i:d.natAbs≤c)(g:f.natAbs≤e)(k:c<2 ^ 64)(l:e<2 ^ 64):∃h:Int,h.natAbs≤c*e∧∀(a:bS)(fz:Bool),pn a fz .kF (.f (.Z d)) (.f (.Z f))=O (.f (.Z h),a):=
 ⟨d*f,XN i g,fun j j=>aav (kT i k) (kT g l)⟩
def VY{e c:Int}{d:Nat}(k:e.natAbs≤d)(h:d<2 ^ 64)(j:0≤c)(f:c≤100):∃i:Int,∀(a:bS)(fz:Bool),pn a fz (.sd ()) (.f (.Z e)) (.f (.Z c))=O (.f (.Z i),a):=
 ⟨_,fun g g=>aax (kT k h) j f⟩
def f7{h:Bool}{c:Nat}(l:0<c)(F:c<1000):EC (vC cq (b+1)) 40 [.cu 0,.f (.Z c)] h 1 fun L=>∃i<c,L=.Z (i:Nat):=⟨fun W Y s t y I p=>by
 refine bU fun d=>?_
 obtain ⟨g,e,f,rfl,o,m⟩:=I
 have j:(c:Int)≠0:=fun K=>LW l (GZ K)
 have r:((f:Int)+1).natAbs≤5000:=cr (iF m) y
 have u:(5000:Nat)<2 ^ 64:=by decide
 obtain ⟨R,C,x⟩:=M6 (d:=40169) (c:=40169) (by decide) r (by decide) u
 obtain ⟨q,v⟩:=VY (e:=e+R+7) (c:=5) (FR (FR (iG o) C) (by decide:(7:Int).natAbs≤7)) (by decide) (by decide) (by decide)
 have z:(pO q 2147483647).natAbs≤2147483647:=iG (aay (c:=2147483647) (by decide))
 obtain ⟨w,G,Q⟩:=M6 (d:=93001) (c:=93001) (by decide) r (by decide) u
 obtain ⟨P,T⟩:=VY (e:=pO q 2147483647+w) (c:=3) (FR z G) (by decide) (by decide) (by decide)
 refine d ?_;try clear d
 refine Hi (fun X aa=>?_) rfl rfl rfl rfl
 refine cD (fun A=>?_) fun A=>?_
 ·apply aj;exact VX j
  apply aj;exact aaw j (LX F (er rfl))
  refine bU fun d=>?_
  obtain ⟨i,n,k⟩:=wE (d:=(g:Int)) l
  refine d ?_;try clear d
  exact c8 (b:=t) (p (.a3 [.Z (Cr g c),.Z e,.Z f,.b3 h]) _ ⟨g / c,e,f,by rw [Int.ofNat_fdiv],o,uL m⟩ ⟨i,n,congrArg bl.Z k⟩) (eO (l:=O (.a3 [.Z (Cr g c),.Z e,.Z f,.b3 h])::s))
 ·apply aj;exact x _ _
  apply aj;exact v _ _
  apply aj;exact Q _ _
  apply aj;exact T _ _
  apply aj;exact VX j
  refine bU fun d=>?_
  obtain ⟨i,n,k⟩:=wE (d:=Cr (pO P 2147483587) 16) l
  refine d ?_;try clear d
  exact c8 (b:=t) (p (.a3 [.Z g,.Z e,.Z ((f:Int)+1),.b3 h]) _ ⟨g,e,f+1,rfl,o,iF m⟩ ⟨i,n,congrArg bl.Z k⟩) (eO (l:=O (.a3 [.Z g,.Z e,.Z ((f:Int)+1),.b3 h])::s))⟩
end
def ec{m h:cK}{g f a:Nat}{l:List bZ}{d:Bool}{k:bl→Prop}{e:dw}{b:bS}{c:KE}(r:m=h)(p:EC h g l d f k)(q:a+f≤5000)(n:GB d a e)(o:∀(i:dw)(j:bl),GB d (a+f) i→k j→c (.f j) (O i::b)):m g l (O e::b) c:=r▸p.eI a e b c q n o
def FS{n k l:Nat}{q m:List bZ}{g:dz}{o:cW}{i:Bool}{p:bl→Prop}(t:cq.p9[k]? =O g)(F:g.cN=.cA o)(r:l5 g q=O m)(u:jJ k 1000=ar)
  (x:∀c:cK,c=vC cq n→∀(a:Nat)(h:dw)(d:bS)(e:KE),a+l≤5000→GB i a h→(∀(b:dw)(f:bl)(j:bS),GB i (a+l) b→p f→j=O b::d→e (.f f) j)→Ag ⟨cq,c⟩ g o m (O h::d) e):EC (vC cq (n+1)) k q i l p:=
 ⟨fun a h d e s v C=>Hi (fun c A=>x c A a h d e s v fun b f j y w z=>z▸C b f y w) t F r u⟩
def Hp{d b:dw}{a c:bS}:(O b::(a++c)).take (O d::a).length=O b::a:=congrArg (O b:: ·) ze
def s9{c b:dw}{a:bS}:(O b::a).take (O c::a).length=O b::a:=congrArg (O b:: ·) eO
def Hq{a:List bl}{b:Nat}(c:b<a.length)(d:a.length≤1000):∃e∈a,∀f:bS,jX cq f (.f (.a3 a)) (.f (.Z b))=O e:=
 ⟨a[b],vR c,fun g=>qu (gS c) (cr d (er rfl))⟩
def M7{a:List bl}{b:Nat}(c:b<a.length)(d:a.length≤1000):∃e∈a,∀f:bS,jX cq f (.f (.cQ a)) (.f (.Z b))=O e:=
 ⟨a[b],vR c,fun g=>IU (gS c) (cr d (er rfl))⟩
structure W where
 bV:Op
 g:Option Nat
 a:bl
 b:bl
def W.Hr(a:W):bl:=cond a.bV.b8 (a.g.elim .bX fun b=>.Z b) a.a
def W.kO(a:W):bl:=.cQ [.ad a.bV.cT,a.Hr,a.b]
noncomputable def W.dh(a:W):R:=⟨a.bV,0,a.a,a.b,.bX,0⟩
structure BQ(w:W):Prop where
 bV:w.bV=.d0
 hM:gZ w.a=ar
 b:w.b=.bX
 g:w.g=b1
section
variable{a:Nat}{b:Bool}
def Sl:∀c∈([.bX,.b3 ar,.b3 b2,.Z 0,.Z 5,.ad "s"] :List bl),gZ c=ar:=fun c d=>lD.mp (show ([.bX,.b3 ar,.b3 b2,.Z 0,.Z 5,.ad "s"] :List bl).all gZ=ar by kernel_rfl) c d
def ta:EC (vC cq (a+2)) 41 [.cu 0] b 1 fun c=>∃d,BQ d∧c=W.kO d:=FS rfl rfl rfl rfl fun r p q v s t i l h=>by
 refine ec p (f7 (c:=6) (by decide) (by decide)) i l fun j c g k=>?_
 refine bU fun f=>?_
 obtain ⟨u,o,rfl⟩:=k
 obtain ⟨e,m,n⟩:=Hq (a:=[.bX,.b3 ar,.b3 b2,.Z 0,.Z 5,.ad "s"]) o (by decide)
 refine f ?_;try clear f
 apply aj;exact n _
 exact h j _ _ g ⟨⟨.d0,b1,e,.bX⟩,⟨rfl,Sl e m,rfl,rfl⟩,rfl⟩ s9
structure mP(h:Nat)(w:W):Prop where
 cF:w.dh.cF ar=ar
 c0:w.bV.c0≤h
 fS:h-w.bV.c0+w.bV.fS=h+1
 nj:w.bV.b8=b2
 ne:w.bV.dR=b2
 g:w.g=b1
def BQ.fS{i:Nat}{c:W}(g:BQ c):mP i c:=by
 refine bU fun e=>?_
 obtain ⟨k,j,d,l⟩:=c
 obtain ⟨rfl,h,rfl,f⟩:=g
 refine e ?_;try clear e
 exact ⟨by show (gZ d&&ar&&ar)=ar;refine bT (show gZ d=ar from h) ?_;rfl,fy _,rfl,rfl,rfl,f⟩
noncomputable def NQ:List Op:=[.d0,.iQ,.kB,.uQ,.uR,.kq,.g9]
noncomputable def acf:List (Sum Int b4×bl):=[(.inr "getl",.Z 0),(.inr "geti",.ad "@x"),(.inr "getg",.ad "$x")]
def Hs(c:Op):bl:=(fA (.inr c.cT) acf).getD .bX
def Kw{c:bS}{d:List (Sum Int b4×bl)}:jN cq (c++[O (.eg d)]) (.cu c.length) "get"=O .iU:=by
 show (il _ _).elim ((ml _ _).bind _) _=_
 (refine bT (BF (en _ _ _)) ?_;refine bT (qP (en _ _ _)) ?_);rfl
def Pl{c:bS}{d:List (Sum Int b4×bl)}{e:b4}:jk cq (c++[O (.eg d)]) .iU (.cu c.length) [.f (.ad e)] =O (.f ((fA (.inr e) d).getD .bX),c++[O (.eg d)]):=by
 exact congrArg (jG · _) (qP (en _ _ _))
def NR{c:Nat}(d:c<2):sr (.Z c)=ar:=oB (b:=fun c:Nat=>sr (.Z c)=ar) rfl (oB rfl Wg) c d
def Pm{f c:Nat}(d:c<2):mP f ⟨.kB,b1,Hs .kB,.Z c⟩:=by
 have e:Hs .kB=.Z 0:=by kernel_rfl
 refine bT e ?_
 exact ⟨by show (rP 0 (.Z 0)&&sr (.Z c)&&ar)=ar;refine bT (NR d) ?_;rfl,fy _,rfl,rfl,rfl,rfl⟩
def Sm{e:Nat}{c:Op}(d:c∈NQ)(h:(c.cT=="push")=b2)(f:(c.cT=="dup"&&(e:Int)==0)=b2)(g:(c.cT=="getl")=b2):mP e ⟨c,b1,Hs c,.bX⟩∧bl.cQ [.ad c.cT,Hs c,.bX] =W.kO ⟨c,b1,Hs c,.bX⟩:=by
 have h:(c== .d0)=b2:=(gp c .d0).symm.trans h
 have g:(c== .kB)=b2:=(gp c .kB).symm.trans g
 have f:(c== .kq&&(e:Int)==0)=b2:=gp c .kq▸f
 rcases eP.mp d with rfl|d
 ·exact dy h
 rcases eP.mp d with rfl|d
 ·exact ⟨⟨by kernel_rfl,fy _,rfl,rfl,rfl,rfl⟩,rfl⟩
 rcases eP.mp d with rfl|d
 ·exact dy g
 rcases eP.mp d with rfl|d
 ·exact ⟨⟨by kernel_rfl,fy _,rfl,rfl,rfl,rfl⟩,rfl⟩
 rcases eP.mp d with rfl|d
 ·exact ⟨⟨by kernel_rfl,fy _,rfl,rfl,rfl,rfl⟩,rfl⟩
 rcases eP.mp d with rfl|d
 ·match e,f with
  |e+1,_=>exact ⟨⟨by kernel_rfl,iF (fy _),rfl,rfl,rfl,rfl⟩,rfl⟩
 ·refine bT (ib.mp d) ?_
  exact ⟨⟨by kernel_rfl,fy _,rfl,rfl,rfl,rfl⟩,rfl⟩
def lp{h:Nat}:EC (vC cq (a+3)) 42 [.cu 0,.f (.Z h)] b 2 fun g=>∃i,mP h i∧g=W.kO i:=FS rfl rfl rfl rfl fun x r C L F G l w k=>by
 refine ec r (f7 (c:=7) (by decide) (by decide)) (lC l) w fun t g j f=>?_
 refine bU fun d=>?_
 obtain ⟨c,q,rfl⟩:=f
 obtain ⟨I,z,A⟩:=M7 (a:=NQ.map fun e=>.ad e.cT) q (by decide)
 obtain ⟨e,u,rfl⟩:=hJ.mp z
 refine d ?_;try clear d
 apply aj;exact A _
 refine VN (b:=⟨cq,x⟩) (a:=e.cT=="push") (h:=e.cT=="dup"&&(h:Int)==0) (fun K c=>?_) (fun y=>AG (fun K c=>?_) fun y K c=>?_) _ ?_
 ·exact c
 ·exact c
 ·exact c
 refine cD (fun p=>?_) fun p=>?_
 ·refine ec r ta l j fun n g m f=>?_
  refine bU fun d=>?_
  obtain ⟨i,v,rfl⟩:=f
  refine d ?_;try clear d
  exact k n _ _ m ⟨i,v.fS,rfl⟩ s9
 ·apply aj;exact Kw
  apply aj;exact Pl
  refine cD (fun o=>?_) fun o=>?_
  ·refine ec r (f7 (c:=2) (by decide) (by decide)) l j fun n g m f=>?_
   refine bU fun d=>?_
   obtain ⟨c,q,rfl⟩:=f
   obtain rfl:e=.kB:=dr ((gp e .kB).symm.trans o)
   refine d ?_;try clear d
   exact k n _ _ m ⟨⟨.kB,b1,Hs .kB,.Z c⟩,Pm q,rfl⟩ Hp
  ·have s:=Sm (e:=h) u (Ga.mp p).1 (Ga.mp p).2 o
   exact k t _ _ (j.up (fM _)) ⟨_,s.1,s.2⟩ Hp
end
structure vb(hs:List Nat)(p:Nat)(w:W):Prop where
 cF:w.dh.cF ar=ar
 acg:∃h,hs[p]? =O h∧w.bV.c0≤h∧hs[p+1]? =O (h-w.bV.c0+w.bV.fS)∧∀k,w.bV.b8=ar→w.g=O k→hs[p+k]? =O (h-w.bV.c0+w.bV.fS)
structure tc(w:W):Prop where
 cF:w.dh.cF ar=ar
 c0:w.bV.c0=1
 fS:w.bV.fS=0
 nj:w.bV.b8=b2
 ne:w.bV.dR=b2
 g:w.g=b1
noncomputable def xV:List Op:=[.kC,.uS,.uT,.uU]
noncomputable def NS:List (Sum Int b4×bl):=[(.inr "setl",.Z 0),(.inr "seti",.ad "@x"),(.inr "setg",.ad "$x"),(.inr "setc",.ad "C")]
def rV(a:Op):bl:=(fA (.inr a.cT) NS).getD .bX
section
variable{e:Nat}{g:Bool}
def XO{f:bS}{i:List (Sum Int b4×bl)}{h:b4}:jX cq (f++[O (.eg i)]) (.cu f.length) (.f (.ad h))=fA (.inr h) i:=by
 exact congrArg (jG · _) (qP (en _ _ _))
def HY{h:Op}(f:h∈xV):fA (.inr h.cT) NS=O (rV h):=by
 rcases eP.mp f with rfl|f
 ·kernel_rfl
 rcases eP.mp f with rfl|f
 ·kernel_rfl
 rcases eP.mp f with rfl|f
 ·kernel_rfl
 refine bT (ib.mp f) ?_;kernel_rfl
def HZ{f:Nat}(h:f<2):tc ⟨.kC,b1,rV .kC,.Z f⟩:=by
 have i:rV .kC=.Z 0:=by kernel_rfl
 refine bT i ?_
 exact ⟨by show (rP 0 (.Z 0)&&sr (.Z f)&&ar)=ar;refine bT (NR h) ?_;rfl,rfl,rfl,rfl,rfl,rfl⟩
def Kx{f:Op}(h:f∈xV)(i:(f.cT=="setl")=b2):tc ⟨f,b1,rV f,.bX⟩∧bl.cQ [.ad f.cT,rV f,.bX] =W.kO ⟨f,b1,rV f,.bX⟩:=by
 have i:(f== .kC)=b2:=(gp f .kC).symm.trans i
 rcases eP.mp h with rfl|h
 ·exact dy i
 rcases eP.mp h with rfl|h
 ·exact ⟨⟨by kernel_rfl,rfl,rfl,rfl,rfl,rfl⟩,rfl⟩
 rcases eP.mp h with rfl|h
 ·exact ⟨⟨by kernel_rfl,rfl,rfl,rfl,rfl,rfl⟩,rfl⟩
 refine bT (ib.mp h) ?_
 exact ⟨⟨by kernel_rfl,rfl,rfl,rfl,rfl,rfl⟩,rfl⟩
def BR:EC (vC cq (e+2)) 43 [.cu 0] g 2 fun j=>∃s,tc s∧j=W.kO s:=FS rfl rfl rfl rfl fun C t A K F G o v n=>by
 refine ec t (f7 (c:=4) (by decide) (by decide)) (lC o) v fun u j m i=>?_
 refine bU fun f=>?_
 obtain ⟨q,l,rfl⟩:=i
 obtain ⟨I,y,z⟩:=M7 (a:=xV.map fun h=>.ad h.cT) l (by decide)
 obtain ⟨h,p,rfl⟩:=hJ.mp y
 refine f ?_;try clear f
 apply aj;exact z _
 apply aj;exact XO.trans (HY p)
 refine cD (fun k=>?_) fun k=>?_
 ·refine ec t (f7 (c:=2) (by decide) (by decide)) o m fun x j w i=>?_
  refine bU fun f=>?_
  obtain ⟨q,l,rfl⟩:=i
  obtain rfl:h=.kC:=dr ((gp h .kC).symm.trans k)
  refine f ?_;try clear f
  exact n x _ _ w ⟨⟨.kC,b1,rV .kC,.Z q⟩,HZ l,rfl⟩ Hp
 ·have r:=Kx p k
  exact n u _ _ (m.up (fM _)) ⟨_,r.1,r.2⟩ Hp
noncomputable def gV(h:Option Nat):bl:=h.elim .bX fun f=>.Z f
noncomputable def jo(f:Op)(h:Option Nat):W:=⟨f,h,.bX,.bX⟩
def qx(j:Option Nat):EC (vC cq (e+2)) 44 [.cu 0,.f (gV j)] g 1 fun i=>∃h:Op,h.cg=ar∧i=W.kO (jo h j):=FS rfl rfl rfl rfl fun v t u A w x n q m=>by
 refine ec t (f7 (c:=2) (by decide) (by decide)) n q fun o i l p=>?_
 refine bU fun k=>?_
 obtain ⟨y,s,rfl⟩:=p
 obtain ⟨z,f,r⟩:=M7 (a:=[.ad "jumpif",.ad "jumpunless"]) s (by decide)
 refine k ?_;try clear k
 apply aj;exact r _
 refine m o _ _ l ?_ s9
 rcases eP.mp f with rfl|f
 ·exact ⟨.hV,rfl,rfl⟩
 ·refine bT (ib.mp f) ?_;exact ⟨.e5,rfl,rfl⟩
noncomputable def iT(f:Op):W:=⟨f,b1,.bX,.bX⟩
noncomputable def M8:W:=⟨.nv,b1,.ad "t",.bX⟩
noncomputable def FT:W:=⟨.sq,b1,.ad "u",.bX⟩
noncomputable def WA:W:=⟨.j0,b1,.Z 0,.bX⟩
noncomputable def aaz:W:=⟨.gx (),b1,.ad "E",.ad "t"⟩
variable{c:List Nat}{a b:Nat}{d:W}
def mP.eH(i:c[a]? =O b)(j:c[a+1]? =O (b+1))(f:mP b d):vb c a d:=⟨f.cF,b,i,f.c0,f.fS.symm▸j,fun k h=>absurd (f.nj▸h) kx⟩
def tc.eH(i:c[a]? =O (b+1))(j:c[a+1]? =O b)(f:tc d):vb c a d:=⟨f.cF,b+1,i,by refine bT f.c0 ?_;exact iF (fy _),by (refine bT f.c0 ?_;refine bT f.fS ?_);exact j,fun k h=>absurd (f.nj▸h) kx⟩
def rW(f:c[a]? =O (b+1))(i:c[a+1]? =O b):vb c a (iT .gy):=⟨by kernel_rfl,b+1,f,iF (fy _),i,fun j h=>dy h⟩
def Eh(f:c[a]? =O (b+1))(i:c[a+1]? =O b):vb c a (iT .ew):=⟨by kernel_rfl,b+1,f,iF (fy _),i,fun j h=>dy h⟩
def FU(f:c[a]? =O (b+1))(i:c[a+1]? =O (b+2)):vb c a (iT .kq):=⟨by kernel_rfl,b+1,f,iF (fy _),i,fun j h=>dy h⟩
def nA(f:c[a]? =O (b+2))(i:c[a+1]? =O (b+2)):vb c a (iT .dt):=⟨by kernel_rfl,b+2,f,iF (iF (fy _)),i,fun j h=>dy h⟩
def o5{h:Option Nat}(j:c[a]? =O b)(k:c[a+1]? =O b)(i:∀f,h=O f→c[a+f]? =O b):vb c a (jo .cI h):=⟨rfl,b,j,fy _,k,fun f l=>i f⟩
def pA{h:Option Nat}(j:c[a]? =O (b+1))(k:c[a+1]? =O (b+1))(i:∀f,h=O f→c[a+f]? =O (b+1)):vb c a (jo .eL h):=⟨rfl,b+1,j,iF (fy _),k,fun f l=>i f⟩
def rC{h:Op}(j:h.cg=ar){i:Option Nat}(l:c[a]? =O (b+1))(m:c[a+1]? =O b)(k:∀f,i=O f→c[a+f]? =O b):vb c a (jo h i):=by
 induction h<;>first|exact ⟨rfl,b+1,l,iF (fy _),m,fun f n=>k f⟩|exact dy j
def Pn:mP b M8:=⟨by kernel_rfl,fy _,rfl,rfl,rfl,rfl⟩
def Ky:mP b FT:=⟨by kernel_rfl,fy _,rfl,rfl,rfl,rfl⟩
def Sn:mP b WA:=⟨by kernel_rfl,fy _,rfl,rfl,rfl,rfl⟩
end
def uu(a:List Nat):Nat→List W→Prop
 |_,[] =>True
 |b,d::c=>vb a b d∧uu a (b+1) c
def uu.iU{g:List Nat}{c:List W}:∀{e a:Nat}{d:W},uu g e c→c[a]? =O d→vb g (e+a) d:=by
 induction c with
 |nil=>exact fun i b=>cG b
 |cons j k h=>
  intro e a d f b
  induction a with
  |zero=>exact dg b▸f.1
  |succ a=>
   rw [← nH,nS]
   exact h f.2 b
def Ht(b:List W):Prop:=∀(d:Nat)(a:W)(c:Nat),b[d]? =O a→a.bV.b8=ar→a.g=O c→d+c<b.length
structure qS(h:Nat)(l:List W):Prop where
 acI:∃hs:List Nat,hs[0]? =O h∧hs.length=l.length+1∧uu hs 0 l
 cC:l.length≤5
 iz:∃t w,l=t++[w] ∧(w.bV.b8=b2→w.g=b1)∧(w.bV.dR=ar→w.g≠O 1→Ht l)
def pB(a:List W):bl:=.a3 (a.map W.kO)
noncomputable def AV(a:dz):cW:=match a.cN with
 |.cA b=>b
 |_=>.N
section
variable{a:Nat}{b:Bool}
def jr{c e:Nat}(g:c+e≤5000)(d:Nat)(f:d≤e):c+d≤5000:=cr (jq f c) g
def mP.up{d:Nat}{e:W}(c:mP d e):mP (d+1) e:=⟨c.cF,uL c.c0,by (refine bT (Nat.succ_sub c.c0) ?_;rewrite [TL];refine bT c.fS ?_;rfl),c.nj,c.ne,c.g⟩
def H0{c:Nat}:EC (vC cq (a+4)) 45 [.cu 0,.f (.Z c)] b 5 fun h=>∃u,qS c u∧h=pB u:=FS rfl rfl rfl rfl fun F f y I A C j x r=>by
 refine ec f (f7 (c:=3) (by decide) (by decide)) (jr j 1 (by decide)) x fun z h q e=>?_
 refine bU fun d=>?_
 obtain ⟨s,G,rfl⟩:=e
 refine d ?_;try clear d
 refine cD (fun t=>?_) fun t=>?_
 ·refine ec f lp (jr j 3 (by decide)) q fun w h n e=>?_
  refine bU fun d=>?_
  obtain ⟨i,o,rfl⟩:=e
  refine d ?_;try clear d
  refine ec f BR j n fun l h p e=>?_
  refine bU fun d=>?_
  obtain ⟨g,k,rfl⟩:=e
  refine d ?_;try clear d
  exact r l _ _ p ⟨[i,jo .eL (O 3),iT .kq,g,iT .gy],⟨⟨[c,c+1,c+1,c+2,c+1,c],rfl,rfl,o.eH rfl rfl,pA rfl rfl (fun s f=>by obtain rfl:=dg f;rfl),FU rfl rfl,k.eH rfl rfl,rW rfl rfl,trivial⟩,dX 5,⟨[i,jo .eL (O 3),iT .kq,g],iT .gy,rfl,fun v=>rfl,fun m=>dy m⟩⟩,rfl⟩ s9
 refine cD (fun t=>?_) fun t=>?_
 ·refine ec f lp (jr j 3 (by decide)) q fun w h n e=>?_
  refine bU fun d=>?_
  obtain ⟨i,o,rfl⟩:=e
  refine d ?_;try clear d
  refine ec f lp j n fun l h p e=>?_
  refine bU fun d=>?_
  obtain ⟨g,k,rfl⟩:=e
  refine d ?_;try clear d
  exact r l _ _ p ⟨[i,jo .eL (O 3),iT .gy,g,iT .gy],⟨⟨[c,c+1,c+1,c,c+1,c],rfl,rfl,o.eH rfl rfl,pA rfl rfl (fun s f=>by obtain rfl:=dg f;rfl),rW rfl rfl,k.eH rfl rfl,rW rfl rfl,trivial⟩,dX 5,⟨[i,jo .eL (O 3),iT .gy,g],iT .gy,rfl,fun v=>rfl,fun m=>dy m⟩⟩,rfl⟩ s9
 ·refine ec f lp (jr j 3 (by decide)) q fun w h n e=>?_
  refine bU fun d=>?_
  obtain ⟨i,o,rfl⟩:=e
  refine d ?_;try clear d
  refine ec f lp j n fun l h p e=>?_
  refine bU fun d=>?_
  obtain ⟨g,k,rfl⟩:=e
  refine d ?_;try clear d
  exact r l _ _ p ⟨[i,g,jo .eL (O 2),iT .dt,iT .dt],⟨⟨[c,c+1,c+2,c+2,c+2,c+2],rfl,rfl,o.eH rfl rfl,k.up.eH rfl rfl,pA rfl rfl (fun s f=>by obtain rfl:=dg f;rfl),nA rfl rfl,nA rfl rfl,trivial⟩,dX 5,⟨[i,g,jo .eL (O 2),iT .dt],iT .dt,rfl,fun v=>rfl,fun m=>dy m⟩⟩,rfl⟩ s9
end
structure lV(h:Nat)(w:W):Prop where
 g:w.g=b1
 cF:w.dh.cF ar=ar
 c0:w.bV.c0≤h
def LS(g:Nat)(c b:bS)(e:Nat)(a:List bl):Prop:=(∃h,b=c++h)∧(b[e]? =O (O (.a3 a)))∧(a.length≤12)∧(c.length≤e)∧(∀f∈a,∃d,lV g d∧f=W.kO d)
section
variable{f:Nat}{d c:bS}{e:Nat}{b:List bl}(a:LS f d c e b)
include a
def LS.M9:∃g,c=d++g:=a.1
def LS.eH:c[e]? =O (O (.a3 b)):=a.2.1
def LS.cC:b.length≤12:=a.2.2.1
def LS.mC:d.length≤e:=a.2.2.2.1
def LS.all:∀h∈b,∃g,lV f g∧h=W.kO g:=a.2.2.2.2
end
def LS.mN{f:Nat}{d b:bS}{a:List bl}(h:∃c,b=d++c)(i:a.length≤12)(k:∀j∈a,∃e,lV f e∧j=W.kO e):LS f d (b++[O (.a3 a)]) b.length a:=
 let ⟨c,g⟩:=h
 ⟨⟨c++[O (.a3 a)],by (refine bT g ?_;rw [m8])⟩,en _ _ _,i,by (refine bT g ?_;refine bT dZ ?_);exact fg _ _,k⟩
def H1{c:Nat}{d:List bl}{a:W}(g:∀b∈d,∃a,lV c a∧b=W.kO a)(e:lV c a):∀b∈d++[a.kO],∃a,lV c a∧b=W.kO a:=fun b h=>
 (my.mp h).elim (g b) fun f=>⟨a,e,ib.mp f⟩
def So{a d b:bS}{c:Nat}{e:Option dw}(g:d=a++b)(f:a.length≤c):∃b,d.set c e=a++b:=⟨b.set (c-a.length) e,by (refine bT g ?_;refine bT (Cc _ _ f) ?_;rfl)⟩
def LS.d0{d:Nat}{g f:bS}{e:Nat}{b:List bl}{c:W}(a:LS d g f e b)(h:lV d c)(i:b.length≤11):LS d g (f.set e (O (.a3 (b++[c.kO])))) e (b++[c.kO]):=
 let ⟨k,j⟩:=a.M9
 ⟨So j a.mC,Gj (fJ.mp a.eH).1,by refine bT dZ ?_;exact iF i,a.mC,H1 a.all h⟩
def Ei{d:Nat}:∀{b:List W},(∀a∈b,lV d a)→∀c∈b.map W.kO,∃a,lV d a∧c=W.kO a:=fun {b} f c h=>
 let ⟨a,g,e⟩:=hJ.mp h
 ⟨a,f a g,e.symm⟩
def mP.o9{b:Nat}{c:W}(a:mP b c):lV b c:=⟨a.g,a.cF,a.c0⟩
section
variable{b:Nat}{a:Bool}
def VZ{e:dw}{c:bS}{f:Nat}{d:List bl}{g:bl}(i:c[f]? =O (O (.a3 d)))(h:d.length≤100000):jk cq (O e::c) .eJ (.cu (f+1)) [.f g] =O (.f .bX,O e::c.set f (O (.a3 (d++[g])))):=io (a:=O e::c) i h
def aaA{c:bS}{e:Nat}{d f:List bl}(h:c[e]? =O (O (.a3 d)))(g:(d++f).length≤100000):pn c b2 .dc (.cu e) (.f (.a3 f))=O (.cu c.length,c++[O (.a3 (d++f))]):=by
 have i:kI c (.cu e)=O d:=FC h
 show (kI c (.cu e)).bind _=_
 refine bT i ?_
 exact g4 g
def aaB{f:Nat}:EC (vC cq (b+4)) 46 [.cu 0,.f (.Z f)] a 6 fun o=>∃k,lV f k∧o=W.kO k:=FS rfl rfl rfl rfl fun I C F A j K w Y ab=>by
 have R:∀(i:dw)(e:bS)(h:Nat)(g:List bl),GB a (F+5) i→LS f j e h g→g≠ [] →fG ⟨cq,I⟩ (fo 4 (AV po)) [O (.cu 0),O (.f (.Z f)),O (.cu (h+1))] (O i::e) (lG b2 (O A::j).length K):=fun i e h g m d v=>by
  apply aj;exact uo (a:=O i::e) (c:=h+1) d.eH (cr d.cC (by decide))
  refine ec C (f7 (Cg.mpr v) (kT d.cC (by decide))) w m fun r o u q=>?_
  refine bU fun l=>?_
  obtain ⟨s,aa,rfl⟩:=q
  refine l ?_;try clear l
  apply aj;exact zD (a:=O r::e) (d:=h+1) d.eH (gS aa) (cr d.cC (by decide))
  obtain ⟨ai,ac⟩:=d.M9
  refine ab r _ _ u (d.all _ (vR aa)) ?_
  refine bT ac ?_;exact Hp
 have T:∀(i:dw)(e:bS)(h:Nat)(g:List bl),GB a (F+3) i→LS f j e h g→g.length≤6→(g=[] →f<3)→fG ⟨cq,I⟩ (fo 3 (AV po)) [O (.cu 0),O (.f (.Z f)),O (.cu (h+1))] (O i::e) (lG b2 (O A::j).length K):=fun i e h g m d ag v=>by
  refine cD (fun p=>?_) fun p=>?_
  ·refine ec C lp (jr w 5 (by decide)) m fun r o u q=>?_
   refine bU fun l=>?_
   obtain ⟨k,s,rfl⟩:=q
   refine l ?_;try clear l
   have x:(g++[k,M8,FT,WA,jo .cI b1].map W.kO).length≤11:=by refine bT dZ ?_;exact m7 ag 5
   have P:∀z∈g++[k,M8,FT,WA,jo .cI b1].map W.kO,∃k,lV f k∧z=W.kO k:=fun z Q=>(my.mp Q).elim (d.all z) fun Q=>Ei (fun o c=>by
    rcases eP.mp c with rfl|c
    ·exact s.o9
    rcases eP.mp c with rfl|c
    ·exact (Pn (b:=f)).o9
    rcases eP.mp c with rfl|c
    ·exact (Ky (b:=f)).o9
    rcases eP.mp c with rfl|c
    ·exact (Sn (b:=f)).o9
    refine bT (ib.mp c) ?_
    exact ⟨rfl,rfl,fy _⟩) z Q
   apply aj;exact aaA (c:=O r::e) (e:=h+1) d.eH (cr x (by decide))
   have G:=LS.mN d.M9 (cr x (by decide)) P
   apply aj;exact dK (a:=O r::(e++[_])) (b:=e.length+1) G.eH
   apply aj;exact VZ G.eH (cr x (by decide))
   refine R _ _ _ _ u (G.d0 (c:=aaz) ⟨rfl,by kernel_rfl,fy _⟩ x) (by (rewrite [← Cg];refine bT dZ ?_);exact nI _)
  ·refine R _ _ _ _ (m.up (by lia)) d (fun n=>of_decide_eq_false p (kY.mpr (v n)))
 have X:∀(i:dw)(e:bS)(h:Nat)(g:List bl),GB a (F+3) i→LS f j e h g→g.length≤5→(g=[] →f<3)→fG ⟨cq,I⟩ (fo 2 (AV po)) [O (.cu 0),O (.f (.Z f)),O (.cu (h+1))] (O i::e) (lG b2 (O A::j).length K):=fun i e h g m d y v=>by
  refine cD (fun p=>?_) fun p=>?_
  ·apply aj;exact dK (a:=O i::e) (b:=h+1) d.eH
   apply aj;exact VZ d.eH (cr y (by decide))
   refine T _ _ _ _ m (d.d0 (c:=iT .dt) ⟨rfl,by kernel_rfl,kY.mp (of_decide_eq_true p)⟩ (cr y (by decide))) (by refine bT dZ ?_;exact iF y) (fun n=>?_)
   exact absurd (congrArg qE n) (by refine bT dZ ?_;exact TF _)
  ·exact T _ _ _ _ m d (uL y) v
 have af:LS f j (j++[O (.a3 [])]) j.length [] :=LS.mN ⟨[],(kX j).symm⟩ (fy _) fun ae n=>absurd n gD
 apply aj;exact g4 (a:=O A::j) (by decide)
 refine cD (fun p=>?_) fun p=>?_
 ·refine ec C BR (jr w 2 (by decide)) Y fun i o m q=>?_
  refine bU fun l=>?_
  obtain ⟨k,s,rfl⟩:=q
  refine l ?_;try clear l
  refine ec C (qx b1) (jr w 3 (by decide)) m fun r o u q=>?_
  refine bU fun l=>?_
  obtain ⟨L,ah,rfl⟩:=q
  refine l ?_;try clear l
  have t:1≤f:=kY.mp (of_decide_eq_true p)
  have P:∀o∈ [iT .gy,k,jo L b1,jo .eL b1,iT .ew],lV f o:=fun o c=>by
   rcases eP.mp c with rfl|c
   ·exact ⟨rfl,by kernel_rfl,t⟩
   rcases eP.mp c with rfl|c
   ·exact ⟨s.g,s.cF,s.c0.symm▸t⟩
   rcases eP.mp c with rfl|c
   ·induction L<;>first|exact ⟨rfl,rfl,t⟩|exact dy ah
   rcases eP.mp c with rfl|c
   ·exact ⟨rfl,rfl,t⟩
   refine bT (ib.mp c) ?_
   exact ⟨rfl,by kernel_rfl,t⟩
  apply aj;exact g4 (a:=O r::(j++[O (.a3 [])])) (b:=[iT .gy,k,jo L b1,jo .eL b1,iT .ew].map W.kO) (er rfl)
  exact X _ _ _ _ u (LS.mN ⟨_,rfl⟩ (er rfl) (Ei P)) (er rfl) fun n=>nomatch n
 ·exact X _ _ _ _ (Y.up (fg _ _)) af (fy _) fun ae=>LR fun n=>of_decide_eq_false p (kY.mpr (hH (by decide) n))
end
def Hu(b:Nat):Nat→List W→Prop
 |_,[] =>True
 |c,d::e=>(∀a,d.g=O a→c+a<b)∧Hu b (c+1) e
def Hu.iU{h:Nat}{e:List W}:∀{c a b:Nat}{f:W},Hu h c e→e[a]? =O f→f.g=O b→c+a+b<h:=by
 induction e with
 |nil=>exact fun k d=>cG d
 |cons l m j=>
  intro c a b f i d g
  induction a with
  |zero=>exact i.1 b ((congrArg W.g (dg d)).trans g)
  |succ a=>
   (rewrite [← nH];refine bT (nS c a 1) ?_)
   exact j i.2 d g
def Ht.eI{a:List W}(c:Hu a.length 0 a):Ht a:=fun e h f d g b=>kU e▸c.iU d b
def nq{c:W}{d:Nat→Prop}(e:c.g=b1):∀b,c.g=O b→d b:=fun b a=>absurd (e.symm.trans a) (fun a=>cG a)
def qS.C0{d:Nat}{a e:List W}{b:W}(c:List Nat)(j:c[0]? =O d)(f:c.length=a.length+1)(k:uu c 0 a)(i:a.length≤5)(h:a=e++[b])(l:b.bV.dR=ar→b.g≠O 1→Ht a)(g:b.bV.b8=b2→b.g=b1):qS d a:=⟨⟨c,j,f,k⟩,i,e,b,h,g,l⟩
def Sp{a:Op}(b:a.cg=ar):a.b8=ar:=by induction a<;>first|rfl|exact dy b
section
variable{b:Nat}{c:Bool}{a:Nat}
def lV.aaC{e:W}(d:lV a e):qS a [e] :=.C0 (e:=[]) (b:=e) [a,a-e.bV.c0+e.bV.fS] rfl rfl ⟨⟨d.cF,a,rfl,d.c0,rfl,fun f f g=>nq (d:=fun d=>_) d.g _ g⟩,trivial⟩ (er rfl) rfl (fun f f=>.eI ⟨nq d.g,trivial⟩) fun f=>d.g
def I9{L:Nat}:EC (vC cq (b+5)) 47 [.cu 0,.f (.Z a),.f (.Z L)] c 6 fun k=>∃K,qS a K∧k=pB K:=FS rfl rfl rfl rfl fun T f P W Q R t q o=>by
 have w:=jr t 2 (by decide)
 have z:=jr t 4 (by decide)
 refine cD (fun l=>?_) fun l=>?_
 ·refine ec f lp w q fun n k j e=>?_
  refine bU fun d=>?_
  obtain ⟨g,i,rfl⟩:=e
  refine d ?_;try clear d
  refine ec f lp z j fun v k s e=>?_
  refine bU fun d=>?_
  obtain ⟨p,x,rfl⟩:=e
  refine d ?_;try clear d
  exact o v _ _ (s.up (fg _ 2)) ⟨[g,p,iT .gy,iT .gy],.C0 (e:=[g,p,iT .gy]) (b:=iT .gy) [a,a+1,a+2,a+1,a] rfl rfl ⟨i.eH rfl rfl,x.up.eH rfl rfl,rW rfl rfl,rW rfl rfl,trivial⟩ (er rfl) rfl (fun h=>dy h) fun m=>rfl,rfl⟩ s9
 refine cD (fun l=>?_) fun l=>?_
 ·refine ec f lp w q fun n k j e=>?_
  refine bU fun d=>?_
  obtain ⟨g,i,rfl⟩:=e
  refine d ?_;try clear d
  refine ec f (qx (O 2)) (jr t 3 (by decide)) j fun v k s e=>?_
  refine bU fun d=>?_
  obtain ⟨u,y,rfl⟩:=e
  refine d ?_;try clear d
  exact o v _ _ (s.up (fg _ 3)) ⟨[g,jo u (O 2),jo .cI b1,jo .cI b1],.C0 (e:=[g,jo u (O 2),jo .cI b1]) (b:=jo .cI b1) [a,a+1,a,a,a] rfl rfl ⟨i.eH rfl rfl,rC y rfl rfl (fun r f=>by obtain rfl:=dg f;rfl),o5 rfl rfl (nq (c:=jo .cI b1) rfl),o5 rfl rfl (nq (c:=jo .cI b1) rfl),trivial⟩ (er rfl) rfl (fun m m=>.eI ⟨nq i.g,(fun r f=>by obtain rfl:=dg f;exact er rfl),nq rfl,nq rfl,trivial⟩) fun m=>rfl,rfl⟩ s9
 refine cD (fun l=>?_) fun l=>?_
 ·refine ec f lp w q fun n k j e=>?_
  refine bU fun d=>?_
  obtain ⟨g,i,rfl⟩:=e
  refine d ?_;try clear d
  refine ec f lp z j fun v k s e=>?_
  refine bU fun d=>?_
  obtain ⟨p,x,rfl⟩:=e
  refine d ?_;try clear d
  refine ec f (f7 (c:=2) (by decide) (by decide)) (jr t 5 (by decide)) s fun C k A e=>?_
  refine bU fun d=>?_
  obtain ⟨r,I,rfl⟩:=e
  refine d ?_;try clear d
  rcases r with _|_|r
  ·exact o C _ _ (A.up (fM _)) ⟨[g,p,iT .dt,iT .dt],.C0 (e:=[g,p,iT .dt]) (b:=iT .dt) [a,a+1,a+2,a+2,a+2] rfl rfl ⟨i.eH rfl rfl,x.up.eH rfl rfl,nA rfl rfl,nA rfl rfl,trivial⟩ (er rfl) rfl (fun h=>dy h) fun m=>rfl,rfl⟩ s9
  ·exact o C _ _ (A.up (fM _)) ⟨[g,p,iT .dt,iT .dt,iT .dt],.C0 (e:=[g,p,iT .dt,iT .dt]) (b:=iT .dt) [a,a+1,a+2,a+2,a+2,a+2] rfl rfl ⟨i.eH rfl rfl,x.up.eH rfl rfl,nA rfl rfl,nA rfl rfl,nA rfl rfl,trivial⟩ (er rfl) rfl (fun h=>dy h) fun m=>rfl,rfl⟩ s9
  ·exact absurd I (jI.mpr (B8 ..))
 refine cD (fun l=>?_) fun l=>?_
 ·refine ec f lp w q fun n k j e=>?_
  refine bU fun d=>?_
  obtain ⟨g,i,rfl⟩:=e
  refine d ?_;try clear d
  exact o n _ _ (j.up (fg _ 4)) ⟨[g,iT .kq,iT .dt],.C0 (e:=[g,iT .kq]) (b:=iT .dt) [a,a+1,a+2,a+2] rfl rfl ⟨i.eH rfl rfl,FU rfl rfl,nA rfl rfl,trivial⟩ (er rfl) rfl (fun h=>dy h) fun m=>rfl,rfl⟩ s9
 refine cD (fun l=>?_) fun l=>?_
 ·refine ec f lp w q fun n k j e=>?_
  refine bU fun d=>?_
  obtain ⟨g,i,rfl⟩:=e
  refine d ?_;try clear d
  refine ec f BR z j fun v k s e=>?_
  refine bU fun d=>?_
  obtain ⟨p,x,rfl⟩:=e
  refine d ?_;try clear d
  exact o v _ _ (s.up (fg _ 2)) ⟨[g,iT .kq,p,iT .gy],.C0 (e:=[g,iT .kq,p]) (b:=iT .gy) [a,a+1,a+2,a+1,a] rfl rfl ⟨i.eH rfl rfl,FU rfl rfl,x.eH rfl rfl,rW rfl rfl,trivial⟩ (er rfl) rfl (fun h=>dy h) fun m=>rfl,rfl⟩ s9
 refine cD (fun l=>?_) fun l=>?_
 ·refine ec f H0 (jr t 5 (by decide)) q fun n k j e=>?_
  exact o n _ _ (j.up (fM _)) e s9
 refine cD (fun l=>?_) fun l=>?_
 ·refine ec f ta (jr t 1 (by decide)) q fun n k j e=>?_
  refine bU fun d=>?_
  obtain ⟨g,i,rfl⟩:=e
  refine d ?_;try clear d
  refine ec f (qx b1) w j fun v k s e=>?_
  refine bU fun d=>?_
  obtain ⟨u,y,rfl⟩:=e
  refine d ?_;try clear d
  exact o v _ _ (s.up (fg _ 4)) ⟨[g,jo u b1],.C0 (e:=[g]) (b:=jo u b1) [a,a+1,a] rfl rfl ⟨i.fS.eH rfl rfl,rC y rfl rfl (nq (c:=jo u b1) rfl),trivial⟩ (er rfl) rfl (fun m m=>.eI ⟨nq i.g,nq rfl,trivial⟩) fun m=>rfl,rfl⟩ s9
 refine cD (fun l=>?_) fun l=>?_
 ·refine ec f ta (jr t 1 (by decide)) q fun n k j e=>?_
  refine bU fun d=>?_
  obtain ⟨g,i,rfl⟩:=e
  refine d ?_;try clear d
  exact o n _ _ (j.up (fg _ 5)) ⟨[g,jo .cI b1],.C0 (e:=[g]) (b:=jo .cI b1) [a,a+1,a+1] rfl rfl ⟨i.fS.eH rfl rfl,o5 rfl rfl (nq (c:=jo .cI b1) rfl),trivial⟩ (er rfl) rfl (fun m m=>.eI ⟨nq i.g,nq rfl,trivial⟩) fun m=>rfl,rfl⟩ s9
 refine cD (fun l=>?_) fun l=>?_
 ·refine ec f lp w q fun n k j e=>?_
  refine bU fun d=>?_
  obtain ⟨g,i,rfl⟩:=e
  refine d ?_;try clear d
  refine ec f (qx (O 1)) (jr t 3 (by decide)) j fun v k s e=>?_
  refine bU fun d=>?_
  obtain ⟨u,y,rfl⟩:=e
  refine d ?_;try clear d
  refine ec f ta z s fun C k A e=>?_
  refine bU fun d=>?_
  obtain ⟨p,x,rfl⟩:=e
  refine d ?_;try clear d
  refine ec f (f7 (c:=3) (by decide) (by decide)) (jr t 5 (by decide)) A fun F k G e=>?_
  refine bU fun d=>?_
  obtain ⟨r,I,rfl⟩:=e
  refine d ?_;try clear d
  rcases r with _|_|_|r
  ·exact o F _ _ (G.up (fM _)) ⟨[jo .cI (O 1)],.C0 (e:=[]) (b:=jo .cI (O 1)) [a,a] rfl rfl ⟨o5 rfl rfl (fun r f=>by obtain rfl:=dg f;rfl),trivial⟩ (er rfl) rfl (fun m h=>absurd rfl h) (fun h=>dy h),rfl⟩ s9
  ·exact o F _ _ (G.up (fM _)) ⟨[g,jo u (O 1)],.C0 (e:=[g]) (b:=jo u (O 1)) [a,a+1,a] rfl rfl ⟨i.eH rfl rfl,rC y rfl rfl (fun r f=>by obtain rfl:=dg f;rfl),trivial⟩ (er rfl) rfl (fun m h=>absurd rfl h) (fun h=>absurd ((Sp y).symm.trans h) (fun h=>dy h)),rfl⟩ s9
  ·exact o F _ _ (G.up (fM _)) ⟨[p,jo .eL (O 1)],.C0 (e:=[p]) (b:=jo .eL (O 1)) [a,a+1,a+1] rfl rfl ⟨x.fS.eH rfl rfl,pA rfl rfl (fun r f=>by obtain rfl:=dg f;rfl),trivial⟩ (er rfl) rfl (fun m h=>absurd rfl h) (fun h=>dy h),rfl⟩ s9
  ·exact absurd I (jI.mpr (B8 ..))
 refine cD (fun l=>?_) fun l=>?_
 ·refine ec f lp w q fun n k j e=>?_
  refine bU fun d=>?_
  obtain ⟨g,i,rfl⟩:=e
  refine d ?_;try clear d
  exact o n _ _ (j.up (fg _ 4)) ⟨[jo .cI (O 3),g,iT .gy],.C0 (e:=[jo .cI (O 3),g]) (b:=iT .gy) [a,a,a+1,a] rfl rfl ⟨o5 rfl rfl (fun r f=>by obtain rfl:=dg f;rfl),i.eH rfl rfl,rW rfl rfl,trivial⟩ (er rfl) rfl (fun h=>dy h) fun m=>rfl,rfl⟩ s9
 ·refine ec f aaB t q fun n k j e=>?_
  refine bU fun d=>?_
  obtain ⟨g,i,rfl⟩:=e
  refine d ?_;try clear d
  exact o n _ _ j ⟨[g],i.aaC,rfl⟩ s9
end
def Ej(a:Op):Int:=(a.fS:Int)-a.c0
noncomputable def WB:Op→Bool
 |.gy|.ew=>ar
 |_=>b2
noncomputable def isZ:Op→Bool
 |.dt|.cI|.eL|.gx _=>ar
 |_=>b2
def ach:(fu.all fun a=>eA (ic (.ad a.cT) [.ad "pop",.ad "leave"]) (WB a))=ar:=by kernel_rfl
def z_b:(fu.all fun a=>eA (ic (.ad a.cT) [.ad "swap",.ad "jump",.ad "jumpnil",.ad "fail"]) (isZ a))=ar:=by kernel_rfl
def XQ(a:Op):(cond (WB a||a.fQ||a.cg) (Ej a== -1) (Ej a==cond (isZ a) 0 1))=ar:=jf (b:=fun a=>cond (WB a||a.fQ||a.cg) (Ej a== -1) (Ej a==cond (isZ a) 0 1)) (by kernel_rfl) a
def Sq{a:Op}{b:Nat}(c:a.c0≤b):(b:Int)+Ej a=((b-a.c0+a.fS:Nat):Int):=by
 (rewrite [UG];refine bT (Int.natCast_sub c) ?_)
 unfold Ej
 (refine bT MB ?_;refine bT MB ?_;rw [UJ,Int.add_comm (a.fS:Int)])
def PH(b:bS)(c:dw)(d:List W)(a:List Nat):bS:=O c::(b++[O (.a3 (d.map W.kO)),O (.a3 (cU a))])
section
variable{a:Nat}
def Po(b:Op):PC (vC cq (a+1)) 48 [.f (.ad b.cT)] (.Z (Ej b)):=pf rfl rfl rfl rfl fun l k j f d=>by
 have c:=XQ b
 apply aj;exact ol ach b
 refine cD (fun e=>?_) fun e=>?_
 ·rw [e] at c
  rw [dr (show (Ej b== -1)=ar from c)] at d
  refine gL e ?_
  exact c8 (b:=f) d eO
 apply aj;exact ol xO b
 refine cD (fun g=>?_) fun g=>?_
 ·rw [e,g] at c
  rw [dr (show (Ej b== -1)=ar from c)] at d
  refine gL g ?_
  exact c8 (b:=f) d eO
 apply aj;exact gU b
 refine cD (fun h=>?_) fun h=>?_
 ·rw [e,g,h] at c
  rw [dr (show (Ej b== -1)=ar from c)] at d
  exact c8 (b:=f) d eO
 rw [e,g,h] at c
 apply aj;exact ol z_b b
 refine cD (fun i=>?_) fun i=>?_
 ·rw [i] at c
  rw [dr (show (Ej b==0)=ar from c)] at d
  exact c8 (b:=f) d eO
 ·rw [i] at c
  rw [dr (show (Ej b==1)=ar from c)] at d
  exact c8 (b:=f) d eO
def PH.cC{b:bS}{c:dw}{d g:List W}{e f:List Nat}:(PH b c d e).take (PH b c g f).length=PH b c d e:=Cb (by unfold PH;(refine bT lZ ?_;refine bT lZ ?_;refine bT dZ ?_;refine bT dZ ?_);exact dX _)
def XR{b:bS}{d:dw}{e:List W}{c:List Nat}:jN cq (PH b d e c) (.cu (b.length+1)) "append"=O .eJ:=dK (a:=PH b d e c) (b:=b.length+1) (en b _ _)
def XS{b:bS}{d:dw}{e:List W}{c:List Nat}:jN cq (PH b d e c) (.cu (b.length+2)) "append"=O .eJ:=dK (a:=PH b d e c) (b:=b.length+2) (kM b _ _ _)
def aaD{b:bS}{e:dw}{c:List W}{d:List Nat}{f:W}(g:c.length≤500):jk cq (PH b e c d) .eJ (.cu (b.length+1)) [.f f.kO] =O (.f .bX,PH b e (c++[f]) d):=by
 refine (io (a:=PH b e c d) (b:=b.length+1) (en b _ _) (by rw [et];exact cr g (by decide))).trans ?_
 unfold PH
 (refine bT za ?_;rewrite [kk];refine bT r8 ?_);rfl
def aaE{b:bS}{e:dw}{d:List W}{c:List Nat}{f:Nat}(g:c.length≤500):jk cq (PH b e d c) .eJ (.cu (b.length+2)) [.f (.Z f)] =O (.f .bX,PH b e d (c++[f])):=by
 refine (io (a:=PH b e d c) (b:=b.length+2) (kM b _ _ _) (by unfold cU;rw [et];exact cr g (by decide))).trans ?_
 unfold PH
 (refine bT za ?_;rw [zC,py])
def FV{e:bS}{h:dw}{g b:List W}{f c:List Nat}{l k:Nat}(t:uu c 0 b)(G:c[0]? =O l)(z:c[b.length]? =O k)(A:g.length≤20)(C:f.length≤20)(n:b.length≤5):
  RC (vC cq (a+2)) 49 [.cu (e.length+1),.cu (e.length+2),.f (pB b),.f (.Z l)] (.Z k) (PH e h g f) (PH e h (g++b) (f++c.take b.length)):=rf rfl rfl rfl rfl fun T R I w=>by
 apply aj;exact ef (cr n (by decide))
 have u:c.getD 0 0=l:=by (rewrite [Ca];refine bT G ?_);rfl
 have y:c.getD b.length 0=k:=by (rewrite [Ca];refine bT z ?_);rfl
 subst u
 have K:PH e h g f=PH e h (g++b.take 0) (f++c.take 0):=by (refine bT Mf ?_;refine bT Mf ?_;rw [kX,kX])
 refine bT K ?_
 refine qe (fun d=>PH e h (g++b.take d) (f++c.take d)) (fun d (m:Option bZ)=>[O (.cu (e.length+1)),O (.cu (e.length+2)),O (.f (pB b)),O (.f (.Z (c.getD d 0:Nat))),m]) (a:=b1) (fun d j m X p i=>?_) fun m=>?_
 ·refine bU fun s=>?_
  obtain ⟨_,r,o,P,q,_⟩:=t.iU p
  refine s ?_;try clear s
  rw [kU] at o q
  have L:c.getD d 0=r:=by (rewrite [Ca];refine bT o ?_);rfl
  have Q:c.getD (d+1) 0=r-j.bV.c0+j.bV.fS:=by (rewrite [Ca];refine bT q ?_);rfl
  have i:=i (O (.f j.kO))
  rw [Q,qC,p,qC,o,← m8,← m8,← Sq P] at i
  have F:(g++b.take d).length≤25:=by
   refine bT dZ ?_
   exact pH A (cr (yB _ _) n)
  have x:d<b.length:=(fJ.mp p).1
  have v:(f++c.take d).length≤25:=by
   refine bT dZ ?_
   exact pH C (cr (Ch _ _) (cr (iG x) n))
  refine bT L ?_
  apply aj;exact XR
  apply aj;exact aaD (cr F (by decide))
  apply aj;exact XS
  apply aj;exact aaE (cr v (by decide))
  refine pc R (Po j.bV) ?_
  exact i
 ·(refine bT eO ?_;refine bT y ?_)
  exact c8 (b:=I) w PH.cC
end
structure Zb(XT hs:List Nat)(p:Nat)(w:W):Prop where
 cF:w.dh.cF ar=ar
 acg:∃h,XT[p]? =O h∧w.bV.c0≤h∧(w.bV.dR=b2→hs[p+1]? =O (h-w.bV.c0+w.bV.fS))∧∀k,w.bV.b8=ar→w.g=O k→hs[p+k]? =O (h-w.bV.c0+w.bV.fS)
def hY(c:List W)(a:List Nat)(d:Nat):Prop:=(a.length=c.length)∧((a++[d])[0]? =O 0)∧(∀(e:Nat)(b:W),c[e]? =O b→Zb a (a++[d]) e b)
section
variable{c:List W}{a:List Nat}{d:Nat}(b:hY c a d)
include b
def hY.cC:a.length=c.length:=b.1
def hY.d1:(a++[d])[0]? =O 0:=b.2.1
def hY.dh:∀(f:Nat)(e:W),c[f]? =O e→Zb a (a++[d]) f e:=b.2.2
end
def hY.N:hY [] [] 0:=⟨rfl,rfl,fun b b a=>cG a⟩
def Pp{a:List Nat}{b c:Nat}(d:a.length=b+1)(e:a[b]? =O c):a.take b++[c] =a:=by
 have:=qC (l:=a) (i:=b)
 rw [e,Cb (jH d)] at this
 exact this.symm
def hY.d6{p i:List W}{d f:List Nat}{c s:Nat}(h:hY p d c)(z:f[0]? =O c)(y:f.length=i.length+1)(F:f[i.length]? =O s)(K:uu f 0 i):hY (p++i) (d++f.take i.length) s:=by
 have x:(d++f.take i.length)++[s] =d++f:=by (rewrite [m8];refine bT (Pp y F) ?_;rfl)
 refine bU fun j=>?_
 obtain ⟨b,rfl⟩:∃b,f=c::b:=by
  induction f with
  |nil=>exact cG z
  |cons a b _=>exact ⟨b,by (refine bT (dg z) ?_;rfl)⟩
 refine j ?_;try clear j
 have C:d++c::b=(d++[c])++b:=by rw [m8];rfl
 have t:∀{w a:Nat},(d++[c])[w]? =O a→(d++c::b)[w]? =O a:=fun {w a} e=>by
  (refine bT C ?_;rw [ph (fJ.mp e).1]);exact e
 have L:((c::b).take i.length).length=i.length:=by (refine bT zd ?_;refine bT y ?_);exact y6 (fM _)
 refine ⟨by (refine bT dZ ?_;refine bT dZ ?_;refine bT h.cC ?_;refine bT L ?_;rfl),x▸t h.d1,fun o I m=>?_⟩
 refine bT x ?_
 by_cases g:o<p.length
 ·rw [ph g] at m
  refine bU fun j=>?_
  obtain ⟨q,u,a,r,n,e⟩:=h.dh o I m
  refine j ?_;try clear j
  exact ⟨q,u,by rw [ph (h.cC.symm▸g)];exact a,r,fun l=>t (n l),fun k v l=>t (e k v l)⟩
 ·have g:=ra g
  rw [la g] at m
  refine bU fun j=>?_
  obtain ⟨q,u,a,r,n,e⟩:=K.iU m
  refine j ?_;try clear j
  rw [kU] at a n e
  have G:=(fJ.mp m).1
  have A:∀{k a:Nat},(c::b)[o-p.length+k]? =O a→(d++c::b)[o+k]? =O a:=fun {k a} e=>by
   rw [la (by refine bT h.cC ?_;exact cr g (fg _ _)),h.cC,LU g];exact e
  refine ⟨q,u,?_,r,fun P=>A n,fun k v l=>A (e k v l)⟩
  rw [la (by refine bT h.cC ?_;exact g),h.cC,Gi G]
  exact a
def AW(c:List W):Prop:=∀(d:Nat)(a:W)(b:Nat),c[d]? =O a→a.bV.b8=ar→a.g=O b→d+b<c.length
def hY.Zc{d c:List W}{o:List Nat}{m:Nat}(h:hY d o m)(l:c≠ [])(n:Ht c):AW (d++c):=fun j g e b i f=>by
 refine bT dZ ?_
 by_cases a:j<d.length
 ·rw [ph a] at b
  obtain ⟨_,p,_,_,_,k⟩:=h.dh j g b
  have:=(fJ.mp (k e i f)).1
  rw [dZ,h.cC] at this
  exact hH this (jq (Cg.mpr l) _)
 ·have a:=ra a
  rw [la a] at b
  have:=n _ g e b i f
  rw [← LU a] at this
  exact (Tv (cr a (fg _ _))).mp this
def hY.Sr{b:List W}{f:List Nat}{n:Nat}(g:hY b f n)(x:AW b){v:List W}{q:W}(j:b=v++[q])(A:q.bV.dR=ar)(o:Nat):hY b f o:=by
 have i:∀{h d:Nat},h<b.length→(f++[n])[h]? =O d→(f++[o])[h]? =O d:=fun {h d} C a=>by
  rw [ph (g.cC.symm▸C)] at a⊢;exact a
 have w:0<b.length:=by (refine bT j ?_;refine bT dZ ?_);exact nI _
 refine ⟨g.cC,i w g.d1,fun k m e=>?_⟩
 refine bU fun r=>?_
 obtain ⟨t,y,d,z,u,a⟩:=g.dh k m e
 refine r ?_;try clear r
 refine ⟨t,y,d,z,fun c=>i ?_ (u c),fun l p c=>i (x k m l e p c) (a l p c)⟩
 have s:=(fJ.mp e).1
 refine y5 s fun a=>?_
 rw [j,dZ,uM] at a
 have a:=mB a
 rw [j,a,la (dX _),pg] at e
 rw [← dg e,A] at c
 exact dy c
def AX{l:cV→bS→KS→Prop}{n:List Nat}{p:Bool}{K:KS}(g:Nat→cV→bS→Prop):∀{e:List bl}{c:Nat},
  (∀(f:Nat)(d:bl)(b:cV)(a:bS)(h:cV→bS→Prop),d∈e→f<c+e.length→g f b a→(∀i m,g (f+1) i m→h i m)→jP b n p d fun i=>l i a (jQ h K))→
  ∀{b:cV}{a:bS},g c b a→(∀b a,g (c+e.length) b a→K .cc b a)→jZ l n p K e b a:=by
 intro e
 induction e with
 |nil=>
  intro _ _ _ _ j k
  exact k _ _ j
 |cons d w q=>
  intro c o _ _ j k
  exact o c d _ _ _ fD (B7 (nI _)) j fun t t u=>q (c:=c+1) (fun f d b a h r v=>o f d b a h (ia _ r) (by (refine bT lZ ?_;rw [← nH,nS]);exact v)) u fun b a s=>k b a (by (refine bT lZ ?_;rw [← nH,nS]);exact s)
section
variable{b:Nat}{c:Bool}{a:bS}
def Ek{d:List W}{e:W}(h:(d++[e]).length≤1000):jX cq a (.f (pB (d++[e]))) (.f (.Z (-1)))=O e.kO:=by
 have f:(pB (d++[e]))=.a3 (d.map W.kO++[e.kO]):=by unfold pB;refine bT r8 ?_;rfl
 have g:g8 (-1) (d.map W.kO++[e.kO]).length=O d.length:=by
  unfold g8
  rw [if_neg (by decide),dZ,et,if_pos ⟨by refine bT uM ?_;lia,by decide⟩]
  congr 1
  refine bT uM ?_;lia
 refine bT f ?_
 show (g8 (-1) (d.map W.kO++[e.kO]).length).bind _=_
 refine bT g ?_
 show (d.map W.kO++[e.kO])[d.length]? =_
 rw [la (by rw [et];exact dX _),et,pg];rfl
def Ss{f:W}(h:f.bV.b8=b2→f.g=b1)(i:f.dh.cF ar=ar)(o:f.bV.dR=ar):∃l,(l=ar→f.g≠O 1)∧∀a:bS,fh cq a .ne (.f f.Hr) (.f (.Z 1))=O l:=by
 refine bU fun d=>?_
 obtain ⟨n,m,k,r⟩:=f
 refine d ?_;try clear d
 induction n<;>try cases o
 ·match m with
  |none=>exact ⟨ar,(fun j e=>cG e),fun a=>by kernel_rfl⟩
  |some p=>
   refine ⟨!((p:Int)==1),fun e q=>?_,fun a=>rfl⟩
   obtain rfl:=dg q
   exact dy e
 ·refine bU fun d=>?_
  obtain ⟨g,_⟩:=iX.mp i
  obtain ⟨g,_⟩:=iX.mp g
  obtain rfl:k=.bX:=iA g
  refine d ?_;try clear d
  exact ⟨ar,(fun j e=>nomatch (h rfl).symm.trans e),fun a=>by kernel_rfl⟩
 ·refine bU fun d=>?_
  obtain ⟨g,_⟩:=iX.mp i
  obtain ⟨g,_⟩:=iX.mp g
  obtain rfl:k=.ad "E":=j1 g
  refine d ?_;try clear d
  exact ⟨ar,(fun j e=>nomatch (h rfl).symm.trans e),fun a=>by kernel_rfl⟩
end
noncomputable def Kz(d:Nat)(e:Option bZ)(a c:Nat)(f b:Option bZ):cV:=[O (.cu 0),O (.f (.Z d)),e,b1,b1,O (.cu (a+1)),O (.cu (a+2)),O (.f (.Z c)),f,b]
def PI(k:Bool)(b:bS)(c i:Nat)(j:Nat)(h:cV)(l:bS):Prop:=∃(f:dw)(a:List W)(e:List Nat)(d:Nat)(m n g:Option bZ),h=Kz c m b.length d n g∧l=PH b f a e∧GB k (i+9*j) f∧hY a e d∧a.length+2≤c
section
variable{m:Nat}{h:Bool}{b:bS}{a:dw}{c:List W}{g:List Nat}{e d i:Nat}{o n l:Option bZ}{k:cK}{j:cV→bS→Prop}{K:KS}
def El(ae:k=vC cq (m+5)){u:Nat}(an:d+9*(u+1)≤5000)(C:GB h (d+9*u+8) a)(s:hY c g i)(I:c.length+2≤e)(az:e≤20){p:List W}(ay:qS i p)(v:∀af T,PI h b e d (u+1) af T→j af T):
  fG ⟨cq,k⟩ (fo 4 iP) (Kz e o b.length i n (O (.f (pB p)))) (PH b a c g) (jQ j K):=by
 have z:c.length≤20:=cr (lC (lC I)) az
 have ag:eW (PH b a c g) ar 0 [.cu (b.length+1)] =O (.f (.Z c.length),PH b a c g):=by
  refine (uo (a:=PH b a c g) (c:=b.length+1) (en b _ _) (by rw [et];exact cr z (by decide))).trans ?_
  rw [et]
 refine bU fun f=>?_
 obtain ⟨⟨ac,X,P,y⟩,t,L,F,q,ah,ai⟩:=ay
 obtain ⟨w,Q⟩:∃w,ac[p.length]? =O w:=⟨ac[p.length]'(by refine bT P ?_;exact h9 _),gS _⟩
 refine f ?_;try clear f
 apply aj;exact ag
 apply aj;exact eZ (cr t (by decide))
 refine cD (fun R=>?_) fun R=>?_
 ·have A:=s.d6 X P Q y
  have G:(c++p).length+2≤e:=by
   refine bT dZ ?_;exact ZJ R
  refine rc ae (FV y X Q z (s.cC.symm▸z) t) ?_
  have x:p[L.length]? =O F:=by (refine bT q ?_;rw [la (dX _),pg]);rfl
  have al:=y.iU x
  apply aj;exact q▸Ek (q▸cr t (by decide))
  have aa:GB h (d+9*(u+1)) a:=C.up (fM _)
  apply aj;exact xP F.bV
  refine cD (fun r=>?_) fun r=>?_
  ·refine bU fun f=>?_
   obtain ⟨aB,ak,am⟩:=Ss ah al.cF r
   refine f ?_;try clear f
   apply aj;exact q▸Ek (q▸cr t (by decide))
   apply aj;exact am _
   refine cD (fun ab=>?_) fun ab=>?_
   ·refine ec ae (f7 (c:=3) (by decide) (by decide)) an C fun av aA au ao=>?_
    refine bU fun f=>?_
    obtain ⟨Y,aC,rfl⟩:=ao
    refine f ?_;try clear f
    have aw:p≠ [] :=fun aq=>by rw [aq] at x;exact cG x
    refine v _ _ ⟨av,_,_,Y,_,_,_,rfl,rfl,au,A.Sr (s.Zc aw (ai r (ak ab))) (v:=c++L) (q:=F) (by (refine bT q ?_;rw [m8])) r Y,G⟩
   ·exact v _ _ ⟨a,_,_,w,_,_,_,rfl,rfl,aa,A,G⟩
  ·refine ed r ?_
   exact v _ _ ⟨a,_,_,w,_,_,_,rfl,rfl,aa,A,G⟩
 ·exact v _ _ ⟨a,c,g,i,_,_,_,rfl,rfl,C.up (fM _),s,I⟩
def AY{d:Nat}{a:dw}(f:GB h d a){b:bS}:jX cq (O a::b) (.cu 0) (.f (.Z 3))=O (.b3 h):=by
 obtain ⟨_,_,_,rfl,_,_⟩:=f
 rfl
def XU(u:k=vC cq (m+6)){r:Nat}(x:d+9*(r+1)≤5000)(q:GB h (d+9*r) a)(L:hY c g i)(G:c.length+2≤e)(W:e≤20){y:Int}(Q:∀X I,PI h b e d (r+1) X I→j X I):
  fG ⟨cq,k⟩ iP (Kz e (O (.f (.Z y))) b.length i n l) (PH b a c g) (jQ j K):=by
 have C:d+9*r+8≤5000:=lC x
 have T:d+9*r+2≤5000:=cr (fg _ 6) C
 have P:∀(a:dw)(p:Nat),GB h (d+9*r+2) a→fG ⟨cq,k⟩ (fo 3 iP) (Kz e (O (.f (.Z y))) b.length i (O (.f (.Z p))) l) (PH b a c g) (jQ j K):=fun a p q=>by
  refine cD (fun Y=>?_) fun Y=>?_
  ·refine ec u (I9 (L:=p)) C q fun A z s t=>?_
   refine bU fun f=>?_
   obtain ⟨ac,F,rfl⟩:=t
   refine f ?_;try clear f
   exact El u x s L G W F Q
  ·refine ec u (I9 (L:=10)) C q fun A z s t=>?_
   refine bU fun f=>?_
   obtain ⟨ac,F,rfl⟩:=t
   refine f ?_;try clear f
   exact El u x s L G W F Q
 have v:∀(a:dw)(p:Nat),0<p→p<1000→GB h (d+9*r+1) a→fG ⟨cq,k⟩ (fo 2 iP) (Kz e (O (.f (.Z y))) b.length i (O (.f (.Z p))) l) (PH b a c g) (jQ j K):=fun a p ab af q=>by
  apply aj;exact AY q
  refine cD (fun w=>?_) fun w=>?_
  ·exact P _ 0 (q.up (fM _))
  ·refine ec u (f7 ab af) T q fun A z s t=>?_
   refine bU fun f=>?_
   obtain ⟨p,ag,rfl⟩:=t
   refine f ?_;try clear f
   exact P _ p s
 have aa:d+9*r+1≤5000:=lC T
 refine cD (fun R=>?_) fun R=>?_
 ·apply aj;exact AY q
  refine cD (fun w=>?_) fun w=>?_
  ·refine gL w ?_
   exact v _ 6 (by decide) (by decide) (q.up (fM _))
  ·refine ec u (f7 (c:=3) (by decide) (by decide)) aa q fun A z s t=>?_
   refine bU fun f=>?_
   obtain ⟨p,ag,rfl⟩:=t
   refine f ?_;try clear f
   refine cD (fun ae=>?_) fun ae=>?_
   ·exact v _ 6 (by decide) (by decide) s
   ·exact v _ 13 (by decide) (by decide) s
 ·refine ed R ?_
  exact v _ 13 (by decide) (by decide) (q.up (fM _))
end
def gf(e:List W)(f:List Nat)(d:Nat):Prop:=(f.length=e.length)∧(0<d)∧(d≤e.length)∧(f[0]? =O 0)∧(∀(b:Nat)(a:W),e[b]? =O a→a.dh.cF ar=ar)∧(∀(b:Nat)(a:W),b<d→e[b]? =O a→∃g,f[b]? =O g∧a.bV.c0≤g∧(a.bV.dR=b2→b+1<d∧f[b+1]? =O (g-a.bV.c0+a.bV.fS))∧∀c,a.bV.b8=ar→a.g=O c→b+c<d∧f[b+c]? =O (g-a.bV.c0+a.bV.fS))∧(∀(b:Nat)(a:W),d≤b→e[b]? =O a→a.bV.b8=ar→(∀c,a.g=O c→b+c<e.length)∧(a.g=b1→a.bV.cg=ar∧f[b]? =O 1))
section
variable{c:List W}{b:List Nat}{d:Nat}(a:gf c b d)
include a
def gf.cC:b.length=c.length:=a.1
def gf.v2:0<d:=a.2.1
def gf.gm:d≤c.length:=a.2.2.1
def gf.d1:b[0]? =O 0:=a.2.2.2.1
def gf.cF:∀(f:Nat)(e:W),c[f]? =O e→e.dh.cF ar=ar:=a.2.2.2.2.1
def gf.dh:∀(f:Nat)(e:W),f<d→c[f]? =O e→∃g,b[f]? =O g∧e.bV.c0≤g∧(e.bV.dR=b2→f+1<d∧b[f+1]? =O (g-e.bV.c0+e.bV.fS))∧∀h,e.bV.b8=ar→e.g=O h→f+h<d∧b[f+h]? =O (g-e.bV.c0+e.bV.fS):=a.2.2.2.2.2.1
def gf.DI:∀(f:Nat)(e:W),d≤f→c[f]? =O e→e.bV.b8=ar→(∀g,e.g=O g→f+g<c.length)∧(e.g=b1→e.bV.cg=ar∧b[f]? =O 1):=a.2.2.2.2.2.2
end
def gf.eI{f C:List W}{n:List Nat}{w:Nat}{d:W}(g:hY f n w)(v:AW f)(t:f=C++[d])(K:d.bV.dR=ar){l:List W}{o:List Nat}(F:o.length=l.length)(z:∀d∈l,d.dh.cF ar=ar)
  (P:∀(b:Nat)(d:W),l[b]? =O d→d.bV.b8=ar→(∀h,d.g=O h→b+h<l.length)∧(d.g=b1→d.bV.cg=ar∧o[b]? =O 1)):gf (f++l) (n++o) f.length:=by
 have u:0<f.length:=by (refine bT t ?_;refine bT dZ ?_);exact nI _
 have r:∀{p m:Nat},p<f.length→(n++[w])[p]? =O m→(n++o)[p]? =O m:=fun {p m} q e=>by
  rw [ph (g.cC.symm▸q)] at e⊢;exact e
 refine ⟨by (refine bT dZ ?_;refine bT dZ ?_;refine bT g.cC ?_;refine bT F ?_;rfl),u,by refine bT dZ ?_;exact fg _ _,r u g.d1,fun b i a=>?_,fun b i c a=>?_,fun b i c a k=>?_⟩
 ·by_cases c:b<f.length
  ·rw [ph c] at a
   exact (g.dh b i a).cF
  ·rw [la (ra c)] at a
   exact z i (gj a)
 ·rw [ph c] at a
  refine bU fun x=>?_
  obtain ⟨_,G,m,I,A,e⟩:=g.dh b i a
  refine x ?_;try clear x
  refine ⟨G,by rw [ph (g.cC.symm▸c)];exact m,I,fun s=>?_,fun h k j=>⟨v b i h a k j,r (v b i h a k j) (e h k j)⟩⟩
  have q:b+1<f.length:=by
   refine y5 c fun e=>?_
   rw [t,dZ,uM] at e
   have e:=mB e
   rw [t,e,la (dX _),pg] at a
   rw [← dg a,K] at s
   exact dy s
  exact ⟨q,r q (A s)⟩
 ·rw [la c] at a
  obtain ⟨L,y⟩:=P _ i a k
  refine ⟨fun h j=>?_,fun j=>⟨(y j).1,?_⟩⟩
  ·have:=L h j
   rw [← LU c] at this
   refine bT dZ ?_
   exact (Tv (cr c (fg _ _))).mp this
  ·(rewrite [la (g.cC.symm▸c)];refine bT g.cC ?_)
   exact (y j).2
section
variable{n:Nat}{m:Bool}{a:bS}{e:dw}{b:List W}{c:List Nat}{d k g:Nat}{i j h:Option bZ}{l:cK}
def NT(b:List W)(c:List Nat)(f:Nat):bl:=.cQ [.a3 (b.map W.kO),.a3 (cU c),.Z f]
noncomputable def V0(d:Nat)(i o:Option bZ)(p f g:Nat)(j h:Option bZ):cV:=[O (.cu 0),O (.f (.Z d)),i,o,O (.f (.Z p)),O (.cu (f+1)),O (.cu (f+2)),O (.f (.Z g)),j,h]
def AZ{p:Option bZ}{o:Nat}{q:dw}{f:KE}(r:f (.f (NT b c o)) (O e::a)):fG ⟨cq,l⟩ (fo 7 (AV jl)) (V0 d i p o a.length g j h) (PH a e b c) (lG b2 (O q::a).length f):=by
 apply aj;exact js (a:=PH a e b c) (c:=a.length+1) (en a _ _)
 apply aj;exact js (c:=a.length+2) (b:=cU c) (by
  show ((a++_).set a.length b1)[a.length+1]? =_
  rw [kk];exact kM _ _ _ _)
 refine c8 (b:=f) r ?_
 show O e::((((a++_).set a.length b1).set (a.length+1) b1).take a.length)=_
 (rewrite [kk,zC];refine bT ze ?_;rfl)
def aaF(f:b.length≤500):eW (PH a e b c) ar 0 [.cu (a.length+1)] =O (.f (.Z b.length),PH a e b c):=by
 refine (uo (a:=PH a e b c) (c:=a.length+1) (en a _ _) (by rw [et];exact cr f (by decide))).trans ?_
 rw [et]
def NU(d:Nat)(o:bl):Prop:=∃b c f,gf b c f∧b.length≤d∧o=NT b c f
def sK(w:l=vC cq (n+6))(G:k+3≤5000)(z:GB m k e){aw:dw}{L:KE}(ag:∀(u:dw)(v:bl)(an:bS),GB m (k+3) u→NU d v→an=O u::a→L (.f v) an)
  (I:hY b c g) (ae:b.length+2≤d) (C:d≤20) {f ah:List W} {aa:W} {t:List Nat} (ao:t[0]? =O g) (ai:t.length=f.length+1) (af:uu t 0 f) (al:f.length≤2) (Q:f=ah++[aa]) (az:aa.bV.dR=ar) (aC:Ht f):
  fG ⟨cq,l⟩ (fo 4 (AV jl)) [O (.cu 0),O (.f (.Z d)),i,O (.f (pB f)),b1,O (.cu (a.length+1)),O (.cu (a.length+2)),O (.f (.Z g)),j,h] (PH a e b c) (lG b2 (O aw::a).length L):=by
 have am:b.length≤20:=cr (lC (lC ae)) C
 obtain ⟨au,ak⟩:∃au,t[f.length]? =O au:=⟨t[f.length]'(by refine bT ai ?_;exact h9 _),gS _⟩
 have X:=I.d6 ao ai ak af
 have aA:AW (b++f):=I.Zc (fun o=>by rw [o] at Q;exact absurd (congrArg qE Q) (by refine bT dZ ?_;exact (TF _).symm)) aC
 have A:(b++f).length≤d:=by refine bT dZ ?_;exact cr (jq al _) ae
 have ac:b++f=(b++ah)++[aa] :=by (refine bT Q ?_;rw [m8])
 have aH:(c++t.take f.length).length≤20:=by refine bT X.cC ?_;exact cr A C
 refine rc w (FV af ao ak am (I.cC.symm▸am) (cr al (by decide))) ?_
 apply aj;exact aaF (cr A (cr C (by decide)))
 have aE:gf (b++f) (c++t.take f.length) (b++f).length:=by
  have:=gf.eI X aA ac az (l:=[]) (o:=[]) rfl (fun R o=>absurd o gD) (fun R R o=>cG o)
  rw [kX,kX] at this;exact this
 generalize b++f=q at*
 generalize c++t.take f.length=T at*
 have F:∀u,GB m (k+3) u→fG ⟨cq,l⟩ (fo 7 (AV jl)) (V0 d i (O (.f (pB f))) q.length a.length g j h) (PH a u q T) (lG b2 (O aw::a).length L):=fun u aF=>
  AZ (ag u _ _ aF ⟨q,T,q.length,aE,A,rfl⟩ rfl)
 apply aj;exact AY z
 refine cD (fun aq=>?_) fun aq=>?_
 ·refine cD (fun K=>?_) fun K=>?_
  ·refine ec w (f7 (c:=3) (by decide) (by decide)) (jr G 1 (by decide)) z fun aN v av r=>?_
   refine bU fun s=>?_
   obtain ⟨P,aO,rfl⟩:=r
   refine s ?_;try clear s
   refine cD (fun aI=>?_) fun aI=>?_
   ·refine ec w ta (jr G 2 (by decide)) av fun aM v aL r=>?_
    refine bU fun s=>?_
    obtain ⟨aB,Y,rfl⟩:=r
    refine s ?_;try clear s
    refine ec w (qx b1) G aL fun aG v aJ r=>?_
    refine bU fun s=>?_
    obtain ⟨y,ab,rfl⟩:=r
    refine s ?_;try clear s
    have aD:q.length+3≤d:=pN.mp (of_decide_eq_true K)
    have aK:q.length≤20:=cr A C
    refine rc w (FV (b:=[jo .cI (O 1),aB,jo y b1]) (c:=[0,0,1,0]) (l:=0) (k:=0) ⟨o5 (b:=0) rfl rfl (fun P w=>by obtain rfl:=dg w;rfl),Y.fS.eH (b:=0) rfl rfl,rC (b:=0) ab rfl rfl (nq (c:=jo y b1) rfl),trivial⟩ rfl rfl aK aH (er rfl)) ?_
    refine AZ (ag aG _ _ aJ ⟨q++[jo .cI (O 1),aB,jo y b1],T++[0,0,1],q.length,gf.eI X aA ac az rfl (fun v x=>?_) (fun r v p ay=>?_),by refine bT dZ ?_;exact aD,rfl⟩ rfl)
    ·rcases eP.mp x with rfl|x
     ·rfl
     rcases eP.mp x with rfl|x
     ·exact (Y.fS (i:=0)).cF
     refine bT (ib.mp x) ?_
     induction y<;>first|rfl|exact dy ab
    ·match r,p with
     | 0,p=>
      obtain rfl:=dg p
      exact ⟨fun P o=>by obtain rfl:=dg o;exact er rfl,fun o=>cG (Eq.symm o)⟩
     | 1,p=>
      obtain rfl:=dg p
      rw [(Y.fS (i:=0)).nj] at ay
      exact dy ay
     | 2,p=>
      obtain rfl:=dg p
      exact ⟨(fun P o=>cG o),fun R=>⟨ab,rfl⟩⟩
     |r+3,p=>exact cG p
   ·exact F _ (av.up (fg _ 2))
  ·refine ed K ?_
   exact F _ (z.up (fg _ 3))
 ·refine ed aq ?_
  exact F _ (z.up (fg _ 3))
end
section
variable{c:Nat}{a:Bool}{b:Nat}
def Su{d:gB}(i:d.T=cq){l:Nat}{f:dw}{g:bS}{e:cV}(j:GB a l f)(k:e[0]? =O (O (.cu 0))){K:KE}(h:K (.f (.Z ((cond a 1 4:Nat):Int))) (O f::g)):vE d (.fx (.cL (.bW 0) (.Z 3)) (.Z 1) (.Z 4)) e (O f::g) K:=by
 obtain ⟨o,n⟩:=d
 dsimp only at i
 subst i
 have m:(e[0]?).join=O (.cu 0):=by refine bT k ?_;rfl
 apply aj;exact m
 apply aj;exact AY j
 induction a
 ·exact h
 ·exact h
def KA{g:Nat}{f:bl}(e:f∈dL (g:Int)):∃d:Nat,d<g∧f=.Z d:=by
 unfold dL at e
 rw [zm] at e
 obtain ⟨d,h,i⟩:=hJ.mp e
 exact ⟨d,nf.mp h,i.symm⟩
def Pq{d:bS}:fh cq d .cZ (.f (pB [iT .ew])) (.f (pB [iT .ew]))=O ar:=by kernel_rfl
def Sv{d:bS}:fh cq d .cZ (.f (pB [jo .cI b1])) (.f (pB [iT .ew]))=O b2:=by kernel_rfl
def Sw{h:gB}{d:bS}{K:KS}{f e:Option bZ}(g:K .cc [f,e,b1,b1,b1,O (.cu d.length),O (.cu (d.length+1)),O (.f (.Z 0)),b1,b1] (d++[O (.a3 []),O (.a3 [])])):vS h (.ep [5,6,7] (.J (.a3 b2 .N) (.J (.a3 b2 .N) (.J (.Z 0) .N)))) [f,e,b1,b1,b1,b1,b1,b1,b1,b1] d K:=by
 refine aj (g4 (a:=d) (b:=[]) (fy _)) ?_
 refine aj (qQ (a:=d) (b:=[]) (fy _)) ?_
 exact g
def Sx(Y:2≤b)(w:b≤20):EC (vC cq (c+7)) 50 [.cu 0,.f (.Z b)] a 42 (NU b):=FS rfl rfl rfl rfl fun z n f l d K m I x=>by
 refine Sw ?_
 refine Su (d:=⟨cq,z⟩) rfl (g:=d++[O (.a3 []),O (.a3 [])]) (e:=[O (.cu 0),O (.f (.Z b)),b1,b1,b1,O (.cu (d.length+1)),O (.cu (d.length+2)),O (.f (.Z 0)),b1,b1]) I rfl ?_
 have v:(cond a 1 4:Nat)≤4:=by induction a<;>decide
 generalize (cond a 1 4:Nat)=al at v⊢
 apply aj;exact ip (cr v (by decide))
 refine AX (c:=0) (PI a d b f) (fun ab P af ac aq X T r ag=>?_) ⟨l,[],[],0,_,_,_,rfl,rfl,I,.N,Y⟩ fun af ac r=>?_
 ·refine bU fun e=>?_
  obtain ⟨ak,am,rfl⟩:=KA X
  obtain ⟨l,C,y,j,u,q,o,rfl,rfl,k,h,p⟩:=r
  refine e ?_;try clear e
  rw [li,kU] at T
  have ai:ab+1≤4:=cr T v
  exact XU (n:=q) (l:=o) n (cr (jq (cr (v9 9 ai) (by decide)) f) m) k h p w ag
 ·rw [li,kU] at r
  refine bU fun e=>?_
  obtain ⟨l,C,y,j,u,q,o,rfl,rfl,k,h,p⟩:=r
  refine e ?_;try clear e
  have k:GB a (f+36) l:=k.up (jq (v9 9 v) f)
  have R:∀i,GB a (f+37) i→fG ⟨cq,z⟩ (fo 3 (AV jl)) [O (.cu 0),O (.f (.Z b)),u,O (.f (pB [iT .ew])),b1,O (.cu (d.length+1)),O (.cu (d.length+2)),O (.f (.Z j)),q,o] (PH d i C y) (lG b2 (O l::d).length K):=fun i s=>by
   refine cD (fun g=>?_) fun g=>?_
   ·apply aj;exact Pq
    refine ec n (lp (h:=0)) (jr m 39 (by decide)) s fun ae P t A=>?_
    refine bU fun e=>?_
    obtain ⟨W,Q,rfl⟩:=A
    obtain rfl:j=0:=GZ (dr g)
    refine e ?_;try clear e
    exact sK (k:=f+39) n m t x h p w (f:=[W,iT .ew]) (ah:=[W]) (aa:=iT .ew) (t:=[0,1,0]) rfl rfl ⟨Q.eH rfl rfl,Eh (b:=0) rfl rfl,trivial⟩ (dX 2) rfl rfl (.eI ⟨nq Q.g,nq rfl,trivial⟩)
   ·refine ed g ?_
    match j,g,h with
    | 0,g,_=>exact dy g
    |F+1,_,h=>exact sK (k:=f+39) n m (s.up (fg _ 2)) x h p w (f:=[iT .ew]) (ah:=[]) (aa:=iT .ew) (t:=[F+1,F]) rfl rfl ⟨Eh (b:=F) rfl rfl,trivial⟩ (er rfl) rfl rfl (.eI ⟨nq rfl,trivial⟩)
  have aa:∀i,GB a (f+37) i→fG ⟨cq,z⟩ (fo 3 (AV jl)) [O (.cu 0),O (.f (.Z b)),u,O (.f (pB [jo .cI b1])),b1,O (.cu (d.length+1)),O (.cu (d.length+2)),O (.f (.Z j)),q,o] (PH d i C y) (lG b2 (O l::d).length K):=fun i s=>by
   have G:=sK (aw:=l) (i:=u) (j:=q) (h:=o) (k:=f+39) n m (s.up (fg _ 2)) x h p w (f:=[jo .cI b1]) (ah:=[]) (aa:=jo .cI b1) (t:=[j,j]) rfl rfl ⟨o5 rfl rfl (nq (c:=jo .cI b1) rfl),trivial⟩ (er rfl) rfl rfl (.eI ⟨nq rfl,trivial⟩)
   refine cD (fun g=>?_) fun g=>?_
   ·apply aj;exact Sv
    exact G
   ·refine ed g ?_
    exact G
  apply aj;exact AY k
  refine cD (fun L=>?_) fun L=>?_
  ·refine gL L ?_
   exact R _ (k.up (fM _))
  ·refine ec n (f7 (c:=4) (by decide) (by decide)) (jr m 37 (by decide)) k fun ae P t A=>?_
   refine bU fun e=>?_
   obtain ⟨an,ao,rfl⟩:=A
   refine e ?_;try clear e
   refine cD (fun ah=>?_) fun ah=>?_
   ·exact R _ t
   ·exact aa _ t
end
def rD(a:Nat):dL (a:Int)=(f5 a).map e8:=by unfold dL;rw [zm];rfl
def NV:List bl:=[.a3 [.ad "jump"],.cQ rt,.a3 [.ad "pop",.ad "swap",.ad "leave"],.cQ NC]
noncomputable def aaG:Op→Bool
 |.gy|.dt|.ew=>ar
 |_=>b2
def aaH:(fu.all fun a=>eA (ic (.ad a.cT) [.ad "pop",.ad "swap",.ad "leave"]) (aaG a))=ar:=by kernel_rfl
def Sy{d:bl}(b:d∈NV):∃e:Op→Bool,∀(a:Op)(c:bS),fh cq c .ft (.f (.ad a.cT)) (.f d)=O (e a):=by
 rcases eP.mp b with rfl|b
 ·exact ⟨_,fun a c=>qf NF a⟩
 rcases eP.mp b with rfl|b
 ·exact ⟨_,fun a c=>ol px a⟩
 rcases eP.mp b with rfl|b
 ·exact ⟨_,fun a c=>qf aaH a⟩
 refine bT (ib.mp b) ?_
 exact ⟨_,fun a c=>ol BE a⟩
def Sz{a:bS}{c:bl}{b:List bl}:fh cq a .ne (.f (.a3 (c::b))) (.f (.a3 []))=O ar:=by
 show (lE _ _).map _=_
 unfold lE;rfl
def Ja{b a:Nat}:((O b:Option Nat)==O a)=((b:Int)==(a:Int)):=by
 rw [vJ,beq_iff_eq,beq_iff_eq,Option.some.injEq,UK]
section
variable{j:Nat}{i:Bool}{b:List W}{a:List Nat}{d g h c:Nat}{e:W}
def XV{F:cK}{A:Nat}{ae ab:dw}{s:bS}{G:KE}{aa:Int}(z:F=vC cq (j+1))(T:a.length≤20)(C:d≤a.length)(an:b.length≤20)(ag:a.length=b.length)(av:aa=(c:Int))(aF:∃f<d,a[f]? =O c)(R:A+2≤5000)(au:GB i A ae)
  (ak:∀(P:dw)(w:bl)(Y:bS),GB i (A+2) P→(∃f<d,a[f]? =O c∧w=.Z f)→Y=O P::s→G (.f w) Y):
  fG ⟨cq,F⟩ (fo 1 (AV qV)) [O (.cu 0),O (.f (.a3 (b.map W.kO))),O (.f (.a3 (cU a))),O (.f (.Z g)),O (.f (.Z d)),O (.f (.Z aa)),b1,b1,b1,b1,b1] (O ae::s) (lG b2 (O ab::s).length G):=by
 have X:=cr C T
 subst av
 apply aj;exact ip (cr X (by decide))
 rw [rD]
 refine k6 e8 (fun f=>a[f]? ==O c) e8 (fun f aq K k t q=>?_) ?_
 ·have r:=hH (nf.mp k) C
  apply aj;exact hB (gS r) (cr T (by decide))
  have p:(a[f]? ==O c)=((a[f] :Int)==(c:Int)):=by
   rw [gS r]
   exact Ja
  rw [p] at t q
  exact cD t q
 generalize o:(f5 d).filter (fun f=>a[f]? ==O c)=n
 have Q:∀f,f∈n→f<d∧a[f]? =O c:=fun f k=>by
  rw [← o] at k
  have:=l3.mp k
  exact ⟨nf.mp this.1,dr this.2⟩
 have l:n.length≤20:=by
  refine gT o ?_
  exact cr (r7 _ _) (by refine bT pk ?_;exact X)
 have aw:n≠ [] :=fun p=>by
  refine bU fun m=>?_
  obtain ⟨f,k,z⟩:=aF
  refine m ?_;try clear m
  have:f∈n:=o▸l3.mpr ⟨nf.mpr k,beq_iff_eq.mpr z⟩
  rw [p] at this
  cases this
 clear o
 apply aj;exact lh (c:=e8) (cr l (by decide))
 refine ec z (f7 (c:=4) (by decide) (by decide)) (lC R) au fun ao w ah g=>?_
 refine bU fun m=>?_
 obtain ⟨ay,y,rfl⟩:=g
 obtain ⟨aE,aC,aD⟩:=Hq (a:=NV) y (by decide)
 refine m ?_;try clear m
 apply aj;exact aD _
 obtain ⟨v,aB⟩:=Sy aC
 apply aj;exact ef (cr l (by decide))
 refine k6 e8 (fun f=>(b[f]?).any fun e=>v e.bV) e8 (fun f aq K k t q=>?_) ?_
 ·have r:f<b.length:=hH (Q f k).1 (ag▸C)
  apply aj;exact hB (gS r) (cr an (by decide))
  apply aj;exact aB _ _
  have p:((b[f]?).any fun e=>v e.bV)=v b[f].bV:=by rw [gS r];rfl
  rw [p] at t q
  exact cD t q
 have L:∀(u:List Nat){ac:Option bZ},(∀f∈u,f∈n)→u≠ [] →u.length≤20→fG ⟨cq,F⟩ (fo 5 (AV qV)) [O (.cu 0),O (.f (.a3 (b.map W.kO))),O (.f (.a3 (cU a))),O (.f (.Z g)),O (.f (.Z d)),O (.f (.Z c)),O (.f (.a3 (cU u))),O (.f aE),ac,b1,b1] (O ao::s) (lG b2 (O ab::s).length G):=fun u ac am x l=>by
  apply aj;exact eZ (d:=e8) (cr l (by decide))
  refine ec z (f7 (Cg.mpr x) (kT l (by decide))) R ah fun az w aA g=>?_
  refine bU fun m=>?_
  obtain ⟨ay,y,rfl⟩:=g
  refine m ?_;try clear m
  apply aj;exact hB (d:=e8) (gS y) (cr l (by decide))
  have:=Q _ (am _ (vR y))
  exact ak az _ _ aA ⟨_,this.1,this.2,rfl⟩ s9
 generalize o:n.filter (fun f=>(b[f]?).any fun e=>v e.bV)=I
 have af:∀f∈I,f∈n:=fun f k=>(l3.mp (o▸k)).1
 have x:I.length≤20:=cr (o▸r7 _ _) l
 apply aj;exact lh (c:=e8) (cr x (by decide))
 clear o
 induction I with
 |nil=>
  apply aj;exact wD
  exact L n (fun aG h=>h) aw l
 |cons ai al=>
  apply aj;exact Sz
  exact L (ai::al) af (fun p=>nomatch p) x
def XW(k:gf b a d)(u:b[g]? =O e)(p:a[g]? =O h)(l:b.length≤20)(o:(h:Int)-(if e.bV.cg then 1 else 0)=(c:Int))(t:∃f<d,a[f]? =O c):
  EC (vC cq (j+2)) 51 [.cu 0,.f (.a3 (b.map W.kO)),.f (.a3 (cU a)),.f (.Z g),.f (.Z d)] i 2 fun q=>∃f<d,a[f]? =O c∧q=.Z f:=FS rfl rfl rfl rfl fun A v z y w x s n r=>by
 have m:a.length≤20:=k.cC.symm▸l
 apply aj;exact hB p (cr m (by decide))
 apply aj;exact hB u (cr l (by decide))
 apply aj;exact gU e.bV
 exact XV v m (k.cC.symm▸k.gm) l k.cC o t s n r
end
def ka(c:List Nat)(e:Nat)(a:Ct):Prop:=(a.mF=.ad "rescue"∨a.mF=.ad "ensure")∧(a.d1<a.iz)∧(a.iz≤c.length)∧(a.cP<e)∧(c[a.cP]? =O (a.dG+1))∧(∀b d:Nat,a.d1≤b→b<a.iz→c[b]? =O d→a.dG≤d)
section
variable{c:List Nat}{d:Nat}{a:Ct}(b:ka c d a)
include b
def ka.mF:a.mF=.ad "rescue"∨a.mF=.ad "ensure":=b.1
def ka.jL:a.d1<a.iz:=b.2.1
def ka.gm:a.iz≤c.length:=b.2.2.1
def ka.tlt:a.cP<d:=b.2.2.2.1
def ka.tgt:c[a.cP]? =O (a.dG+1):=b.2.2.2.2.1
def ka.C1:∀e f:Nat,a.d1≤e→e<a.iz→c[e]? =O f→a.dG≤f:=b.2.2.2.2.2
end
def Jb{a:Nat}(b:a≤1000):rO (.f (.Z a))=O (O a):=if_pos ⟨sb a,kT b (er rfl)⟩
def SA{d:bS}{a:List Nat}{b c:Nat}(e:a.length≤500)(g:b≤1000)(f:c≤1000):jY d ar (.f (.a3 (cU a))) (.f (.Z b)) (.f (.Z c))=O (.f (.a3 (cU ((a.take c).drop b))),d):=by
 unfold jY
 (refine bT (Jb g) ?_;refine bT (Jb f) ?_;rw [tn,tn])
 show (if (cU a).length≤100000 then iI d ar (x6 (cU a) (O b) (O c)) else b1)=_
 rw [if_pos (by rw [et];exact cr e (by decide))]
 show iI d ar (((cU a).take c).drop b)=_
 (refine gT Mh ?_;refine gT List.map_drop ?_)
 exact lh (cr (by refine bT zc ?_;exact cr (y8 _ _) (yB _ _)) e)
def XX:∀a:List Nat,Cz (cU a)=O (a.map fun (c:Nat)=>(c:Int)):=by
 intro a
 induction a with
 |nil=>
  exact rfl
 |cons b a d=>
  exact congrArg (nG ((b:Int):: ·)) (d)
def Pr:∀(a:List Int)(b:Int),a.foldl min b≤b∧∀d∈a,a.foldl min b≤d:=by
 intro a
 induction a with
 |nil=>
  intro b
  exact ⟨Int.le_refl _,fun j f=>absurd f gD⟩
 |cons d a g=>
  intro b
  obtain ⟨e,i⟩:=g (min b d)
  refine ⟨t6 e (Int.min_le_left _ _),fun h c=>?_⟩
  rcases eP.mp c with rfl|c
  ·exact t6 e (Int.min_le_right _ _)
  ·exact i h c
def aaI{f:bS}{a:List Nat}(i:a≠ []):∃e:Int,(∀b∈a,e≤(b:Int))∧eW f ar 3 [.f (.a3 (cU a))] =O (.f (.Z e),f):=by
 match a,i with
 |d::a,_=>
  obtain ⟨g,j⟩:=Pr (a.map fun (b:Nat)=>(b:Int)) d
  refine ⟨_,fun b c=>?_,congrArg (fun h=>jG h _) (XX (d::a))⟩
  rcases eP.mp c with rfl|c
  ·exact g
  ·exact j _ (hJ.mpr ⟨b,c,rfl⟩)
def aaJ{c:gB}{d:cV}{a:bS}{K:KE}(b:K (.cu a.length) (a++[O (.a3 [])])):vE c (.a3 b2 .N) d a K:=aj (g4 (fy _)) b
def FH(b:bS)(c:dw)(a:List Ct):bS:=O c::(b++[O (.a3 (a.map k0))])
def aaK{a:bS}{c:dw}{b:List Ct}{e:bl}{d:Ct}(g:e=k0 d)(f:b.length≤500):jk cq (FH a c b) .eJ (.cu (a.length+1)) [.f e] =O (.f .bX,FH a c (b++[d])):=by
 refine (io (a:=FH a c b) (b:=a.length+1) (en a _ _) (by rw [et];exact cr f (by decide))).trans ?_
 unfold FH
 (refine bT za ?_;rewrite [kk];refine bT r8 ?_;refine bT g ?_);rfl
def WC(f:List Nat)(c d:Nat)(e:List Nat)(h g a i b:Option bZ):cV:=[O (.cu 0),O (.f (.a3 (cU f))),O (.f (.Z c)),h,O (.cu (d+1)),O (.f (.a3 (cU e))),g,a,i,b,b1]
def FI(m:Bool)(b:bS)(e:List Nat)(c:Nat)(k:List Nat)(l:Nat)(d:Nat)(j:cV)(n:bS):Prop:=∃(f:dw)(a:List Ct)(p o g q h:Option bZ),j=WC e c b.length k p o g q h∧n=FH b f a∧GB m (l+4*d) f∧a.length≤d∧∀i∈a,ka e c i
section
variable{e:Nat}{d:Bool}{a b:List Nat}{c:Nat}
def XY{g:Int}{f:Nat}(k:g=(f:Int))(l:0<f)(i:f<1000):EC (vC cq (e+1)) 40 [.cu 0,.f (.Z g)] d 1 fun j=>∃h<f,j=.Z (h:Nat):=k▸f7 l i
def SB{j:bS}{f:List Nat}{g:Nat}{i:Int}{h:Nat}(m:i=(h:Int))(l:f.length≤500)(n:g≤1000)(k:h≤1000):jY j ar (.f (.a3 (cU f))) (.f (.Z g)) (.f (.Z i))=O (.f (.a3 (cU ((f.take h).drop g))),j):=m▸SA l n k
def XZ{ab:cK}{u p:Nat}{ak:dw}{l:bS}{m:List Ct}{aH au am aC an:Option bZ}{ai:cV→bS→Prop}{K:KS}(t:ab=vC cq (e+1))(j:a.length≤20)(ay:0<a.length)(aJ:c≤a.length)(aF:b≠ [])(I:b.length≤20)(aG:∀W∈b,W<c∧∃r,a[W]? =O (r+1))
  (o:u+4*(p+1)≤5000) (az:GB d (u+4*p) ak) (C:m.length≤p) (av:p≤2) (ah:∀q∈m,ka a c q) (ac:∀al Y,FI d l a c b u (p+1) al Y→ai al Y):
  fG ⟨cq,ab⟩ k2 (WC a c l.length b aH au am aC an) (FH l ak m) (jQ ai K):=by
 have o:u+4*p+4≤5000:=o
 apply aj;exact eZ (d:=e8) (cr I (by decide))
 refine ec t (f7 (Cg.mpr aF) (kT I (by decide))) (jr o 1 (by decide)) az fun aK L aq k=>?_
 refine bU fun g=>?_
 obtain ⟨q,i,rfl⟩:=k
 obtain ⟨aD,r,y⟩:=aG _ (vR i)
 refine g ?_;try clear g
 apply aj;exact hB (d:=e8) (gS i) (cr I (by decide))
 generalize b[q] =F at*
 apply aj;exact eZ (d:=e8) (cr j (by decide))
 refine ec t (f7 ay (kT j (by decide))) (jr o 2 (by decide)) aq fun aM L aA k=>?_
 refine bU fun g=>?_
 obtain ⟨f,w,rfl⟩:=k
 refine g ?_;try clear g
 apply aj;exact eZ (d:=e8) (cr j (by decide))
 refine ec t (XY (f:=a.length-f) (UH (iG w)).symm (Nat.sub_pos_of_lt w) (kT (cr (y8 _ _) j) (by decide))) (jr o 3 (by decide)) aA fun aL L aI k=>?_
 refine bU fun g=>?_
 obtain ⟨h,aE,rfl⟩:=k
 refine g ?_;try clear g
 have ae:f+1+h≤a.length:=nS f h 1▸qB h f▸Tz aE
 refine ec t (f7 (c:=2) (by decide) (by decide)) o aI fun v L ag k=>?_
 refine bU fun g=>?_
 obtain ⟨q,i,rfl⟩:=k
 obtain ⟨T,R,Q⟩:=Hq (a:=[.ad "rescue",.ad "ensure"]) i (by decide)
 refine g ?_;try clear g
 apply aj;exact Q _
 have aB:f≤1000:=cr (iG w) (cr j (by decide))
 have aw:f+1+h≤1000:=cr ae (cr j (by decide))
 have aa:∀n,f≤n→n<f+1+h→∀x,a[n]? =O x→x∈(a.take (f+1+h)).drop f:=fun n s A x P=>by
  refine gj (i:=n-f) ?_
  (rewrite [L8];refine bT (Nat.add_sub_cancel' s) ?_;rw [Gi A]);exact P
 refine bU fun g=>?_
 obtain ⟨x,P,Q⟩:=aaI (f:=FH l v m) (a:=(a.take (f+1+h)).drop f) (fun G=>by
  have:=aa f (dX _) (hH (h9 _) (fg _ _)) _ (gS w)
  rw [G] at this
  cases this)
 refine g ?_;try clear g
 apply aj;exact SB (h:=f+1+h) rfl (cr j (by decide)) aB aw
 apply aj;exact Q
 apply aj;exact hB (d:=e8) y (cr j (by decide))
 refine cD (fun z=>?_) fun z=>?_
 ·apply aj;exact dK (a:=FH l v m) (b:=l.length+1) (en l _ _)
  apply aj;exact hB (d:=e8) y (cr j (by decide))
  refine pc t (Az ..) ?_
  have af:((r+1:Nat):Int)-1=r:=by rw [UG];exact Int.add_sub_cancel _ _
  apply aj;exact aaK (d:=⟨T,f,f+1+h,F,r⟩) (congrArg (fun G=>bl.gJ 1 [T,.Z f,.Z (f+1+h),e8 F,.Z G]) af) (cr C (cr av (by decide)))
  refine ac _ _ ⟨v,m++[⟨T,f,f+1+h,F,r⟩],_,_,_,_,_,rfl,rfl,ag,by refine bT dZ ?_;exact iF C,fun q i=>?_⟩
  rcases my.mp i with i|i
  ·exact ah q i
  refine bT (ib.mp i) ?_
  refine ⟨?_,hH (h9 _) (fg _ _),ae,aD,y,fun n X s A ao=>?_⟩
  ·rcases eP.mp R with rfl|R
   ·exact .inl rfl
   ·exact .inr (ib.mp R)
  ·have s:=P X (aa n s A X ao)
   rw [af] at z
   exact pN.mp (t6 (of_decide_eq_true z) s)
 ·exact ac _ _ ⟨v,m,_,_,_,_,_,rfl,rfl,ag,uL C,ah⟩
def KB(y:a.length≤20)(ao:0<a.length)(q:c≤a.length):
  EC (vC cq (e+2)) 52 [.cu 0,.f (.a3 (cU a)),.f (.Z c)] d 9 fun F=>∃k:List Ct,k.length≤2∧(∀i∈k,ka a c i)∧F=.a3 (k.map k0):=FS rfl rfl rfl rfl fun s af p ae g aq Q A ak=>by
 have X:=cr q y
 refine aaJ (c:=⟨cq,s⟩) (d:=[]) ?_
 apply aj;exact ip (cr X (by decide))
 rw [rD]
 refine k6 e8 (fun f=>(a[f]?).any fun (l:Nat)=>dY ((0:Int)<(l:Int))) e8 (fun f aB K L ac W=>?_) ?_
 ·have t:=hH (nf.mp L) q
  apply aj;exact hB (gS t) (cr y (by decide))
  have j:((a[f]?).any fun (l:Nat)=>dY ((0:Int)<(l:Int)))=dY ((0:Int)<(a[f] :Int)):=by rw [gS t];rfl
  rw [j] at ac W
  exact cD ac W
 generalize w:(f5 c).filter (fun f=>(a[f]?).any fun (l:Nat)=>dY ((0:Int)<(l:Int)))=b
 have al:∀f∈b,f<c∧∃l,a[f]? =O (l+1):=fun f L=>by
  obtain ⟨R,Y⟩:=l3.mp (w▸L)
  refine ⟨nf.mp R,?_⟩
  have t:=hH (nf.mp R) q
  rw [gS t] at Y⊢
  exact ⟨a[f]-1,congrArg O (uK (kY.mp (of_decide_eq_true Y))).symm⟩
 have T:b.length≤20:=by
  refine gT w ?_
  exact cr (r7 _ _) (by refine bT pk ?_;exact X)
 clear w
 apply aj;exact lh (c:=e8) (cr T (by decide))
 have P:∀(m:dw)(r:Nat),r≤2→(0<r→b≠ [])→GB d (p+1) m→jZ (fG ⟨cq,s⟩ k2) [3] b2 (Dk (fG ⟨cq,s⟩ (fo 2 (AV rh))) (lG b2 (O ae::g).length aq)) (dL r) (WC a c g.length b b1 b1 b1 b1 b1) (FH g m []):=fun m r o au x=>by
  refine AX (c:=0) (FI d g a c b (p+1)) (fun aC F av an aF aA v n aw=>?_) ⟨m,[],_,_,_,_,_,rfl,rfl,x,dX 0,fun aa j=>absurd j gD⟩ fun av an n=>?_
  ·rw [li,kU] at v
   refine bU fun h=>?_
   obtain ⟨u,k,az,am,ag,ay,ah,rfl,rfl,C,z,G⟩:=n
   refine h ?_;try clear h
   exact XZ af y ao q (au (kT (fy _) v)) T al (cr (jq (v9 4 (cr v o)) (p+1)) Q) C z (cr (iG v) o) G aw
  ·rw [li,kU] at n
   refine bU fun h=>?_
   obtain ⟨u,k,az,am,ag,ay,ah,rfl,rfl,C,z,G⟩:=n
   refine h ?_;try clear h
   apply aj;exact js (a:=FH g u k) (c:=g.length+1) (en g _ _)
   refine ak u _ _ (C.up (jq (v9 4 o) (p+1))) ⟨k,cr z o,G,rfl⟩ ?_
   show O u::(((g++_).set g.length b1).take g.length)=_
   (rewrite [kk];refine bT ze ?_;rfl)
 refine VN (b:=⟨cq,s⟩) (a:=d) (h:=b.isEmpty) (fun K i=>?_) (fun aa K i=>?_) _ ?_
 ·apply aj;exact AY A
  exact i
 ·induction b with
  |nil=>apply aj;exact s6;exact i
  |cons aE aD=>apply aj;exact s7;exact i
 refine cD (fun I=>?_) fun I=>?_
 ·exact P ae 0 (by decide) (fun j=>absurd j (B9 0)) (A.up (fM _))
 ·refine ec af (f7 (c:=3) (by decide) (by decide)) (jr Q 1 (by decide)) A fun m F x ai=>?_
  refine bU fun h=>?_
  obtain ⟨i,ab,rfl⟩:=ai
  refine h ?_;try clear h
  apply aj;exact ip (cr (iG ab) (by decide))
  exact P m i (qk ab) (fun aa j=>by rw [j] at I;induction d<;>exact dy I) x
end
structure Dq(n:Nat)(XT:List Nat)(size:Nat)(op:Op)(t p:Nat):Prop where
 tl:op.b8=ar→t<n
 dh:p<size→∃h,XT[p]? =O h∧op.c0≤h∧(op.dR=b2→p+1<size∧XT[p+1]? =O (h-op.c0+op.fS))∧(op.b8=ar→t<size∧XT[t]? =O (h-op.c0+op.fS))
def SC{a:Op}(c:a.b8=ar):a.c0=(if a.cg then 1 else 0)+a.fS∧(a.cg=ar→a.fS=0∧a.dR=b2):=by induction a<;>first|exact ⟨rfl,fun d=>⟨rfl,rfl⟩⟩|exact ⟨rfl,fun b=>dy b⟩|exact dy c
def SD{a:W}(h:a.bV.b8=ar)(d:a.dh.cF ar=ar):a.a=.bX:=by
 refine bU fun c=>?_
 obtain ⟨e,i,f,g⟩:=a
 obtain ⟨b,_⟩:=iX.mp (show (dW f&&dW g&&ar)=ar by induction e<;>first|exact d|exact dy h)
 obtain ⟨b,_⟩:=iX.mp b
 refine c ?_;try clear c
 exact iA b
def Ps{a:Op}{i:Nat}{d e f:bl}{g:Int}{b:Bool}(c:R.cF ar ⟨a,0,d,e,f,0⟩=ar)(h:a=.j0→b=ar):R.cF b ⟨a,i,d,e,f,g⟩=ar:=by
 induction b with
 |true=>exact c
 |false=>induction a<;>first|exact c|exact absurd (h rfl) kx
section
variable{f:Nat}{h:Bool}{d:List W}{e:List Nat}{c b:Nat}{a:W}
def Pu(l:gf d e c)(y:d[b]? =O a)(w:a.bV.b8=ar)(G:a.g=b1):∃j s:Nat,e[b]? =O j∧(j:Int)-(if a.bV.cg then 1 else 0)=(s:Int)∧(∃z<c,e[z]? =O s)∧
  ∀i,i<c→e[i]? =O s→Dq d.length e c a.bV i b:=by
 obtain ⟨g,v⟩:=SC w
 by_cases n:b<c
 ·refine bU fun x=>?_
  obtain ⟨j,m,k,q,_⟩:=l.dh b a n y
  refine x ?_;try clear x
  have A:(j:Int)-(if a.bV.cg then 1 else 0)=((j-a.bV.c0+a.bV.fS:Nat):Int):=by
   clear v q
   generalize a.bV.c0=i at*
   generalize a.bV.fS=t at*
   generalize a.bV.cg=F at*
   induction F with
   |true=>
    have g:i=1+t:=g
    subst g
    exact Q8 k
   |false=>
    have g:i=0+t:=g
    subst g
    exact Q9 k
  refine ⟨j,j-a.bV.c0+a.bV.fS,m,A,?_,fun i p u=>⟨fun r=>hH p l.gm,fun r=>⟨j,m,k,q,fun r=>⟨p,u⟩⟩⟩⟩
  cases o:a.bV.cg
  ·rw [o] at g
   refine ⟨b,n,?_⟩
   refine bT m ?_
   congr 1
   rw [g] at k⊢
   rw [show (if b2=ar then 1 else 0)+a.bV.fS=a.bV.fS from kU _] at k⊢
   exact (uK k).symm
  ·exact ⟨b+1,q (v o).2⟩
 ·obtain ⟨o,m⟩:=(l.DI b a (ra n) y w).2 G
  refine ⟨1,0,m,by refine bT o ?_;rfl,⟨0,l.v2,l.d1⟩,fun i p u=>⟨fun r=>hH p l.gm,fun C=>absurd C n⟩⟩
def Pv(m:gf d e c)(o:d[b]? =O a)(n:a.bV.b8=ar){g:Nat}(j:a.g=O g):Dq d.length e c a.bV (b+g) b:=by
 by_cases k:b<c
 ·obtain ⟨s,q,p,r,i⟩:=m.dh b a k o
  exact ⟨fun l=>hH (i g n j).1 m.gm,fun l=>⟨s,q,p,r,fun l=>i g n j⟩⟩
 ·exact ⟨fun l=>(m.DI b a (ra k) o n).1 g j,fun i=>absurd i k⟩
def SE(l:gf d e c)(p:d[b]? =O a)(i:a.bV.b8=b2):Dq d.length e c a.bV 0 b:=
 ⟨fun g=>absurd (i▸g) kx,fun j=>by obtain ⟨o,m,k,n,_⟩:=l.dh b a j p;exact ⟨o,m,k,n,fun g=>absurd (i▸g) kx⟩⟩
end
def KC{k:cV→bS→KS→Prop}{m:List Nat}{o:Bool}{K:KS}:∀{f:List bl}(d:Nat→cV→bS→Prop),
  (∀(c:Nat)(e:bl)(b:cV)(a:bS)(g:cV→bS→Prop),f[c]? =O e→d c b a→(∀h l,d (c+1) h l→g h l)→jP b m o e fun h=>k h a (jQ g K))→
  ∀{b:cV}{a:bS},d 0 b a→(∀b a,d f.length b a→K .cc b a)→jZ k m o K f b a:=by
 intro f
 induction f with
 |nil=>
  intro _ _ _ _ i j
  exact j _ _ i
 |cons e t p=>
  intro d n _ _ i j
  exact n 0 e _ _ _ rfl i fun q q r=>p (fun c=>d (c+1)) (fun c e b a g s=>n (c+1) e b a g s) r j
def RH(a:bS)(b:dw)(c:List R):bS:=O b::(a++[O (.a3 (c.map eR))])
def V1{a:bS}{c:dw}{b:List R}{d:R}(e:b.length≤500):jk cq (RH a c b) .eJ (.cu (a.length+1)) [.f (eR d)] =O (.f .bX,RH a c (b++[d])):=by
 refine (io (a:=RH a c b) (b:=a.length+1) (en a _ _) (by rw [et];exact cr e (by decide))).trans ?_
 unfold RH
 (refine bT za ?_;rewrite [kk];refine bT r8 ?_);rfl
def nP(e:Nat)(g:List Nat)(d:Nat)(f:Bool)(b:List R):Prop:=(∀a∈b,a.cF f=ar)∧(∀(c:Nat)(a:R),b[c]? =O a→Dq e g d a.bV a.t c)
section
variable{d:Nat}{f:List Nat}{c:Nat}{e:Bool}{b:List R}(a:nP d f c e b)
include a
def nP.cF:∀g∈b,g.cF e=ar:=a.1
def nP.dh:∀(h:Nat)(g:R),b[h]? =O g→Dq d f c g.bV g.t h:=a.2
end
def nP.Zd{g:Nat}{j:List Nat}{e:Nat}{h:Bool}{b:List R}{d:R}(k:nP g j e h b)(l:d.cF h=ar)(m:Dq g j e d.bV d.t b.length):nP g j e h (b++[d]):=by
 refine ⟨fun i a=>?_,fun f i a=>?_⟩
 ·rcases my.mp a with a|a
  ·exact k.cF i a
  ·refine bT (ib.mp a) ?_;exact l
 ·by_cases c:f<b.length
  ·rw [ph c] at a
   exact k.dh f i a
  ·have c:=ra c
   rw [la c] at a
   have:=(fJ.mp a).1
   obtain rfl:f=b.length:=r6 (Tw (LV.mp this)) c
   rw [pg] at a
   obtain rfl:=dg a
   exact m
def KD(f:Nat)(g:bl)(j:List bl)(e:List W)(k:List Nat)(d h:Nat)(m b i a l c:Option bZ):cV:=[O (.cu 0),O (.f (.Z f)),O (.f g),O (.f (.a3 j)),O (.f (.a3 (e.map W.kO))),O (.f (.a3 (cU k))),O (.f (.Z d)),O (.cu (h+1)),m,b,i,b1,b1,a,l,c,b1]
def SI(o:Bool)(e:bS)(i:Option bZ→Option bZ→Option bZ→Option bZ→Option bZ→cV)(k:Nat)(q:List Nat)(h:Nat)(l:Bool)(n b:Nat)(j:cV)(p:bS):Prop:=∃(c:dw)(a:List R)(f m d r g:Option bZ),j=i f m d r g∧p=RH e c a∧GB o (n+2*b) c∧a.length=b∧nP k q h l a
section
variable{o:Nat}{n k:Bool}{e:List W}{i:List Nat}{h d:Nat}{c:W}{l:Nat}{m:bl}{j:List bl}
def FW{u:cK}{y:Nat}{p:dw}{b:bS}{g:List R}{P w ac Q:Option bZ}{X:cV→bS→Prop}{K:KS}{v:bl}{t:Nat}(T:u=vC cq (o+2))(ao:k=ar↔j≠ [])(aa:d≤20)(an:w=O (.f (.Z d)))(ab:Q=O (.f c.b))(G:GB n (y+2*(d+1)) p)(q:g.length=d)(W:nP e.length i h k g)
  (x:c.dh.cF ar=ar) (C:Dq e.length i h c.bV t d) (al:v=fa ⟨c.bV,t,c.a,c.b,.bX,d+1⟩) (L:∀Y A,SI n b (KD l m j e i h b.length P) e.length i h k y (d+1) Y A→X Y A):
  fG ⟨cq,u⟩ (fo 2 mm) (KD l m j e i h b.length P w ac (O (.f (.ad c.bV.cT))) (O (.f v)) Q) (RH b p g) (jQ X K):=by
 subst an ab
 have z:g.length≤500:=by refine bT q ?_;exact cr aa (by decide)
 refine AG (b:=⟨cq,u⟩) (a:=c.bV== .j0) (h:=j.isEmpty) (fun K r=>?_) (fun au K r=>?_) _ ?_
 ·rw [← gp] at r;exact r
 ·induction j with
  |nil=>apply aj;exact s6;exact r
  |cons v I=>apply aj;exact s7;exact r
 refine cD (fun a=>?_) fun a=>?_
 ·obtain ⟨s,aw⟩:=iX.mp a
  have s:=dr s
  apply aj;exact dK (a:=RH b p g) (b:=b.length+1) (en b _ _)
  refine bU fun F=>?_
  obtain ⟨av,aq,ay,ae⟩:=c
  subst s
  obtain ⟨af,_⟩:=iX.mp x
  obtain ⟨_,ai⟩:=iX.mp af
  obtain rfl:ae=.bX:=iA ai
  refine F ?_;try clear F
  refine pc T (o4 ..) ?_
  apply aj;exact V1 (d:=⟨.nv,0,.ad "u",.bX,.bX,d+1⟩) z
  refine L _ _ ⟨p,_,_,_,_,_,_,rfl,rfl,G,by (refine bT dZ ?_;refine bT q ?_);rfl,W.Zd (by induction k<;>kernel_rfl) (by refine bT q ?_;exact ⟨(fun f=>dy f),fun I=>by obtain ⟨ak,am,ag,ah,_⟩:=C.dh I;exact ⟨ak,am,ag,ah,(fun f=>dy f)⟩⟩)⟩
 ·apply aj;exact dK (a:=RH b p g) (b:=b.length+1) (en b _ _)
  refine pc T (o4 ..) ?_
  subst al
  apply aj;exact V1 (d:=⟨c.bV,t,c.a,c.b,.bX,d+1⟩) z
  refine L _ _ ⟨p,_,_,_,_,_,_,rfl,rfl,G,by (refine bT dZ ?_;refine bT q ?_);rfl,W.Zd (Ps x fun f=>?_) (q▸C)⟩
  have a:j.isEmpty=b2:=by
   rcases Bool.and_eq_false_iff.mp a with a|a
   ·rw [f] at a;exact dy a
   ·exact a
  exact ao.mpr fun f=>by rw [f] at a;exact dy a
def X0{Q:cK}{x:Nat}{X:dw}{r:bS}{u:List R}{W aq ai af am:Option bZ}{Y:cV→bS→Prop}{K:KS}(s:Q=vC cq (o+2))(p:gf e i h)(L:e.length≤20)(f:e[d]? =O c)(G:k=ar↔j≠ [])(ag:x+2*(d+1)≤5000)(y:GB n (x+2*d) X)(w:u.length=d)(F:nP e.length i h k u)
  (z:∀aa P,SI n r (KD l m j e i h r.length W) e.length i h k x (d+1) aa P→Y aa P):
  fG ⟨cq,Q⟩ mm (KD l m j e i h r.length W (O (.f (.Z d))) (O (.f c.kO)) ai af am) (RH r X u) (jQ Y K):=by
 have v:d≤20:=cr (iG (fJ.mp f).1) L
 have q:=p.cF d c f
 apply aj;exact AF _ c.bV
 have b:c.Hr=cond c.bV.b8 (gV c.g) c.a:=rfl
 generalize c.Hr=A at b⊢
 refine cD (fun C=>?_) fun C=>?_
 ·have a:=(kl c.bV).symm.trans C
  rw [a] at b
  have ay:=SD a q
  cases t:c.g with
  |none=>
   rw [t] at b
   refine bU fun g=>?_
   obtain rfl:A=.bX:=b
   obtain ⟨aw,az,an,ak,al,ao⟩:=Pu p f a t
   refine g ?_;try clear g
   refine ec s (XW p f an L ak al) ag y fun au av ae ac=>?_
   refine bU fun g=>?_
   obtain ⟨I,ab,ah,rfl⟩:=ac
   refine g ?_;try clear g
   exact FW (t:=I) s G v rfl rfl ae w F q (ao I ab ah) (by unfold fa;refine bT a ?_;rfl) z
  |some T=>
   rw [t] at b
   obtain rfl:A=.Z T:=b
   exact FW (t:=d+T) s G v rfl rfl (y.up (fg _ 2)) w F q (Pv p f a t) (by unfold fa;refine bT a ?_;rfl) z
 ·have a:=(kl c.bV).symm.trans C
  rw [a] at b
  obtain rfl:A=c.a:=b
  exact FW (t:=0) s G v rfl rfl (y.up (fg _ 2)) w F q (SE p f a) (by unfold fa;refine bT a ?_;rfl) z
end
noncomputable def FX(a:List Nat)(b:Nat):Nat:=a.getD b 0
def rX{a:List Nat}{c b:Nat}(d:a[c]? =O b):FX a c=b:=by unfold FX;(rewrite [Ca];refine bT d ?_);rfl
def xg{b:Cd}{d:Nat}{c:Option R}(g:b.nc.a2[d]? =O c):∃a,b.a2[d]? =O a∧c=O a:=by
 obtain ⟨a,e,f⟩:=o3 (h:=O) (a:=b.a2) g
 exact ⟨a,e,f.symm⟩
section
variable{a:List Nat}{c:Nat}{e:Bool}{b:List R}{d:List Ct}{f:List Nat}
def FY(n:nP b.length a c e b)(s:∀j∈d,ka a c j)(t:∀o∈f,o<c∧a[o]? =O 0){q:Nat}(i:cx (Cd.nc ⟨b,d,f⟩) q):q<c:=by
 induction i with
 |dH i=>exact (t _ i).1
 |lg i h _=>obtain ⟨p,_,k⟩:=xg h;exact cG k
 |eK i h j l=>
  refine bU fun g=>?_
  obtain ⟨p,h,k⟩:=xg h
  refine g ?_;try clear g
  obtain rfl:=dg k
  refine bU fun g=>?_
  obtain ⟨_,_,_,m,_⟩:=(n.dh _ _ h).dh l
  refine g ?_;try clear g
  exact (m j).1
 |cI i h j l=>
  refine bU fun g=>?_
  obtain ⟨p,h,k⟩:=xg h
  refine g ?_;try clear g
  obtain rfl:=dg k
  refine bU fun g=>?_
  obtain ⟨_,_,_,_,m⟩:=(n.dh _ _ h).dh l
  refine g ?_;try clear g
  exact (m j).1
 |dJ i h r j l=>exact (s _ r).tlt
def cov{g:Ct}{h:Nat}(j:g.c4 h=ar):g.d1≤h∧h<g.iz:=by
 obtain ⟨i,k⟩:=iX.mp j
 exact ⟨of_decide_eq_true i,of_decide_eq_true k⟩
def Jc(k:a.length=b.length)(o:∀g∈d,ka a c g)(n:c≤b.length){h:Nat}(l:h<c){g:Ct}(p:g∈d)(j:g.c4 h=ar):g.dG≤FX a h:=by
 obtain ⟨m,q⟩:=cov j
 have i:=gS (l:=a) (k▸hH l n:h<a.length)
 refine bT (rX i) ?_
 exact (o g p).C1 h _ m q i
def KF(z:a.length=b.length)(v:c≤b.length)(p:nP b.length a c e b)(m:∀l∈d,ka a c l)(r:∀t∈f,t<c∧a[t]? =O 0):eb (Cd.nc ⟨b,d,f⟩) (FX a) where
 dH h i:=rX (r h i).2
 kJ h i:=by
  show h<(b.map O).length
  rw [et];exact hH (FY p m r i) v
 lg h i k:=by obtain ⟨w,_,g⟩:=xg k;exact cG g
 dh h w i k:=by
  refine bU fun j=>?_
  obtain ⟨C,k,g⟩:=xg k
  refine j ?_;try clear j
  obtain rfl:=dg g
  have s:=FY p m r i
  refine bU fun j=>?_
  obtain ⟨G,A,n,y,x⟩:=(p.dh h w k).dh s
  refine j ?_;try clear j
  have o:=rX A
  refine ⟨o.symm▸n,fun g=>?_,fun g=>?_,fun l q u=>rX (m l q).tgt,fun F l q u=>Jc z m v s q u⟩
  ·(refine bT o ?_;refine bT (rX (y g).2) ?_;rewrite [nS];refine bT (uK n) ?_;rfl)
  ·(refine bT o ?_;refine bT (rX (x g).2) ?_;rewrite [nS];refine bT (uK n) ?_;rfl)
def km(h:Hd)(g:Cd)(e:Bool)(a:List Nat):Prop:=(jn h g e (FX a))∧(a.length=g.a2.length)∧(i3 g)
section
variable{k:Hd}{h:Cd}{j:Bool}{i:List Nat}(g:km k h j i)
include g
def km.k3:jn k h j (FX i):=g.1
def km.cC:i.length=h.a2.length:=g.2.1
def km.jS:i3 h:=g.2.2
end
def X1{n:Hd}(G:n.dm=.ad "block"∨n.dm=.ad "method")(C:∃F x,n.gc=.a3 [F,x])(w:b.length≤20)(l:a.length=b.length)(k:c≤b.length)(o:nP b.length a c e b)(A:d.length≤2)(i:∀h∈d,ka a c h)(z:f.length≤2)(t:f≠ [])(s:∀m∈f,m<c∧a[m]? =O 0):km n ⟨b,d,f⟩ e a:=by
 have v:∀j∈b,j.bV.b8=ar→j.t<b.length:=fun j p q=>by
  obtain ⟨u,r⟩:=yA p
  exact (o.dh u j r).tl q
 exact ⟨⟨G,C,o.cF,v,fun h g=>⟨(i h g).mF,(i h g).jL,l▸(i h g).gm,hH (i h g).tlt k⟩,t,KF l k o i s,fun u r h g y=>Jc l i k (FY o i s r) g y,w,cr A (by decide),cr z (by decide)⟩,l,
  ⟨fun j p q=>iG (v j p q),fun h g=>⟨(i h g).jL,l▸(i h g).gm,iG (hH (i h g).tlt k)⟩,fun m g=>iG (hH (s m g).1 k),t⟩⟩
end
noncomputable def iW(b:bl)(a:List bl):Hd:=⟨b,.ad "c",.bX,.a3 [.ad "x",.ad "y"],a⟩
def Ze(g:Nat)(b:bl)(c:List bl)(f:Bool)(e:bl):Prop:=∃a d,km (iW b c) a f d∧a.a2.length≤g∧e=.cQ [cf (iW b c) a,.a3 (cU d)]
def SF{a:gB}{c:cV}{d:bS}{b:cW}{K:KS}(e:fG a b c d K):fG a .N c d (Dk (fG a b) K):=e
def aaL{a:bS}{b:dw}{c:List R}:Wn (RH a b c) (.cu (a.length+1))=O (.f (.a3 (c.map eR)),O b::(a++[b1])):=by
 refine (js (a:=RH a b c) (c:=a.length+1) (en a _ _)).trans ?_
 unfold RH
 (refine bT za ?_;rw [kk])
def SG{l:gB}{a:bS}{K:KS}{h b f e c g d j m:Option bZ}{i:cV}(k:K .cc (h::b::f::e::c::g::d::O (.cu a.length)::O (.f (.a3 (cU [0])))::i) (a++[O (.a3 [])])):vS l (.ep [7,8] (.J (.a3 b2 .N) (.J (.a3 ar (.J (.Z 0) .N)) .N))) (h::b::f::e::c::g::d::j::m::i) a K:=by
 refine aj (g4 (a:=a) (b:=[]) (fy _)) ?_
 exact k
section
variable{j:Nat}{h g:Bool}{i:List W}{a:List Nat}{b:Nat}{d:Nat}{c:bl}{e:List bl}
def Jd{u:cK}{n:Nat}{x ag:dw}{l:bS}{f:List R}{k:List Nat}{A I F Q ab L ai:Option bZ}{v:KE}(y:u=vC cq (j+2))(am:c=.ad "block"∨c=.ad "method")(z:f.length≤d)(q:f.length≤20)(m:a.length=f.length)(T:0<b)(o:b≤f.length)(ak:nP f.length a b g f)(Y:k.length≤2)(C:k≠ [])(an:∀r∈k,r<b∧a[r]? =O 0)(P:n+9≤5000)(ac:GB h n x)
  (K:∀(s:dw)(p:bl)(t:bS),GB h (n+9) s→Ze d c e g p→t=O s::l→v (.f p) t):
  fG ⟨cq,u⟩ (fo 4 (AV uf)) [O (.cu 0),O (.f (.Z d)),O (.f c),O (.f (.a3 e)),O (.f (.a3 (i.map W.kO))),O (.f (.a3 (cU a))),O (.f (.Z b)),O (.cu (l.length+1)),O (.f (.a3 (cU k))),A,I,F,Q,ab,L,ai,b1] (RH l x f) (lG b2 (O ag::l).length v):=by
 apply aj;exact aaL
 have aa:a.length≤20:=m▸q
 refine ec y (KB aa (hH T (m▸o)) (m▸o)) P ac fun X p G ae=>?_
 refine bU fun w=>?_
 obtain ⟨af,al,ah,rfl⟩:=ae
 refine w ?_;try clear w
 refine pc y (DX ..) ?_
 exact K X _ _ G ⟨⟨f,af,k⟩,a,X1 am ⟨_,_,rfl⟩ q m o ak al ah Y C an,z,rfl⟩ Hp
def SH{n:Nat}{p:bl}(k:p∈([.a3 (cU [0]),.a3 (cU [0,n]),.a3 (cU [n]),.a3 (cU [n,0])] :List bl)):∃o:List Nat,p=.a3 (cU o)∧o.length≤2∧o≠ [] ∧∀m∈o,m=0∨m=n:=by
 rcases eP.mp k with rfl|k
 ·exact ⟨_,rfl,er rfl,(fun f=>nomatch f),fun m l=>.inl (ib.mp l)⟩
 rcases eP.mp k with rfl|k
 ·exact ⟨_,rfl,er rfl,(fun f=>nomatch f),fun m l=>(eP.mp l).imp id ib.mp⟩
 rcases eP.mp k with rfl|k
 ·exact ⟨_,rfl,er rfl,(fun f=>nomatch f),fun m l=>.inr (ib.mp l)⟩
 refine bT (ib.mp k) ?_
 exact ⟨_,rfl,er rfl,(fun f=>nomatch f),fun m l=>((eP.mp l).imp id ib.mp).symm⟩
def Je(aQ:2≤d)(aq:d≤20)(an:c=.ad "block"∨c=.ad "method")(aM:g=ar↔e≠ []):EC (vC cq (j+8)) 53 [.cu 0,.f (.Z d),.f c,.f (.a3 e)] h 93 (Ze d c e g):=FS rfl rfl rfl rfl fun aX r s aZ R a7 q aR T=>by
 refine ec r (Sx aQ aq) (jr q 42 (by decide)) aR fun X Q aP v=>?_
 refine bU fun f=>?_
 obtain ⟨i,a,b,l,I,rfl⟩:=v
 refine f ?_;try clear f
 have u:=cr I aq
 refine SG (a:=O X::R) ?_
 apply aj;exact m3 (cr u (by decide))
 refine KC (SI h R (KD d c e i a b R.length (O (.f (.a3 (cU [0]))))) i.length a b g (s+42)) (fun aI Q aS aB aY av z aE=>?_) ⟨X,[],_,_,_,_,_,rfl,rfl,aP,rfl,(fun af n=>absurd n gD),fun af af n=>cG n⟩ fun aS aB z=>?_
 ·refine bU fun f=>?_
  obtain ⟨aA,P,rfl⟩:=xM av
  obtain ⟨aV,ao,rfl⟩:=o3 P
  obtain ⟨al,F,aN,ah,ab,W,ag,rfl,rfl,p,m,t⟩:=z
  refine f ?_;try clear f
  have aO:aI+1≤20:=cr (fJ.mp ao).1 u
  exact X0 (aq:=ah) (ai:=ab) (af:=W) (am:=ag) r l u ao aM (cr (jq (v9 2 aO) (s+42)) (jr q 82 (by decide))) p m t aE
 ·rw [DS,et] at z
  refine bU fun f=>?_
  obtain ⟨al,F,aN,ah,ab,W,ag,rfl,rfl,p,m,t⟩:=z
  refine f ?_;try clear f
  have p:GB h (s+82) al:=p.up (jq (v9 2 u) (s+42))
  rw [← m] at t
  have G:a.length=F.length:=l.cC.trans m.symm
  have x:b≤F.length:=m.symm▸l.gm
  have C:F.length≤20:=m.symm▸u
  have aJ:∀k∈ [0],k<b∧a[k]? =O 0:=fun k o=>by refine bT (ib.mp o) ?_;exact ⟨l.v2,l.d1⟩
  apply aj;exact AY p
  refine cD (fun aD=>?_) fun aD=>?_
  ·have aa:b≤20:=cr x C
   have aH:a.length≤20:=G▸C
   apply aj;exact ip (cr aa (by decide))
   rw [rD]
   refine k6 e8 (fun k=>a[k]? ==O 0) e8 (fun k a6 K o am ai=>?_) ?_
   ·have ac:k<a.length:=hH (nf.mp o) (G▸x)
    apply aj;exact hB (gS ac) (cr aH (by decide))
    have n:(a[k]? ==O 0)=((a[k] :Int)==0):=by
     rw [gS ac]
     exact Ja (a:=0)
    rw [n] at am ai
    exact cD am ai
   generalize w:(f5 b).filter (fun k=>a[k]? ==O 0)=A
   have au:∀k∈A,k<b∧a[k]? =O 0:=fun k o=>by
    obtain ⟨ay,aF⟩:=l3.mp (w▸o)
    exact ⟨nf.mp ay,dr aF⟩
   have y:A.length≤20:=by
    refine gT w ?_
    exact cr (r7 _ _) (by refine bT pk ?_;exact aa)
   have aw:0<A.length:=by
    refine List.length_pos_of_mem (a:=0) (w▸l3.mpr ⟨nf.mpr l.v2,beq_iff_eq.mpr l.d1⟩)
   clear w
   apply aj;exact lh (c:=e8) (cr y (by decide))
   apply aj;exact eZ (d:=e8) (cr y (by decide))
   refine ec r (f7 aw (kT y (by decide))) (jr q 83 (by decide)) p fun a4 Q aG v=>?_
   refine bU fun f=>?_
   obtain ⟨ak,ae,rfl⟩:=v
   refine f ?_;try clear f
   apply aj;exact hB (d:=e8) (gS ae) (cr y (by decide))
   have Y:=au _ (vR ae)
   generalize A[ak] =L at Y⊢
   refine ec r (f7 (c:=4) (by decide) (by decide)) (jr q 84 (by decide)) aG fun a5 Q aT v=>?_
   refine bU fun f=>?_
   obtain ⟨ak,aL,rfl⟩:=v
   obtain ⟨aA,P,aU⟩:=Hq (a:=[.a3 (cU [0]),.a3 (cU [0,L]),.a3 (cU [L]),.a3 (cU [L,0])]) aL (er rfl)
   refine f ?_;try clear f
   apply aj;exact aU _
   refine bU fun f=>?_
   obtain ⟨aW,rfl,az,aK,aC⟩:=SH P
   refine f ?_;try clear f
   exact Jd (n:=s+84) r an (m.symm▸I) C G l.v2 x t az aK (fun k o=>by
    rcases aC k o with rfl|rfl
    ·exact ⟨l.v2,l.d1⟩
    ·exact Y) q aT T
  ·refine SF ?_
   exact Jd (n:=s+84) r an (m.symm▸I) C G l.v2 x t (k:=[0]) (by decide) (fun n=>nomatch n) aJ q (p.up (fg _ 2)) T
end
def SJ(a:Nat):∃b:Nat,pO a ((10:Int)^(90:Int).toNat)=b:=by
 obtain ⟨b,c⟩:=UE (Int.fmod_nonneg (a:=a) (b:=(10:Int)^(90:Int).toNat) (sb a) (Int.pow_nonneg (by decide)))
 exact ⟨b,c⟩
section
variable{b:Nat}{a:List Int}
def Em{c:Nat}(f:a.length≤63)(e:c≤1000)(d:bS):jY d ar (.f (.a3 (a.map .Z))) (.f .bX) (.f (.Z c))=O (.f (.a3 ((a.take c).map .Z)),d):=by
 refine bT Mh ?_
 exact xU rfl (by rw [et];exact cr f (by decide)) e
def aaM{i:bS}{c:List Int}{e:Int→Int}:∃d:Nat,eW i ar 2 [.f (.a3 (.Z 0::c.map fun g=>.Z (e g)))] =O (.f (.Z d),i):=by
 have g:∀c:List Int,Cz (c.map fun g=>.Z (e g))=O (c.map e):=fun c=>by
  induction c with
  |nil=>rfl
  |cons d c h=>exact congrArg (nG (e d:: ·)) h
 have k:∀(c:List Int)(f:Int),f≤c.foldl max f:=fun c=>by
  induction c with
  |nil=>exact fun f=>Int.le_refl f
  |cons d c h=>exact fun f=>t6 (Int.le_max_left f d) (h _)
 obtain ⟨d,l⟩:=UE (k (c.map e) 0)
 refine ⟨d,(congrArg (fun j=>jG (nG (0:: ·) j) _) (g c)).trans ?_⟩
 show O (bZ.f (.Z ((c.map e).foldl max 0)),i)=_
 (refine bT l ?_;rfl)
def aaN(q:a.length≤63)(n:KE)(w:∀(u:dw)(f:Bool),GB f 0 u→n (.cu 0) [O u]):vC cq (b+1) 39 [.f (.a3 (a.map .Z))] [] n:=Hi (fun z Y=>by
 apply aj;exact Em (c:=1) q (by decide) _
 have k:(a.take 1).length≤1:=Ch _ _
 apply aj;exact ef (cr k (by decide))
 refine iD .Z (fun e=>.Z (e-(10:Int)^(18:Int).toNat)) (fun e R K T F=>F) ?_
 apply aj;exact lh (cr k (by decide))
 apply aj;exact lw (b:=.Z 0::(a.take 1).map fun e=>.Z (e-(10:Int)^(18:Int).toNat)) (iF (by rw [et];exact cr k (by decide)))
 obtain ⟨i,I⟩:=aaM (i:=[]) (c:=a.take 1) (e:=fun e=>e-(10:Int)^(18:Int).toNat)
 apply aj;exact I
 obtain ⟨G,L⟩:=SJ i
 apply aj;exact Em (c:=24) q (by decide) _
 apply aj;exact ef (cr (Ch _ _) (by decide))
 refine wo (fun p l=>∃(c:Nat)(g:Option bZ),c<2 ^ 31∧p=[O (.f (.a3 (a.map .Z))),g,O (.f (.Z (pO i ((10:Int)^(90:Int).toNat)))),O (.f (.Z c)),b1] ∧l=[]) (fun W p l X x j C=>?_) ⟨33023,b1,by decide,rfl,rfl⟩ fun p l j=>?_
 ·obtain ⟨e,_,rfl⟩:=hJ.mp x
  obtain ⟨c,g,r,rfl,rfl⟩:=j
  obtain ⟨v,_,Q⟩:=M6 (d:=c) (f:=48271) (iG r) (by decide:(48271:Int).natAbs≤48271) (by decide) (by decide)
  apply aj;exact Q _ _
  obtain ⟨d,P,y⟩:=wE (d:=v+e) (c:=2147483629) (by decide)
  exact C _ _ ⟨d,_,LX P (by decide),congrArg (fun o=>[_,_,_,O (bZ.f (.Z o)),b1]) y,rfl⟩
 ·obtain ⟨c,g,r,rfl,rfl⟩:=j
  have h:a.length≤500:=cr q (by decide)
  have m:∃f:Bool,VB ⟨cq,z⟩ (.hK (.J (.b7 (.bW 0) (.J .cZ (.a3 ar .N) .N)) (.J (.ev (.J (.b7 (.b0 ar (.b5 12) (.J (.bW 0) .N)) (.J .cZ (.Z 1) .N)) (.J (.b7 (.b0 ar (.b5 42) (.J (.cL (.bW 0) (.Z 0)) .N)) (.J .jL (.Z 10) .N)) .N))) .N))) [O (.f (.a3 (a.map .Z))),g,O (.f (.Z (pO i ((10:Int)^(90:Int).toNat)))),O (.f (.Z c)),b1] [] f:=by
   match a,h with
   |[],_=>exact ⟨ar,fun K d=>by
    apply aj;exact s6
    exact d⟩
   |s::t,h=>exact ⟨_,VN (a:=b2) (h:=((t.length+1:Nat):Int)==1&&dY ((s.natAbs:Int)<10)) (fun K d=>by
    apply aj;exact s7
    exact d) fun A=>AG (fun K d=>by
    apply aj;exact eZ (d:=bl.Z) h
    exact d) fun A K d=>by
    apply aj;exact hB (b:=s::t) (d:=bl.Z) (e:=0) rfl h
    exact d⟩
  obtain ⟨f,m⟩:=m
  refine m _ ?_
  apply aj;exact g4 (er rfl)
  refine c8 (b:=n) (w (.a3 [.Z (pO i ((10:Int)^(90:Int).toNat)),.Z c,.Z 0,.b3 f]) f ⟨G,c,0,congrArg (fun o=>dw.a3 [.Z o,.Z c,.Z 0,.b3 f]) L,r,dX 0⟩) rfl) rfl rfl rfl rfl
end
def sx(d c:Cd):Prop:=∀a∈c.b6,∃b∈d.b6,a.mF=b.mF∧a.dG=b.dG
def sx.cX(c:Cd)(e:cb):sx c (c.cX e):=fun h g=>by
 refine bU fun b=>?_
 obtain ⟨d,f,a⟩:=Gn.mp g
 refine b ?_;try clear b
 unfold Ct.fI at a
 split at a
 ·refine gT (dg a) ?_;exact ⟨d,f,rfl,rfl⟩
 ·exact cG a
def sx.ci{a b c:Cd}(n:sx a b)(k:sx b c):sx a c:=fun g o=>by
 obtain ⟨f,e,m,j⟩:=k g o
 obtain ⟨i,h,d,l⟩:=n f e
 exact ⟨i,h,m.trans d,j.trans l⟩
def A0(a:Cd):sx a (ig a):=(((((((sx.cX a _).ci (.cX _ _)).ci (.cX _ _)).ci (.cX _ _)).ci (.cX _ _)).ci (.cX _ _)).ci (.cX _ _)).ci (.cX _ _)
def En:∀(b:Nat)(a:Cd),sx a (d5 b a):=by
 intro b
 induction b with
 |zero=>
  intro a
  exact fun b c=>⟨b,c,rfl,rfl⟩
 |succ b d=>
  intro a
  unfold d5
  split
  ·exact A0 a
  ·exact (A0 a).ci (d _)
section
variable{c e:Hd}{a:Cd}{b:Bool}{d:List Nat}
def km.hM(f:km c a b d):kL a b:=⟨⟨⟨_,f.k3.gK⟩,fun i g h=>f.k3.a2 g (gj (dF.mp h))⟩,f.jS,f.k3.iV⟩
def km.KG(g:km c a b d)(f:a.a2.length≤10):gR (d5 24 a) b∧fH a.nc (d5 24 a).nc:=
 Rx 24 g.hM (iF (cr (pH f (cr T2 f)) (by decide)))
def Pw{f:bl}(c:f=.ad "rescue"∨f=.ad "ensure"):gh f=ar:=by rcases c with rfl|rfl<;>rfl
def km.C8(g:km c a b d):s5 a:=fun h f=>Pw (g.k3.b6 h f).mF
def km.NW(j:km c a b d)(f:Nat):s5 (d5 f a):=fun g k=>by
 obtain ⟨h,i,l,_⟩:=En f a g k
 refine bT l ?_;exact j.C8 h i
def oQ(h:gR a b):∀f∈a.a2,f.cF b=ar:=fun f g=>by
 obtain ⟨j,i⟩:=yA g
 exact h.hM.cF.cF j f (dF.mpr i)
def rE(i:g0 a)(h:Bd a):∀f∈a.a2,f.bV.b8=ar→f.t≤1000:=fun f g j=>cr (iG (i f g j)) (cr h.a2 (by decide))
def Eo(i:km c a b d)(u:a.a2.length≤10)(w:∀h∈a.b6,h.dG=0)(f:e.dm=.ad "block"∨e.dm=.ad "method")(z:∃y t,e.gc=.a3 [y,t]):∃j,jn e (d5 24 a) b j:=by
 have g:=(i.KG u).1
 have r:=En 24 a
 have v:=BK 24 i.hM i.k3.bd
 generalize d5 24 a=p at*
 obtain ⟨j,s⟩:=g.hM.cF.gK
 refine ⟨j,f,z,oQ g,g.hM.gH,fun h f=>?_,g.hM.jS.Aq,s,fun A x h f x=>?_,v⟩
 ·obtain ⟨l,k,m,_⟩:=r h f
  obtain ⟨n,q,_⟩:=g.hM.jS.b6 h f
  have o:=hH n q
  refine ⟨m▸(i.k3.b6 l k).mF,n,q,?_⟩
  have:=s.kJ _ (.dJ (g.J5.2 _ o) (dF.mpr (gS o)) f (by unfold Ct.c4;(refine bT (decide_eq_true (dX _)) ?_;refine bT (decide_eq_true n) ?_);rfl))
  rw [show p.nc.a2=p.a2.map O from rfl,et] at this
  exact this
 ·obtain ⟨l,k,_,m⟩:=r h f
  (refine bT m ?_;refine bT (w l k) ?_);exact fy _
end
noncomputable def Dr:List b4:=["threaded","known branches","turned branches","short jumps","dead rows","pushes","copies","swaps"]
noncomputable def Ds:List b4:=["copies","dead rows","known branches","pushes","short jumps","swaps","threaded","turned branches"]
def KH(a b c:b4)(d:ie a b=ar)(e:ie b c=ar):ie a c=ar:=decide_eq_true (Mi (of_decide_eq_true d) (of_decide_eq_true e))
def KI(b a:b4):(ie b a||ie a b)=ar:=by
 rcases Um b.cps.toList a.cps.toList with c|c
 ·exact nR.mpr (.inl (decide_eq_true c))
 ·exact nR.mpr (.inr (decide_eq_true c))
def Px:Dr.mergeSort ie=Ds:=
 U3 (le:=fun b a=>ie b a=ar) (fun b a d c=>(show∀b∈Dr,∀a∈Ds,ie b a=ar→ie a b=ar→b=a by decide+kernel) b ((L6 Dr ie).mem_iff.mp d) a c) (TW KH KI Dr) (by decide+kernel) ((L6 Dr ie).trans (by decide+kernel))
def Py{a:bS}:eW a ar 7 [.f (.a3 (Dr.map .ad))] =O (.f (.a3 (Ds.map .ad)),a):=by
 show iI a ar ((Dr.mergeSort ie).map .ad)=_
 refine bT Px ?_
 exact lh (er rfl)
def mc(a:pd):Prop:=(a.1=iW (.ad "block") [])∧(∃b,km a.1 a.2 b2 b)∧(a.2.a2.length≤10)
section
variable{a:pd}(b:mc a)
include b
def mc.hd:a.1=iW (.ad "block") [] :=b.1
def mc.cF:∃c,km a.1 a.2 b2 c:=b.2.1
def mc.n:a.2.a2.length≤10:=b.2.2
end
def v3{b:bl}(d:gh b=ar)(c:List bl):tF (iW b c):=⟨d,rfl,rfl,[.ad "x",.ad "y"],rfl,er rfl,fun e a=>by
 rcases eP.mp a with rfl|a
 ·rfl
 ·refine bT (ib.mp a) ?_;rfl⟩
section
variable{b:pd}
def mc.bX(K:mc b):b.1.fB=[] :=by refine bT K.hd ?_;rfl
def mc.hdo(K:mc b):tF b.1:=by refine bT K.hd ?_;exact v3 rfl _
def mc.zG(K:mc b):uq b:=by obtain ⟨_,e⟩:=K.cF;exact ⟨e.hM,e.k3.bd,K.bX⟩
def mc.WD(K:mc b):wz b:=by obtain ⟨_,e⟩:=K.cF;exact ⟨K.hdo,e.k3.bd,e.k3.a2,rE e.k3.iV e.k3.bd,K.bX⟩
def mc.WE(K:mc b):Dp b:=by obtain ⟨_,e⟩:=K.cF;exact ⟨⟨_,e.k3⟩,K.bX,by refine bT K.hd ?_;rfl⟩
def mc.iQ(K:mc b):k1 10 (nO b.1 b.2 []):=by obtain ⟨_,e⟩:=K.cF;exact rB (i:=5) K.hdo e.C8 e.k3.a2 fun g f=>absurd f gD
def md(f:Hd)(e:Cd)(g:Prop):Prop:=(gR e b2)∧(Bd e)∧(s5 e)∧(f=iW (.ad "block") [])∧(g→∃h,jn f e b2 h)
section
variable{g:Hd}{f:Cd}{h:Prop}(e:md g f h)
include e
def md.ly:gR f b2:=e.1
def md.bd:Bd f:=e.2.1
def md.C8:s5 f:=e.2.2.1
def md.hd:g=iW (.ad "block") [] :=e.2.2.2.1
def md.k3:h→∃a,jn g f b2 a:=e.2.2.2.2
end
def mc.aci(K:mc b):∃e,h7 b=(b.1,e)∧fH b.2.nc e.nc∧md b.1 e (∀j∈b.2.b6,j.dG=0):=by
 obtain ⟨_,f⟩:=K.cF
 have g:=f.KG K.n
 have k:=BK 24 f.hM f.k3.bd
 have i:=f.NW 24
 have m:=fun h=>Eo (e:=b.1) f K.n h (.inl (by refine bT K.hd ?_;rfl)) ⟨.ad "x",.ad "y",by refine bT K.hd ?_;rfl⟩
 have l:h7 b=(b.1,d5 24 b.2):=by unfold h7;with_reducible rfl
 generalize d5 24 b.2=e at*
 exact ⟨e,l,g.2,g.1,k,i,K.hd,m⟩
variable{c:Hd}{a:Cd}{d:Prop}
def md.bX(e:md c a d):c.fB=[] :=by refine bT e.hd ?_;rfl
def md.acj(e:md c a d):Do (c,a):=⟨e.ly,e.bd,e.bX⟩
def md.zG(e:md c a d):uq (c,a):=⟨e.ly.hM,e.bd,e.bX⟩
def md.WD(e:md c a d):wz (c,a):=⟨by refine bT e.hd ?_;exact v3 rfl _,e.bd,oQ e.ly,rE e.ly.hM.gH e.bd,e.bX⟩
def md.WE(e:md c a d)(f:d):Dp (c,a):=⟨e.k3 f,e.bX,by refine bT e.hd ?_;rfl⟩
def md.iQ(e:md c a d):k1 10 (nO c a []):=rB (i:=5) (by refine bT e.hd ?_;exact v3 rfl _) e.C8 (oQ e.ly) fun f d=>absurd d gD
end
section
variable{b:bS}{a:bl}
def BS(e:k1 12 a)(d:∃c,a=.a3 c):fh cq b .ne (.f a) (.f a)=O b2:=by
 obtain ⟨c,rfl⟩:=d
 show (lE (.a3 c) (.a3 c)).map _=_
 unfold lE
 refine bT (show nt k5 (.a3 c) (.a3 c)=O ar from e) ?_;rfl
def SK(e:k1 12 a)(d:∃c,a=.a3 c):fh cq b .cZ (.f a) (.f a)=O ar:=by
 obtain ⟨c,rfl⟩:=d
 show lE (.a3 c) (.a3 c)=_
 unfold lE
 exact e
def KJ(g:Nat)(f:Nat→Nat)(c:Nat→Bool):kN (iN g f c):=fun i e=>by
 refine bU fun d=>?_
 obtain ⟨h,_,rfl⟩:=hJ.mp e
 refine d ?_;try clear d
 unfold oP
 cases c h<;>exact fC rfl
end
abbrev fL:=Hd×Cd×Cd
def fL.f(a:fL):bl:=cf a.1 a.2.1
def fL.g(a:fL):bl:=cf a.1 a.2.2
def lJ(c:cK)(a:List fL)(b:Hd)(f d:Cd)(h j:List Nat)(i k:List bl):Prop:=(PC c 54 [.f (cf (b.wk (a.map fL.f)) f)] (.a3 i))∧(PC c 54 [.f (cf (b.wk (a.map fL.g)) d)] (.a3 k))∧(k1 12 (.a3 i))∧(k1 12 (.a3 k))∧(PC c 55 [.f (cf (b.wk (a.map fL.f)) f)] (.a3 (cU j)))∧(PC c 63 [.f (cf (b.wk (a.map fL.f)) f)] (.a3 (iN h.length (FX h) fun l=>j.contains l)))∧(PC c 36 [.f (cf (b.wk (a.map fL.f)) f)] (cf (b.wk (a.map fL.g)) d))∧(PC c 36 [.f (cf (b.wk (a.map fL.g)) d)] (cf (b.wk (a.map fL.g)) d))∧(PC c 59 [.f (cf (b.wk (a.map fL.g)) d)] (.b3 ar))∧(PC c 62 [.f (cf (b.wk (a.map fL.f)) f),.f (cf (b.wk (a.map fL.g)) d)] (.b3 ar))∧(∀e∈a,PC c 59 [.f e.g] (.b3 ar))∧(∀e∈a,PC c 62 [.f e.f,.f e.g] (.b3 ar))∧(∀m∈Ds,PC c 38 [.f (cf (b.wk (a.map fL.g)) d),.f (.a3 [.ad m])] (cf (b.wk (a.map fL.g)) d))∧((∀g∈f.b6,g.dG=0)→(∀e∈a,∀g∈e.2.1.b6,g.dG=0)→∃o n,PC c 63 [.f (cf (b.wk (a.map fL.g)) d)] (.a3 (iN o n fun p=>ar)))∧(h.length≤20)∧(a.length≤5)∧(f.b6.length≤8)∧(∀e∈a,e.2.1.b6.length≤8)
section
variable{d:cK}{a:List fL}{c:Hd}{h e:Cd}{i k:List Nat}{j l:List bl}(b:lJ d a c h e i k j l)
include b
def lJ.V2:PC d 54 [.f (cf (c.wk (a.map fL.f)) h)] (.a3 j):=b.1
def lJ.Na:PC d 54 [.f (cf (c.wk (a.map fL.g)) e)] (.a3 l):=b.2.1
def lJ.s1:k1 12 (.a3 j):=b.2.2.1
def lJ.s2:k1 12 (.a3 l):=b.2.2.2.1
def lJ.ack:PC d 55 [.f (cf (c.wk (a.map fL.f)) h)] (.a3 (cU k)):=b.2.2.2.2.1
def lJ.acl:PC d 63 [.f (cf (c.wk (a.map fL.f)) h)] (.a3 (iN i.length (FX i) fun f=>k.contains f)):=b.2.2.2.2.2.1
def lJ.KG:PC d 36 [.f (cf (c.wk (a.map fL.f)) h)] (cf (c.wk (a.map fL.g)) e):=b.2.2.2.2.2.2.1
def lJ.aaO:PC d 36 [.f (cf (c.wk (a.map fL.g)) e)] (cf (c.wk (a.map fL.g)) e):=b.2.2.2.2.2.2.2.1
def lJ.ly:PC d 59 [.f (cf (c.wk (a.map fL.g)) e)] (.b3 ar):=b.2.2.2.2.2.2.2.2.1
def lJ.je:PC d 62 [.f (cf (c.wk (a.map fL.f)) h),.f (cf (c.wk (a.map fL.g)) e)] (.b3 ar):=b.2.2.2.2.2.2.2.2.2.1
def lJ.aaP:∀f∈a,PC d 59 [.f f.g] (.b3 ar):=b.2.2.2.2.2.2.2.2.2.2.1
def lJ.aaQ:∀f∈a,PC d 62 [.f f.f,.f f.g] (.b3 ar):=b.2.2.2.2.2.2.2.2.2.2.2.1
def lJ.acm:∀f∈Ds,PC d 38 [.f (cf (c.wk (a.map fL.g)) e),.f (.a3 [.ad f])] (cf (c.wk (a.map fL.g)) e):=b.2.2.2.2.2.2.2.2.2.2.2.2.1
def lJ.iz:(∀f∈h.b6,f.dG=0)→(∀n∈a,∀f∈n.2.1.b6,f.dG=0)→∃m g,PC d 63 [.f (cf (c.wk (a.map fL.g)) e)] (.a3 (iN m g fun o=>ar)):=b.2.2.2.2.2.2.2.2.2.2.2.2.2.1
def lJ.nh:i.length≤20:=b.2.2.2.2.2.2.2.2.2.2.2.2.2.2.1
def lJ.nT:a.length≤5:=b.2.2.2.2.2.2.2.2.2.2.2.2.2.2.2.1
def lJ.nk:h.b6.length≤8:=b.2.2.2.2.2.2.2.2.2.2.2.2.2.2.2.2.1
def lJ.nkt:∀f∈a,f.2.1.b6.length≤8:=b.2.2.2.2.2.2.2.2.2.2.2.2.2.2.2.2.2
end
section
variable{j:cK}{a:List fL}{c:Hd}{h k:Cd}{b e:List Nat}{l m:List bl}(d:lJ j a c h k b e l m){i:bS}
def rF(a:List fL)(c:Hd)(h:Cd)(b:List Nat)(s g q n r t f p o:Option bZ):cV:=[s,g,O (.f (.a3 (a.map fL.f))),q,n,r,O (.f (cf (c.wk (a.map fL.f)) h)),O (.f (.a3 (cU b))),t,f,p,o,b1,b1,b1,b1,b1,b1]
include d
def aaR{K:KS}{t q u s r:Option bZ}(f:K .cc (rF a c h b t q b1 b1 b1 u (O (.f (.a3 (cU e)))) s r) i):
  vS ⟨cq,j⟩ (.cB (.b7 (.b0 ar (.b5 76) (.J (.bW 6) .N)) (.J .ne Aa .N)) (.J (.cw (.b3 b2)) .N) .N) (rF a c h b t q b1 b1 b1 u (O (.f (.a3 (cU e)))) s r) i K:=by
 refine pc rfl d.acl ?_
 apply aj;exact eZ (d:=e8) (cr d.nh (by decide))
 apply aj;exact ip (cr d.nh (by decide))
 rw [rD]
 refine iD e8 (oP (FX b) fun o=>e.contains o) (fun g w K v f=>?_) ?_
 ·apply aj;exact RV e g
  have p:g<b.length:=nf.mp v
  have f:K (w++[cond (e.contains g) (.Z (FX b g)) .bX]) i:=f
  refine cD (fun n=>?_) fun n=>?_
  ·rw [n,rX (gS p)] at f
   apply aj;exact hB (d:=e8) (gS p) (cr d.nh (by decide))
   exact f
  ·rw [n] at f
   exact f
 apply aj;exact lh (cr (jH pk) (cr d.nh (by decide)))
 apply aj;exact BM (KJ b.length (FX b) fun o=>e.contains o)
 exact f
def aaS{K:KS}{q n r g p o:Option bZ}(t:K .cc (rF a c h b q n (O (.f (cf (c.wk (a.map fL.g)) k))) b1 b1 r g p o) i):
  vS ⟨cq,j⟩ (.cB (.hK (.J (.b7 (.b0 ar (.b5 12) (.J (.bY (.bW 3) "children") .N)) (.J .ne (.b0 ar (.b5 12) (.J (.bW 2) .N)) .N)) (.J (.b7 (.b0 ar (.b5 78) (.J Ab .N)) (.J .ne (.b0 ar (.b5 9) (.J (.b5 77) .N)) .N)) .N))) (.J (.cw (.b3 b2)) .N) .N) (rF a c h b q n (O (.f (cf (c.wk (a.map fL.g)) k))) b1 b1 r g p o) i K:=by
 have s:a.length≤500:=cr d.nT (by decide)
 refine VN (b:=⟨cq,j⟩) (a:=b2) (h:=b2) (fun K f=>?_) (fun w K f=>?_) _ ?_
 ·apply aj;exact eZ (d:=fL.g) s
  apply aj;exact eZ (d:=fL.f) s
  have v:(!((a.length:Int)==(a.length:Int)))=b2:=by rw [beq_self_eq_true];rfl
  rw [← v] at f
  exact f
 ·apply aj;exact Py
  apply aj;exact BS (a:=.a3 (Ds.map .ad)) (j8 fun x u=>by
   obtain ⟨y,_,rfl⟩:=hJ.mp u
   exact fC rfl) ⟨_,rfl⟩
  exact f
 exact t
end
def Pz{d:Type}(c b:d→bl):∀a:List d,iC (a.map c) (a.map b)=a.map fun f=>.cQ [c f,b f] :=by
 intro a
 induction a with
 |nil=>
  exact rfl
 |cons e a g=>
  exact congrArg (bl.cQ [c e,b e] :: ·) (g)
def PA{c g:Type}{d:c→List g}:∀{a:List c},(∀b∈a,(d b).length≤8)→(a.flatMap d).length≤8*a.length:=by
 intro a
 induction a with
 |nil=>
  intro _
  exact dX 0
 |cons b a h=>
  intro e
  (refine bT Mb ?_;refine bT dZ ?_;refine bT lZ ?_;rw [y7,qB])
  exact pH (h fun i f=>e i (ia _ f)) (e b fD)
def SL{f:bS}(b:Nat)(a:Nat→Nat):fh cq f .ft (.f .bX) (.f (.a3 (iN b a fun c=>ar)))=O b2:=by
 show ic .bX (iN b a fun c=>ar)=_
 unfold ic iN
 induction f5 b with
 |nil=>rfl
 |cons g d e=>
  show (nG _ (zu .bX (d.map (oP a fun c=>ar))))=_
  refine bT e ?_;rfl
def X2{d:Type}{p:cV→bS→List bl→KL→Prop}{l:List Nat}{r:Bool}{n:cV}{e:bS}(s:d→bl)(i:d→List bl){q j:Nat}:∀{c:List d}{a:List bl}{K:KL},
  (∀(b:d)(a:List bl)(K:KL),b∈c→a.length≤q→K (a++i b) e→jP n l r (s b) fun u=>p u e a K)→(∀b∈c,(i b).length≤j)→a.length+c.length*j≤q→K (a++c.flatMap i) e→og p n l r (c.map s) e a K:=by
 intro c
 induction c with
 |nil=>
  intro a K _ _ _ f
  rw [Uc,kX] at f;exact f
 |cons b v t=>
  intro a K m k o f
  exact m b a _ fD (cr (fg _ _) o) (t (fun g a K h=>m g a K (ia _ h)) (fun g h=>k g (ia _ h))
   (by
    (refine bT dZ ?_;rw [nH])
    refine cr (jq ?_ _) o
    (refine bT lZ ?_;rw [Nat.succ_mul,qB])
    exact jq (k b fD) _) (by (rewrite [m8];refine gT Mb ?_);exact f))
section
variable{i:cK}{a:List fL}{b:Hd}{d j:Cd}{h m:List Nat}{l k:List bl}(c:lJ i a b d j h m l k){e:bS}
include c
def aaT{K:KS}{x u y r:Option bZ}(P:∀n g,K .cc (rF a b d h x u (O (.f (cf (b.wk (a.map fL.g)) j))) b1 b1 y r n g) e):
  vS ⟨cq,i⟩ (.fT [10,11] ar (.zt (.eD ar .dc (.a3 ar (.J (.bW 6) .N)) (.bW 2)) (.eD ar .dc (.a3 ar (.J (.bW 3) .N)) (.bY (.bW 3) "children"))) Ac) (rF a b d h x u (O (.f (cf (b.wk (a.map fL.g)) j))) b1 b1 y r b1 b1) e K:=by
 have s:∀{G:fL→bl}{Q:bl},(Q::a.map G).length≤100000:=iF (by rw [et];exact cr c.nT (by decide))
 apply aj;exact lw (b:=_::a.map fL.f) s
 apply aj;exact lw (b:=_::a.map fL.g) s
 apply aj;exact if_pos s
 refine wo (fun v t=>∃n g,v=rF a b d h x u (O (.f (cf (b.wk (a.map fL.g)) j))) b1 b1 y r n g∧t=e) (fun C v t T f q L=>?_) ⟨_,_,rfl,rfl⟩ fun v t q=>?_
 ·refine bU fun o=>?_
  obtain ⟨n,g,rfl,rfl⟩:=q
  have I:∃w p,C=.cQ [w,p] ∧PC i 59 [.f p] (.b3 ar)∧PC i 62 [.f w,.f p] (.b3 ar):=by
   rcases eP.mp f with rfl|f
   ·exact ⟨_,_,rfl,c.ly,c.je⟩
   ·have f:C∈iC (a.map fL.f) (a.map fL.g):=f
    rw [Pz] at f
    obtain ⟨z,A,rfl⟩:=hJ.mp f
    exact ⟨_,_,rfl,c.aaP z A,c.aaQ z A⟩
  obtain ⟨w,p,rfl,F,R⟩:=I
  refine o ?_;try clear o
  refine pc rfl F ?_
  refine pc rfl R ?_
  exact L _ _ ⟨_,_,rfl,rfl⟩
 ·refine bU fun o=>?_
  obtain ⟨n,g,rfl,rfl⟩:=q
  refine o ?_;try clear o
  exact P _ _
def aaU{K:KS}{p g q f o n:Option bZ}(r:K .cc (rF a b d h p g (O (.f (cf (b.wk (a.map fL.g)) j))) (O (.f (.a3 k))) b1 q f o n) e):
  vS ⟨cq,i⟩ (.cB (.hK (.J (.b7 Ad (.J .ne (.a3 ar .N) .N)) (.J (.b7 (.b0 ar (.b5 67) (.J (.b0 ar (.b5 38) (.J (.bW 3) .N)) .N)) (.J .ne (.bW 4) .N)) .N))) (.J (.cw (.b3 b2)) .N) .N) (rF a b d h p g (O (.f (cf (b.wk (a.map fL.g)) j))) (O (.f (.a3 k))) b1 q f o n) e K:=by
 iterate 8
  refine pc rfl (c.acm _ (by decide+kernel)) ?_
  refine pc rfl c.Na ?_
  apply aj;exact BS c.s2 ⟨_,rfl⟩
 apply aj;exact wD
 refine pc rfl c.aaO ?_
 refine pc rfl c.Na ?_
 apply aj;exact BS c.s2 ⟨_,rfl⟩
 exact r
def fU(g:pd):List bl:=(g.2.b6.filter fun f=>dY ((0:Int)<(f.dG:Int))).map k0
def nQ(a:List fL)(b:Hd)(d:Cd):List pd:=(b.wk (a.map fL.f),d)::a.map fun f=>(f.1,f.2.1)
def X3{K:KS}{x w z p y o r q:Option bZ}(n:K .cc (rF a b d h x w z p (O (.f (.a3 ((nQ a b d).flatMap fU)))) y o r q) e):
  vS ⟨cq,i⟩ (.ch 5 Ae) (rF a b d h x w z p b1 y o r q) e K:=by
 have t:∀{I:fL→bl}{T:bl},(T::a.map I).length≤100000:=iF (by rw [et];exact cr c.nT (by decide))
 have Q:cf (b.wk (a.map fL.f)) d::a.map fL.f=(nQ a b d).map ez:=by unfold nQ;(refine bT Cj ?_;refine bT lO ?_);rfl
 have u:∀f∈nQ a b d,f.2.b6.length≤8:=fun f g=>by
  rcases eP.mp g with rfl|g
  ·exact c.nk
  ·obtain ⟨C,L,rfl⟩:=hJ.mp g
   exact c.nkt C L
 apply aj;exact lw (b:=_::a.map fL.f) t
 apply aj;exact FA t
 refine bT Q ?_
 have A:(nQ a b d).length≤6:=iF (by rw [et];exact c.nT)
 have s:∀f∈nQ a b d,(fU f).length≤8:=fun f g=>by
  unfold fU
  rw [et]
  exact cr (r7 _ _) (u f g)
 refine X2 (q:=48) ez fU (fun f G K g P n=>?_) s (cr (jq (Nat.mul_le_mul_right 8 A) _) (by decide)) ?_
 ·apply aj;exact ef (cr (u f g) (by decide))
  apply aj;exact FA (cr P (by decide))
  refine k6 k0 (fun v=>dY ((0:Int)<(v.dG:Int))) k0 (fun v G K W R F=>?_) ?_
  ·exact cD R F
  ·exact n
 apply aj;exact lw (b:=(nQ a b d).flatMap fU) (cr (PA s) (cr (v9 8 A) (by decide)))
 exact n
def PB(v:(nQ a b d).flatMap fU=[]):∃s r,PC i 63 [.f (cf (b.wk (a.map fL.g)) j)] (.a3 (iN s r fun w=>ar)):=by
 have f:∀o∈nQ a b d,∀g∈o.2.b6,g.dG=0:=fun o u g t=>by
  refine Nat.eq_zero_of_not_pos fun f=>?_
  have p:k0 g∈(nQ a b d).flatMap fU:=List.mem_flatMap.mpr ⟨o,u,hJ.mpr ⟨g,l3.mpr ⟨t,decide_eq_true (kY.mpr f)⟩,rfl⟩⟩
  rw [v] at p
  cases p
 exact c.iz (f _ fD) fun n q=>f (n.1,n.2.1) (ia _ (hJ.mpr ⟨n,q,rfl⟩))
def X4{K:KS}{t q p v n s r:Option bZ}(f:K .cc (rF a b d h t q (O (.f (cf (b.wk (a.map fL.g)) j))) p (O (.f (.a3 ((nQ a b d).flatMap fU)))) v n s r) e):
  vS ⟨cq,i⟩ (.cB (.ev (.J (.b7 (.bW 5) (.J .cZ (.a3 ar .N) .N)) (.J (.b7 .bX (.J .ft (.b0 ar (.b5 76) (.J (.bW 3) .N)) .N)) .N))) (.J (.cw (.b3 b2)) .N) .N) (rF a b d h t q (O (.f (cf (b.wk (a.map fL.g)) j))) p (O (.f (.a3 ((nQ a b d).flatMap fU)))) v n s r) e K:=by
 have o:=PB c
 generalize (nQ a b d).flatMap fU=g at o f⊢
 induction g with
 |nil=>
  apply aj;exact s6
  refine bU fun u=>?_
  obtain ⟨z,y,A⟩:=o rfl
  refine u ?_;try clear u
  refine pc rfl A ?_
  apply aj;exact SL z y
  exact f
 |cons C g=>
  refine AG (b:=⟨cq,i⟩) (a:=b2) (h:=b2) (fun K w=>?_) (fun x=>dy x) _ ?_
  ·apply aj;exact s7
   exact w
  exact f
def aaV{p o:Option bZ}{g:bS}{f:KE}(n:∀e,f (.f (.b3 ar)) e):
  fG ⟨cq,i⟩ (fo 3 (AV Fp)) (rF a b d h p o b1 b1 b1 b1 b1 b1 b1) e (lG b2 g.length f):=by
 refine pc rfl c.V2 ?_
 refine pc rfl c.ack ?_
 refine aaR c ?_
 refine pc rfl c.KG ?_
 refine aaS c ?_
 refine aaT c fun r q=>?_
 refine pc rfl c.Na ?_
 refine aaU c ?_
 refine X3 c ?_
 refine X4 c ?_
 refine pc rfl c.V2 ?_
 apply aj;exact SK c.s1 ⟨_,rfl⟩
 exact n _
end
def v5(a:fL):Prop:=(mc (a.1,a.2.1))∧(h7 (a.1,a.2.1)=(a.1,a.2.2))∧(fH a.2.1.nc a.2.2.nc)∧(md a.1 a.2.2 (∀b∈a.2.1.b6,b.dG=0))
section
variable{a:fL}(c:v5 a)
include c
def v5.s:mc (a.1,a.2.1):=c.1
def v5.e:h7 (a.1,a.2.1)=(a.1,a.2.2):=c.2.1
def v5.b:fH a.2.1.nc a.2.2.nc:=c.2.2.1
def v5.u:md a.1 a.2.2 (∀b∈a.2.1.b6,b.dG=0):=c.2.2.2
end
noncomputable def kf(a:fL):pd:=(a.1,a.2.1)
noncomputable def kg(a:fL):pd:=(a.1,a.2.2)
def Nb(a:List fL):(a.map kf).map ez=a.map fL.f:=by refine bT lO ?_;rfl
def V3(a:List fL):(a.map kg).map ez=a.map fL.g:=by refine bT lO ?_;rfl
def sy{c:Type}{d:c→Prop}{e:fL→c}{f:List fL}(g:∀a∈f,d (e a)):∀b∈f.map e,d b:=fun b h=>by
 obtain ⟨a,i,rfl⟩:=hJ.mp h
 exact g a i
def X5:∀a∈Ds,∃b∈j6,b.1=a:=by decide+kernel
def PD{a:Cd}{b:Nat→Nat}(e:∀c,c<a.a2.length→cx a.nc c):iN a.a2.length b (j5 a)=iN a.a2.length b fun g=>ar:=
 y9 fun d f=>by unfold oP;(refine bT ((ln a d).mpr (e d (nf.mp f))) ?_;rfl)
def aaW{g:Nat}{c:List fL}{k:Cd}{G:List Nat}{C:Bool}(f:∀a∈c,v5 a)(t:c.length≤5)(Q:C=ar→c≠ [])(d:km (iW (.ad "method") (c.map fL.f)) k C G)(v:k.a2.length≤10):
  ∃q r af ag,lJ (vC cq (g+8)) c (iW (.ad "method") []) k q G r af ag:=by
 have aq:∀P,(iW (.ad "method") []).wk P=iW (.ad "method") P:=fun au=>rfl
 have s:(c.map kf).length≤5:=by rw [et];exact t
 have o:(c.map kg).length≤5:=by rw [et];exact t
 have n:5≤500:=by decide
 refine bU fun j=>?_
 obtain ⟨r,ao,_,ac⟩:=NI (iW (.ad "method") (c.map fL.f)) k d.hM.cF d.k3.bd
 refine j ?_;try clear j
 have Y:j5 k=fun m=>r.contains m:=funext fun m=>by rw [vJ,ln,rb,ao]
 have T:=NJ (a:=g+6) (iW (.ad "method") []) (v3 rfl _) d.k3.bd d.k3.a2 (rE d.k3.iV d.k3.bd) (d:=c.map kf) (cr s n) (sy fun a b=>(f a b).s.WD)
 have ai:k1 12 (nO (iW (.ad "method") []) k ((c.map kf).map fun e=>nO e.1 e.2 [])):=rB (i:=7) (v3 rfl _) d.C8 d.k3.a2 fun am w=>by
  refine bU fun j=>?_
  obtain ⟨e,z,rfl⟩:=hJ.mp w
  refine j ?_;try clear j
  exact sy (d:=fun e=>k1 10 (nO e.1 e.2 [])) (e:=kf) (fun a b=>(f a b).s.iQ) e z
 have K:=NO (c:=g) d.k3 rfl (i:=c.map kf) (Nb c).symm s (fun l x=>Q l (L4.mp x)) (sy fun a b=>(f a b).s.WE)
 rw [← d.cC,Y] at K
 have p:=NH (a:=g+1) (iW (.ad "method") []) d.hM d.k3.bd (e:=c.map kf) (cr s n) (sy fun a b=>(f a b).s.zG)
 have ae:((c.map kf).map fun e=>ez (h7 e))=c.map fL.g:=by
  refine bT lO ?_
  refine y9 fun a b=>?_
  show ez (h7 (a.1,a.2.1))=_
  refine bT ((f a b).e) ?_;rfl
 rw [ae] at p
 have h:=d.KG v
 have i:=BK 24 d.hM d.k3.bd
 have F:=d.NW 24
 have I:=fun l=>Eo (e:=iW (.ad "method") (c.map fL.g)) d v l (.inr rfl) ⟨_,_,rfl⟩
 generalize d5 24 k=q at p h i F I
 obtain ⟨h,ah⟩:=h
 have L:=NJ (a:=g+6) (iW (.ad "method") []) (v3 rfl _) i (oQ h) (rE h.hM.gH i) (d:=c.map kg) (cr o n) (sy fun a b=>(f a b).u.WD)
 have aa:k1 12 (nO (iW (.ad "method") []) q ((c.map kg).map fun e=>nO e.1 e.2 [])):=rB (i:=7) (v3 rfl _) F (oQ h) fun am w=>by
  refine bU fun j=>?_
  obtain ⟨e,z,rfl⟩:=hJ.mp w
  refine j ?_;try clear j
  exact sy (d:=fun e=>k1 10 (nO e.1 e.2 [])) (e:=kg) (fun a b=>(f a b).u.iQ) e z
 have y:=NH (a:=g+1) (iW (.ad "method") []) h.hM i (e:=c.map kg) (cr o n) (sy fun a b=>(f a b).u.zG)
 have ab:((c.map kg).map fun e=>ez (h7 e))=c.map fL.g:=by
  refine bT lO ?_
  refine y9 fun a b=>?_
  show ez (h7 (a.1,a.2.2))=_
  have:h7 (a.1,a.2.2)=(a.1,a.2.2):=by unfold h7;rw [(f a b).u.ly.QT]
  refine bT this ?_;rfl
 rw [ab,h.QT] at y
 have R:=fun m A=>O3 (a:=g+2) (iW (.ad "method") []) h i (d:=c.map kg) (cr o n) (sy fun a b=>(f a b).u.acj) m A
 rw [Nb] at T
 rw [V3] at L y R
 rw [Nb] at p
 exact ⟨q,r,_,_,⟨
  T,
  L,
  ai,
  aa,
  ac (g+7),
  K,
  p,
  y,
  AH (a:=g+5) _ h i,
  (vB (a:=g+5) _ _ (cr d.k3.bd.a2 (by decide)) (cr d.k3.bd.b6 (by decide)) (cr i.a2 (by decide)) (cr i.b6 (by decide)) (cr d.k3.bd.cp (by decide)) d.hM.cF h.hM.cF ah),
  (fun a b=>AH (a:=g+5) _ (f a b).u.ly (f a b).u.bd),
  (fun a b=>let u:=(f a b).s.zG.bd;let i:=(f a b).u.bd;vB (a:=g+5) _ _ (cr u.a2 (by decide)) (cr u.b6 (by decide)) (cr i.a2 (by decide)) (cr i.b6 (by decide)) (cr u.cp (by decide)) (f a b).s.zG.hM.cF (f a b).u.ly.hM.cF (f a b).b),
  (fun W an=>by obtain ⟨m,A,ak⟩:=X5 W an;exact ak▸R m A),
  (fun l al=>by
   obtain ⟨X,e⟩:=I l
   exact ⟨_,X,PD h.J5.2▸NO (c:=g) e rfl (i:=c.map kg) (V3 c).symm o (fun l x=>Q l (L4.mp x)) (sy fun a b=>(f a b).u.WE (al a b))⟩),
  (d.cC▸cr v (by decide)),
  t,
  d.k3.bd.b6,
  (fun a b=>(f a b).s.zG.bd.b6)⟩⟩
def Jf{d:cK}(i:d=vC cq 39){k:Bool}{c:Nat}{h:dw}{a:List fL}{b:Bool}{w:Option bZ}{t:bS}{e:KE}(u:∀q,e (.f (.b3 ar)) q)(l:c+93≤5000)(r:GB k c h)(j:∀m∈a,v5 m)(n:a.length≤5)(f:b=ar↔a.map fL.f≠ []):
  fG ⟨cq,d⟩ (fo 2 (AV Fp)) [w,O (.cu 0),O (.f (.a3 (a.map fL.f))),b1,b1,b1,b1,b1,b1,b1,b1,b1,b1,b1,b1,b1,b1,b1] [O h] (lG b2 t.length e):=by
 refine ec i (Je (j:=31) (d:=10) (c:=.ad "method") (e:=a.map fL.f) (g:=b) (by decide) (by decide) (.inr rfl) f) l r fun C G z s=>?_
 refine bU fun g=>?_
 obtain ⟨F,A,p,o,rfl⟩:=s
 obtain ⟨L,P,I,K,y⟩:=aaW (g:=31) j n (fun v x=>f.mp v (by refine bT x ?_;rfl)) p o
 refine g ?_;try clear g
 subst i
 exact aaV y u
def SM(e:List Int)(r:e.length≤63):vC cq 40 MQ [.f (.a3 (e.map .Z))] [] fun g b=>g=.f (.b3 ar):=Hi (fun x c=>by
 refine vc c (aaN r _ fun y u d=>?_)
 apply aj;exact AY d
 refine cD (fun o=>?_) fun o=>?_
 ·exact Jf (a:=[]) (b:=b2) c (fun b=>rfl) (by decide:0+93≤5000) d (fun b a=>absurd a gD) (by decide) ⟨(fun a=>dy a),fun a=>absurd rfl a⟩
 ·refine ec c (Je (j:=31) (d:=6) (c:=.ad "block") (e:=[]) (g:=b2) (by decide) (by decide) (.inl rfl) ⟨(fun a=>dy a),fun a=>absurd rfl a⟩) (by decide:0+93≤5000) d fun w g i n=>?_
  refine bU fun h=>?_
  obtain ⟨f,j,l,k,rfl⟩:=n
  have K:mc (iW (.ad "block") [],f):=⟨rfl,⟨j,l⟩,cr k (by decide)⟩
  obtain ⟨p,t,s,q⟩:=K.aci
  refine h ?_;try clear h
  exact Jf (a:=[(iW (.ad "block") [],f,p)]) (b:=ar) c (fun b=>rfl) (by decide:93+93≤5000) i (fun v m=>by
   refine bT (ib.mp m) ?_
   exact ⟨K,t,s,q⟩) (er rfl) ⟨(fun b a=>nomatch a),fun b=>rfl⟩) rfl rfl rfl rfl
end
section
open PySem PySem.W PyProof.Rows PySem.Calls
def acn{a:Prop}(c:∀b:Prop,(a→b)→b):a:=c a id
abbrev di:=cz→Option ea
def k4(c d:di):Prop:=∀b a,c b=O a→d b=O a
def k4.cy(a:di):k4 a a:=fun c c b=>b
def k4.ci{a e c:di}(f:k4 a e)(g:k4 e c):k4 a c:=fun d b h=>g d b (f d b h)
noncomputable def di.d6(b:di)(d:cz)(c:ea):di:=fun a=>if a=d then O c else b a
def di.eF(c:di)(b:cz)(a:ea):c.d6 b a b=O a:=if_pos rfl
def di.fe(b:di){c a:cz}(d:ea)(e:a≠c):b.d6 c d a=b a:=if_neg e
def k4.d6{a:di}{c:cz}(d:ea)(e:a c=b1):k4 a (a.d6 c d):=fun f g b=>by
 rw [di.fe]
 ·exact b
 ·rintro rfl;rw [e] at b;exact cG b
structure Wd where
 dP:r9
 w:t3
 K:gI
 eG:eu
 aaX:Co
 T:rg
 jT:Nat→cz
 eS:Nat→cz
 kP:Nat→cz
 yo:Nat→cj
def jp(c:ea)(d:b4→Option cj):Prop:=∃a e,c.data=.dict a e∧StrKeys a∧∀b,tX a b=d b
def jp.eH{d:eu}{b:cz}{a:ea}{c:b4→Option cj}(g:jp a c)(i:d.get? b=O a):d.Ns b c:=by obtain ⟨f,h,e⟩:=g;exact ⟨a,f,h,i,e⟩
def jp.eI{d:eu}{b:cz}{c:b4→Option cj}(g:d.Ns b c):∃a,d.get? b=O a∧jp a c:=by obtain ⟨a,f,h,i,e⟩:=g;exact ⟨a,i,f,h,e⟩
noncomputable def dl(b:String)(a:List cj)(c:Nat):ea:={cls:=.type b,data:=.seq a.toArray c}
def qy(b:lb)(d:b4→Option cj)(f:List cj):Prop:=(∀(e:Nat)(a:b4)(c:cj),b.dj[e]? =O a→f[e]? =O c→d a=O c)∧(∀a,a∉b.dj→d a=b1)
section
variable{b:lb}{a:b4→Option cj}{d:List cj}(c:qy b a d)
include c
def qy.eH:∀(g:Nat)(e:b4)(f:cj),b.dj[g]? =O e→d[g]? =O f→a e=O f:=c.1
def qy.aco:∀e,e∉b.dj→a e=b1:=c.2
end
def v6(f:Wd)(c:di)(i:cz)(g:Nat)(a:lb)(h:List cj):Prop:=f.T.e7[g]? =O a∧∃e b d,c i=O (ki (f.eS g) e)∧c e=O b∧jp b d∧qy a d h
mutual
def g5(W:Wd)(F:di):bl→cj→Prop
 |.bX,v=>v=.none
 |.b3 b,v=>v=.bool b
 |.Z i,v=>∃t,v=.int i t
 |.ad x,v=>∃t,v=.str x t
 |.cQ xs,v=>∃a vs n,v=.ref a∧F a=O (dl "tuple" vs n)∧dB W F xs vs
 |.a3 xs,v=>∃a vs n,v=.ref a∧F a=O (dl "list" vs n)∧dB W F xs vs
 |.gJ c fs,v=>∃a k vs,v=.ref a∧v6 W F a c k vs∧fs.length=k.dj.length∧dB W F fs vs
 |.fn k,v=>v=.ref (W.jT k)
 |.kE c,v=>v=.ref (W.eS c)
 |.bi k,v=>v=W.yo k
 |.ob d,v=>v=.ref (W.kP d)
def dB(W:Wd)(F:di):List bl→List cj→Prop
 |[],vs=>vs=[]
 |x::xs,vs=>∃v us,vs=v::us∧g5 W F x v∧dB W F xs us
end
section
variable{c:Wd}{d i:di}
def dB.xh{g:bl}{h:List bl}{f:List cj}{e:List cj→Prop}(l:dB c d (g::h) f)(j:∀b a,g5 c d g b→dB c d h a→e (b::a)):e f:=by
 obtain ⟨b,a,rfl,k,m⟩:=l
 exact j b a k m
def v6.cO(f:k4 d i){e:cz}{g:Nat}{a:lb}{b:List cj}(m:v6 c d e g a b):v6 c i e g a b:=by obtain ⟨p,l,h,k,j,o,n⟩:=m;exact ⟨p,l,h,k,f _ _ j,f _ _ o,n⟩
mutual
def g5.cO(l:k4 d i):∀{x:bl}{v:cj},g5 c d x v→g5 c i x v
 |.bX,_,h=>h
 |.b3 _,_,h=>h
 |.Z _,_,h=>h
 |.ad _,_,h=>h
 |.cQ _,_,h=>by obtain ⟨a,vs,n,e,f,r⟩:=h;exact ⟨a,vs,n,e,l _ _ f,dB.cO l r⟩
 |.a3 _,_,h=>by obtain ⟨a,vs,n,e,f,r⟩:=h;exact ⟨a,vs,n,e,l _ _ f,dB.cO l r⟩
 |.gJ _ _,_,h=>by obtain ⟨a,k,vs,e,f,q,r⟩:=h;exact ⟨a,k,vs,e,f.cO l,q,dB.cO l r⟩
 |.fn _,_,h=>h
 |.kE _,_,h=>h
 |.bi _,_,h=>h
 |.ob _,_,h=>h
def dB.cO(l:k4 d i):∀{xs:List bl}{vs:List cj},dB c d xs vs→dB c i xs vs
 |[],_,h=>h
 |_::_,_,h=>by obtain ⟨v,us,e,a,b⟩:=h;exact ⟨v,us,e,g5.cO l a,dB.cO l b⟩
end
def dB.cC{a:List bl}:∀{b:List cj},dB c d a b→b.length=a.length:=by
 induction a with
 |nil=>exact fun e=>congrArg qE (show _=[] from e)
 |cons l a f=>
  intro b e
  obtain ⟨k,j,h,_,g⟩:=e
  exact (congrArg qE h).trans (congrArg pI (f g))
def dB.iU{f:List bl}:∀{e:List cj}{b:Nat}{h:bl},dB c d f e→f[b]? =O h→∃a,e[b]? =O a∧g5 c d h a:=by
 induction f with
 |nil=>exact fun p g=>cG g
 |cons h f l=>
  intro e b m n g
  refine n.xh (e:=fun e=>∃a,e[b]? =O a∧g5 c d m a) fun a j k o=>?_
  induction b with
  |zero=>exact ⟨a,rfl,dg g▸k⟩
  |succ b=>exact l (e:=j) (b:=b) o g
def dB.mK{f:List bl}{b:List cj}{g:Nat}{e:bl}{a:cj}(k:dB c d f b)(j:f[g]? =O e)(l:b[g]? =O a):g5 c d e a:=by
 obtain ⟨n,h,m⟩:=k.iU j
 rw [l] at h
 exact dg h▸m
def dB.NX{b f:List bl}{e:List cj}:∀{a:List cj},dB c d b a→dB c d f e→dB c d (b++f) (a++e):=by
 induction b with
 |nil=>intro a o g;refine bT (show a=[] from o) ?_;exact g
 |cons l b k=>exact fun g j=>g.xh (e:=fun a=>dB c d (l::(b++f)) (a++e)) fun h a m n=>⟨h,_,rfl,m,k n j⟩
def dB.o9{b:bl}{a:cj}(e:g5 c d b a):dB c d [b] [a] :=⟨a,[],rfl,e,rfl⟩
structure dQ where
 F:di
 T:di
 α:List cz
def dU(c:Wd)(e:dQ):bZ→cj→Prop
 |.f g,a=>g5 c e.F g a
 |.cu f,a=>∃b,a=.ref b∧e.α[f]? =O b
 |.fK f,a=>∃b,a=.ref b∧e.α[f]? =O b
def ee(c:Wd)(e:dQ):List bZ→List cj→Prop
 |[],a=>a=[]
 |g::h,a=>∃f b,a=f::b∧dU c e g f∧ee c e h b
structure Le(fr:cz→Prop)(g g':dQ):Prop where
 F:k4 g.F g'.F
 α:g.α <+: g'.α
 T:∀a,¬fr a→g'.T a=g.T a
abbrev pY:dQ→dQ→Prop:=Le fun a=>False
def Le.cy{b:cz→Prop}(a:dQ):Le b a a:=⟨k4.cy _,jU _,fun e e=>rfl⟩
def Le.ci{a:cz→Prop}{f h k:dQ}(b:Le a f h)(e:Le a h k):Le a f k:=⟨b.F.ci e.F,b.α.trans e.α,fun g j=>(e.T g j).trans (b.T g j)⟩
def Le.up{f g:cz→Prop}{e h:dQ}(b:Le f e h)(l:∀a,f a→g a):Le g e h:=⟨b.F,b.α,fun a k=>b.T a fun j=>k (l a j)⟩
def Le.vd{f:cz→Prop}{a b:dQ}(g:pY a b):Le f a b:=g.up fun h e=>e.elim
def Jg{a b:List cz}(h:a <+: b){f:Nat}{e:cz}(g:a[f]? =O e):b[f]? =O e:=by
 obtain ⟨j,rfl⟩:=h
 rw [ph (fJ.mp g).1];exact g
def dU.cO{l:cz→Prop}{g k:dQ}(a:Le l g k):∀{j:bZ}{h:cj},dU c g j h→dU c k j h
 |.f _,_,m=>g5.cO a.F m
 |.cu _,_,⟨b,e,f⟩=>⟨b,e,Jg a.α f⟩
 |.fK _,_,⟨b,e,f⟩=>⟨b,e,Jg a.α f⟩
def ee.cO{j:cz→Prop}{b f:dQ}(a:Le j b f):∀{g:List bZ}{e:List cj},ee c b g e→ee c f g e
 |[],_,m=>m
 |_::_,_,⟨k,h,o,l,n⟩=>⟨k,h,o,l.cO a,ee.cO a n⟩
def ee.cC{f:dQ}{a:List bZ}:∀{b:List cj},ee c f a b→b.length=a.length:=by
 induction a with
 |nil=>exact fun e=>congrArg qE (show _=[] from e)
 |cons m a g=>
  intro b e
  obtain ⟨l,k,j,_,h⟩:=e
  exact (congrArg qE j).trans (congrArg pI (g h))
def dB.Zf{b:dQ}:∀{a:List bl}{e:List cj},dB c b.F a e→ee c b (a.map .f) e:=by
 intro a
 induction a with
 |nil=>
  intro _ l
  exact l
 |cons _ _ k=>
  intro _ g
  obtain ⟨h,f,n,j,m⟩:=g
  exact ⟨h,f,n,j,(k m)⟩
def td{b:bZ}{K:bl→Prop}(e:Vo b K):∃a,b=.f a∧K a:=by
 induction b with
 |f a=>exact ⟨a,rfl,e⟩
 |_=>exact e.elim
def ee.uP{g:dQ}:∀{e:List bZ}{h:List cj}{K:List bl→Prop},ee c g e h→uP e K→∃b,dB c g.F b h∧K b:=by
 intro e
 induction e with
 |nil=>
  intro _ _ f a
  exact ⟨[],f,a⟩
 |cons _ _ o=>
  intro _ _ f a
  refine bU fun j=>?_
  obtain ⟨p,rfl,a⟩:=td a
  obtain ⟨m,l,r,n,q⟩:=f
  obtain ⟨b,k,a⟩:=o q a
  refine j ?_;try clear j
  exact ⟨p::b,⟨m,l,r,n,k⟩,a⟩
end
noncomputable def Hv:Sum Int b4→cj→Bool
 |.inl c,a=>Value.isInt c a
 |.inr b,a=>zr b a
noncomputable def KK:Sum Int b4→kD→cj
 |.inl c,a=>.int c a
 |.inr b,a=>.str b a
def rY{a:Sum Int b4}{b:cj}(c:Hv a b=ar):∃d,b=KK a d:=by
 induction a with
 |inl _=>exact Value.isInt_shape c
 |inr _=>exact Value.isStrOf_shape c
def SN{d e:Type}{a c:d}[DecidableEq d]{b:d→e}[DecidableEq e](f:(b a=b c)=(a=c)):(a==c)=dY (b a=b c):=by (rewrite [vJ,beq_iff_eq,decide_eq_true_iff];refine bT f ?_;rfl)
def X6(g:r9)(f:t3){j:d8}{e:cj→cM→Prop}{h:cM}{k i:kD}:∀{b c:Sum Int b4}{a:Bool→cM→Prop},a (dY (b=c)) h→n9 (i5 g f) j (eqBool (KK b k) (KK c i)) a e h
 |.inl b,.inl c,a,d=>wpAny_eqBool_int (by refine bT (SN (b:=Sum.inl (β:=b4)) (Sum.inl.injEq b c)) ?_;exact d)
 |.inl b,.inr c,a,d=>SeqAt.EqAt.int_str _ _ _ _ g f e a d
 |.inr b,.inl c,a,d=>SeqAt.EqAt.str_int _ _ _ _ g f e a d
 |.inr b,.inr c,a,d=>wpAny_eqBool_str (by rw [← decide_eq_decide.mpr (Eq.to_iff (Sum.inr.injEq b c))];exact d)
def i8(i:r9)(g:t3):KeyKind i g (Sum Int b4) where
 is:=Hv
 hash:=fun c=>match c with
  |.inl o=>hashInt o
  |.inr k=>hashStr g k
 inj:=fun d j l p q=>by
  obtain ⟨e,rfl⟩:=rY p
  obtain ⟨h,a⟩:=rY q
  match j,l,a with
  |.inl _,.inl _,a=>(refine bT ((Value.int.inj a).1) ?_;rfl)
  |.inr _,.inr _,a=>(refine bT ((U7 a).1) ?_;rfl)
 byValue:=fun c d b=>by
  obtain ⟨e,rfl⟩:=rY b
  induction c<;>rfl
 pyHash:=fun {t s m c d r} f b=>by
  obtain ⟨e,rfl⟩:=rY f
  induction c
  ·exact wpAny_pyHash_int b
  ·exact wpAny_pyHash_str b
 eqBool:=fun {t s m j l h d r} n f b=>by
  obtain ⟨e,rfl⟩:=rY n
  obtain ⟨v,rfl⟩:=rY f
  exact X6 i g b
 «strs»:=fun c k e d b=>by
  obtain ⟨h,a⟩:=rY b
  match c,a with
  |.inr u,a=>
   obtain rfl:=(U7 a).1
   induction d<;>rfl
abbrev g6:=Sum Int b4
def ij(e:Wd)(c:di):List (g6×bl)→List (g6×cj)→Prop
 |[],a=>a=[]
 |f::g,a=>∃d b,a=(f.1,d)::b∧g5 e c f.2 d∧ij e c g b
def ij.cO{f:Wd}{d g:di}(b:k4 d g):∀{c:List (g6×bl)}{e:List (g6×cj)},ij f d c e→ij f g c e
 |[],_,a=>a
 |_::_,_,a=>by obtain ⟨i,h,l,j,k⟩:=a;exact ⟨i,h,l,g5.cO b j,ij.cO b k⟩
def sz(c:Wd)(a:di)(k:List cz)(h:eu)(b:cz):dw→Prop
 |.a3 m=>a b=b1∧∃d l,h.get? b=O (dl "list" d l)∧dB c a m d
 |.eg j=>a b=b1∧(b==qG)=b2∧∃f g,h.get? b=O f∧f.IsDictOf (i8 c.dP c.w) g∧ij c a j g
 |.jW n i=>∃e d,v6 c a b n e d∧i.length=e.dj.length∧ee c ⟨a,a,k⟩ i d
structure c7(W:Wd)(g:dQ)(σ:bS)(s:cM):Prop where
 cC:g.α.length=σ.length
 pZ:g.α.Nodup
 uv:∀a∈g.α,∃o,s.heap.get? a=O o
 kQ:k4 W.eG.get? g.F
 ey:k4 g.F s.heap.get?
 hN:k4 g.T s.heap.get?
 hF:∀a o,g.F a=O o→g.T a=b1
 jx:∀a∈g.α,g.T a=b1
 nB:∀i a mo,g.α[i]? =O a→σ[i]? =O (O mo)→sz W g.F (g.α.take i) s.heap a mo
 qg:s.gens=#[]
 A1:s.os=W.aaX
section
variable{c:Wd}{a e:dQ}{d:bS}{b:cM}
def sz.cO{p h:di}{s n:List cz}{f r:eu}{g:cz}(k:k4 p h)(y:s <+: n)(u:∀l,f.get? g=O l→r.get? g=O l)(q:p g=b1→h g=b1):∀{t:dw},sz c p s f g t→sz c h n r g t
 |.a3 _,f=>by obtain ⟨m,o,x,j,i⟩:=f;exact ⟨q m,o,x,u _ j,i.cO k⟩
 |.eg _,f=>by obtain ⟨m,v,l,F,j,w,i⟩:=f;exact ⟨q m,v,l,F,u _ j,w,i.cO k⟩
 |.jW _ _,f=>by obtain ⟨z,o,j,G,i⟩:=f;exact ⟨z,o,j.cO k,G,i.cO (j:=fun C=>True) (f:=⟨h,h,n⟩) ⟨k,y,fun C A=>(A trivial).elim⟩⟩
def o6{h:Type}{g:Option h}(i:∀f,g=O f→False):g=b1:=by
 induction g with
 |none=>rfl
 |some f=>exact (i f rfl).elim
def c7.yY(h:c7 c a d b){f:cz}(i:b.heap.objs.size≤f):a.F f=b1:=o6 fun g j=>absurd (nV (h.ey f g j)) (jI.mpr i)
def c7.pC(h:c7 c a d b){f:cz}(i:b.heap.objs.size≤f):a.T f=b1:=o6 fun g j=>absurd (nV (h.hN f g j)) (jI.mpr i)
def c7.fY(h:c7 c a d b){f:cz}(i:b.heap.objs.size≤f):f∉a.α:=fun g=>by obtain ⟨_,j⟩:=h.uv f g;exact absurd (nV j) (jI.mpr i)
def c7.kR(h:c7 c a d b){g:cz}{f:ea}(i:c.eG.get? g=O f):b.heap.get? g=O f:=h.ey g f (h.kQ g f i)
def c7.KM(i:c7 c a d b)(q:cz→Prop){s:di}{p:eu}(y:Nat)(u:∀j,q j→∃g,a.T j=O g)(r:∀j g,¬q j→b.heap.get? j=O g→p.get? j=O g)(n:∀f g,s f=O g→p.get? f=O g∧a.F f=b1∧f∉a.α):c7 c ⟨a.F,s,a.α⟩ d {b with heap:=p,toks:=y}:=by
 have m:∀j,a.T j=b1→¬q j:=fun j h x=>by
  obtain ⟨g,k⟩:=u j x
  rw [h] at k;exact cG k
 refine ⟨i.cC,i.pZ,fun f l=>let ⟨g,h⟩:=i.uv f l;⟨g,r _ _ (m f (i.jx f l)) h⟩,i.kQ,fun f g h=>r _ _ (m f (i.hF f g h)) (i.ey f g h),fun f g h=>(n f g h).1,fun f g h=>o6 fun o k=>?_,fun f l=>o6 fun o k=>(n f o k).2.2 l,fun v f z t w=>?_,i.qg,i.A1⟩
 ·have:=(n f o k).2.1
  rw [h] at this;exact cG this.symm
 ·exact (i.nB v f z t w).cO (k4.cy _) (jU _) (fun g h=>r _ _ (m f (i.jx f (gj t))) h) id
def c7.iO(g:c7 c a d b){m:eu}(k:Nat)(n:∀h f,b.heap.get? h=O f→m.get? h=O f):c7 c a d {b with heap:=m,toks:=k}:=
 g.KM (fun l=>False) k (fun l o=>o.elim) (fun h f l=>n h f) fun i f j=>⟨n _ _ (g.hN i f j),o6 fun r q=>(by have:=g.hF i r q;rw [j] at this;exact cG this.symm),fun p=>(by have:=g.jx i p;rw [j] at this;exact cG this.symm)⟩
def c7.qh(g:c7 c a d b)(f:Nat):c7 c a d {b with toks:=f}:=g.iO f fun i i h=>h
def c7.d0(g:c7 c a d b)(f:ea):c7 c a d {b with heap:=b.heap.push f}:=g.iO b.toks fun i i h=>ng _ h
def c7.qo(g:c7 c a d b){f:cz}{i:ea}(h:a.T f=O i):a.F f=b1∧f∉a.α:=⟨o6 fun l k=>(by have:=g.hF f l k;rw [h] at this;exact cG this.symm),fun j=>(by have:=g.jx f j;rw [h] at this;exact cG this.symm)⟩
def c7.uw(i:c7 c a d b){j:cz}{k:ea}(y:b.heap.get? j=O k)(A:a.F j=b1)(v:a.T j=b1)(x:∀m:Nat,a.α[m]? =O j→d[m]? =O b1):c7 c ⟨a.F.d6 j k,a.T,a.α⟩ d b∧pY a ⟨a.F.d6 j k,a.T,a.α⟩:=by
 have s:∀(f:cz)(g:ea)(r:Prop),a.F.d6 j k f=O g→(f=j→k=g→r)→(a.F f=O g→r)→r:=fun f g r h l o=>by
  by_cases u:f=j
  ·subst u;rw [di.eF] at h;exact l rfl (dg h)
  ·rw [di.fe _ _ u] at h;exact o h
 have t:pY a ⟨a.F.d6 j k,a.T,a.α⟩:=⟨k4.d6 k A,jU _,fun q q=>rfl⟩
 refine ⟨⟨i.cC,i.pZ,i.uv,i.kQ.ci t.F,fun f g h=>s f g _ h (fun n w=>n▸w▸y) (i.ey f g),i.hN,fun f g h=>s f g _ h (fun n q=>n▸v) (i.hF f g),i.jx,fun m f z l o=>?_,i.qg,i.A1⟩,t⟩
 refine (i.nB m f z l o).cO t.F (jU _) (fun q h=>h) fun h=>o6 fun g p=>s f g _ p (fun n q=>?_) fun p=>by rw [h] at p;exact cG p
 rw [n] at l
 rw [x m l] at o
 cases o
def c7.FZ(f:c7 c a d b){g:cz}{q:dw}(s:g∉a.α)(r:a.T g=b1)(n:∃w,b.heap.get? g=O w)(A:sz c a.F a.α b.heap g q):c7 c ⟨a.F,a.T,a.α++[g]⟩ (d++[O q]) b∧pY a ⟨a.F,a.T,a.α++[g]⟩:=by
 have p:∀{o:cz→Prop},(∀h∈a.α,o h)→o g→∀h∈a.α++[g],o h:=fun i k h n=>(my.mp n).elim (i h) fun u=>ib.mp u▸k
 have t:pY a ⟨a.F,a.T,a.α++[g]⟩:=⟨k4.cy _,vP _ _,fun v v=>rfl⟩
 refine ⟨⟨by (refine bT dZ ?_;refine bT dZ ?_;refine bT f.cC ?_);rfl,zb.mpr ⟨f.pZ,vU.mpr ⟨gD,Mg⟩,fun h x C y z=>s (ib.mp y▸z▸x)⟩,p f.uv n,f.kQ,f.ey,f.hN,f.hF,p f.jx r,fun l h m i k=>?_,f.qg,f.A1⟩,t⟩
 by_cases j:l<a.α.length
 ·rw [ph j] at i
  rw [ph (f.cC▸j)] at k
  show sz c a.F ((a.α++[g]).take l) b.heap h m
  refine bT (TN (iG j)) ?_
  exact f.nB l h m i k
 ·have j:=ra j
  rw [la j] at i
  have:=(fJ.mp i).1
  obtain rfl:l=a.α.length:=r6 (Tw (LV.mp this)) j
  rw [pg] at i
  rw [f.cC,la (dX _),pg] at k
  show sz c a.F ((a.α++[g]).take a.α.length) b.heap h m
  (refine gT (dg i) ?_;refine gT (dg (dg k)) ?_;refine bT ze ?_)
  exact A
def c7.acp(f:c7 c a d b)(h:Nat):c7 c a (d.set h b1) b:=⟨by refine bT m9 ?_;exact f.cC,f.pZ,f.uv,f.kQ,f.ey,f.hN,f.hF,f.jx,fun j n l k g=>f.nB j n l k (by
 by_cases i:h=j
 ·subst i
  rw [TX] at g
  cases m:d[h]? <;>rw [m] at g<;>cases g
 ·rw [pi i] at g;exact g),f.qg,f.A1⟩
def c7.x6(f:c7 c a d b)(h:Nat):c7 c ⟨a.F,a.T,a.α.take h⟩ (d.take h) b:=by
 refine ⟨by (refine bT zd ?_;refine bT zd ?_;refine bT f.cC ?_;rfl),f.pZ.sublist (List.take_sublist _ _),fun g k=>f.uv g (L3 k),f.kQ,f.ey,f.hN,f.hF,fun g k=>f.jx g (L3 k),fun i g l j n=>?_,f.qg,f.A1⟩
 have m:i<h:=hH (fJ.mp j).1 (Ch _ _)
 rw [Gi m] at j n
 have o:(a.α.take h).take i=a.α.take i:=by (refine bT List.take_take ?_;refine bT (y6 (iG m)) ?_;rfl)
 show sz c a.F ((a.α.take h).take i) b.heap g l
 refine bT o ?_
 exact f.nB i g l j n
end
end
section
open PySem PySem.W PyProof.Rows PySem.Calls SeqAt
def Wp(b:Wd)(f:d8){a:Type}(g:gl a)(c:a→cM→Prop)(e:cM):Prop:=n9 (i5 b.dP b.w) f g c (fun d d=>False) e
structure xi(A:d8)(d:Nat):Prop where
 f8:A.handled=b1
 dG:A.depth+4*d<zf
 BT:A.units+20*d+20<t4
def xi.aaY{a:d8}{b:Nat}(c:xi a b):a.units+k5<t4:=abz c.BT
section
variable{a:Wd}{b:dQ}{d:bS}{c:cM}{g:d8}{h:Type}{e:gl h}
def Wp.cO{i l:h→cM→Prop}(f:Wp a g e i c)(m:∀k j,i k j→l k j):Wp a g e l c:=Cm f m fun n n f=>f
def Wp.mQ{i l:h→cM→Prop}{n:cj→cM→Prop}(f:Wp a g e i c)(m:∀k j,i k j→l k j):n9 (i5 a.dP a.w) g e l n c:=Cm f m fun o o f=>f.elim
def VP(a:Wd)(b:dQ)(K:KE)(l:cj)(k:cM):Prop:=∃j i f,pY b f∧dU a f j l∧c7 a f i k∧K j i
def TP(a:Wd)(b:dQ){f:Type}(K:f→bS→Prop)(l:f)(k:cM):Prop:=∃i j,pY b j∧c7 a j i k∧K l i
def VP.hZ{i:dQ}{K:KE}{f:cj}(j:pY b i)(o:VP a i K f c):VP a b K f c:=by obtain ⟨n,k,l,m,p⟩:=o;exact ⟨n,k,l,j.ci m,p⟩
def TP.hZ{i:dQ}{f:Type}{K:f→bS→Prop}{j:f}(k:pY b i)(o:TP a i K j c):TP a b K j c:=by obtain ⟨l,m,n,p⟩:=o;exact ⟨l,m,k.ci n,p⟩
def Wp.vp{e:gl cj}{K:KE}{m:cj→cM→Prop}(r:Wp a g e (VP a b K) c)(o:∀l i k j f,pY b f→dU a f k l→c7 a f j i→K k j→m l i):Wp a g e m c:=r.cO fun l i p=>by obtain ⟨k,j,f,n,t,q,s⟩:=p;exact o l i k j f n t q s
def Wp.ve{k:Type}{e:gl k}{K:k→bS→Prop}{l:k→cM→Prop}(s:Wp a g e (TP a b K) c)(o:∀m f i j,pY b j→c7 a j i f→K m i→l m f):Wp a g e l c:=s.cO fun p f q=>by obtain ⟨i,j,n,r,t⟩:=q;exact o p f i j n r t
def Wp.hZ{e:gl cj}{f:dQ}{K:KE}(l:Wp a g e (VP a f K) c)(i:pY b f):Wp a g e (VP a b K) c:=l.cO fun j j k=>k.hZ i
def Wp.ux{f:Type}{e:gl f}{i:dQ}{K:f→bS→Prop}(m:Wp a g e (TP a i K) c)(j:pY b i):Wp a g e (TP a b K) c:=m.cO fun k k l=>l.hZ j
def VP.m{K:KE}{f:bZ}{i:cj}(k:c7 a b d c)(l:dU a b f i)(j:K f d):VP a b K i c:=⟨f,d,b,.cy _,l,k,j⟩
def VP.f{K:KE}{f:bl}{i:cj}(k:c7 a b d c)(l:g5 a b.F f i)(j:K (.f f) d):VP a b K i c:=⟨.f f,d,b,.cy _,l,k,j⟩
def VP.Z{K:KE}{f:Int}{e:kD}(j:c7 a b d c)(i:K (.f (.Z f)) d):VP a b K (.int f e) c:=.f (f:=.Z f) j ⟨e,rfl⟩ i
def VP.ad{K:KE}{f:b4}{e:kD}(j:c7 a b d c)(i:K (.f (.ad f)) d):VP a b K (.str f e) c:=.f (f:=.ad f) j ⟨e,rfl⟩ i
def VP.b3{K:KE}{f:Bool}(i:c7 a b d c)(j:K (.f (.b3 f)) d):VP a b K (.bool f) c:=.f (f:=.b3 f) i rfl j
def fj{j:Type}{i:Option j}{K:j→Prop}(k:lu i K):∃f,i=O f∧K f:=by
 induction i with
 |none=>exact k.elim
 |some f=>exact ⟨f,rfl,k⟩
def iE{f:Option (bZ×bS)}{K:KE}(j:gw f K):∃i d,f=O (i,d)∧K i d:=by
 induction f with
 |none=>exact j.elim
 |some k=>exact ⟨k.1,k.2,rfl,j⟩
def qT{e:Bool}{i:Prop}(f:pT e i False):e=ar∧i:=by
 induction e with
 |true=>exact ⟨rfl,f⟩
 |false=>exact f.elim
def jC{j:Type}{i:Option j}{k:j→Bool}(l:i.any k=ar):∃f,i=O f∧k f=ar:=by
 induction i with
 |none=>exact dy l
 |some f=>exact ⟨f,rfl,l⟩
def gq{i f:Bool}(j:(i&&f)=ar):i=ar∧f=ar:=iX.mp j
def cH{k j:Type}{i:Option k}{l:k→Option j}{m:j}(n:i.bind l=O m):∃f,i=O f∧l f=O m:=by
 induction i with
 |none=>exact cG n
 |some f=>exact ⟨f,rfl,n⟩
def dC{k j:Type}{i:Option k}{l:k→j}{m:j}(n:i.map l=O m):∃f,i=O f∧l f=m:=by
 induction i with
 |none=>exact cG n
 |some f=>exact ⟨f,rfl,dg n⟩
def eB{i:Prop}[Decidable i]{k:Type}{l:Option k}{m:k}(f:(if i then l else b1)=O m):i∧l=O m:=by
 by_cases j:i
 ·rw [if_pos j] at f;exact ⟨j,f⟩
 ·rw [if_neg j] at f;exact cG f
def Ep{f:List cz}(n:f.Nodup){k m:Nat}{i l:cz}(j:f[k]? =O i)(p:f[m]? =O l)(o:k≠m):l≠i:=by
 rintro rfl
 exact o (List.getElem?_inj (fJ.mp j).1 n |>.mp (j.trans p.symm))
def c7.Zg(i:c7 a b d c){o:Nat}{l:cz}{w:dw}{q:eu}(C:Nat)(r:b.α[o]? =O l)(G:b.F l=b1)(s:t5 l c.heap q)(F:sz a b.F (b.α.take o) q l w)(y:∃k,q.get? l=O k):c7 a b (d.set o (O w)) {c with heap:=q,toks:=C}:=by
 have t:∀{f:cz}{k:ea}{v:di},v l=b1→v f=O k→f≠l:=fun A j m=>by rw [m,A] at j;exact cG j
 refine ⟨by refine bT m9 ?_;exact i.cC,i.pZ,fun f z=>?_,i.kQ,fun f k j=>(s.2 f (t G j)).trans (i.ey f k j),fun f k j=>(s.2 f (t (i.jx l (gj r)) j)).trans (i.hN f k j),i.hF,i.jx,fun u f x n p=>?_,i.qg,i.A1⟩
 ·by_cases m:f=l
  ·exact m▸y
  ·obtain ⟨k,j⟩:=i.uv f z
   exact ⟨k,(s.2 f m).trans j⟩
 ·by_cases m:o=u
  ·subst m
   rw [r] at n
   rw [Gj (i.cC▸(fJ.mp r).1)] at p
   (refine gT (dg n) ?_;refine gT (dg (dg p)) ?_)
   exact F
  ·rw [pi m] at p
   exact (i.nB u f x n p).cO (k4.cy _) (jU _) (fun k j=>(s.2 f (Ep i.pZ r n m)).trans j) id
def xW{l:Nat}{i:Type}{k:dw→Option i}{j:i}(o:(wP d l).bind k=O j):∃f,d[l]? =O (O f)∧k f=O j:=by
 obtain ⟨f,m,p⟩:=cH o
 obtain ⟨q,n,rfl⟩:=cH m
 exact ⟨f,n,p⟩
def PE{i:Nat}{f:List bl}(m:il d i=O f):d[i]? =O (O (.a3 f)):=by
 obtain ⟨l,k,j⟩:=xW m
 induction l with
 |a3 _=>obtain rfl:=dg j;exact k
 |_=>exact cG j
def PF{i:Nat}{f:List (Sum Int b4×bl)}(m:ml d i=O f):d[i]? =O (O (.eg f)):=by
 obtain ⟨l,k,j⟩:=xW m
 induction l with
 |eg _=>obtain rfl:=dg j;exact k
 |_=>exact cG j
def PG{i:Nat}{f:Nat×List bZ}(m:wQ d i=O f):d[i]? =O (O (.jW f.1 f.2)):=by
 obtain ⟨l,k,j⟩:=xW m
 induction l with
 |jW _ _=>obtain rfl:=dg j;exact k
 |_=>exact cG j
def ik{i:bZ}{j:bl}(k:i.f?=O j):i=.f j:=by
 induction i with
 |f _=>exact congrArg bZ.f (dg k)
 |_=>exact cG k
def lz{f:bZ}{i:Nat}(j:f.sf=O i):f=.cu i:=by
 induction f with
 |cu _=>exact congrArg bZ.cu (dg j)
 |_=>exact cG j
def PJ{f:bZ}{i:Nat}(j:f.Vj=O i):f=.fK i:=by
 induction f with
 |fK _=>exact congrArg bZ.fK (dg j)
 |_=>exact cG j
def SO{f:bl}{i:Int}(j:f.kA=O i):f=.Z i:=by
 cases f<;>first|exact congrArg _ (dg j)|exact cG j
def wF{f:bl}{i:b4}(j:f.tv=O i):f=.ad i:=by
 cases f<;>first|exact congrArg _ (dg j)|exact cG j
def KN{f:bl}{i:List bl}(j:f.uc=O i):f=.a3 i:=by
 cases f<;>first|exact congrArg _ (dg j)|exact cG j
def xX{f:bl}{i:Nat×List bl}(j:f.QN=O i):f=.gJ i.1 i.2:=by
 cases f<;>first|exact dg j▸rfl|exact cG j
def rG{f:bl}{i:Nat}(j:f.wR=O i):f=.ob i:=by
 cases f<;>first|exact congrArg _ (dg j)|exact cG j
def xY{f:bZ}(k:f.gr=ar):f=.f .bX:=by
 obtain ⟨j,i,l⟩:=jC k
 obtain rfl:=ik i
 cases j<;>first|rfl|exact dy l
def jD{f:bZ}{i:Int}(k:f.kA=O i):f=.f (.Z i):=by
 obtain ⟨m,j,l⟩:=cH k
 (refine bT (ik j) ?_;refine bT (SO l) ?_;rfl)
def xZ{f:bZ}{i:b4}(k:f.tv=O i):f=.f (.ad i):=by
 obtain ⟨m,j,l⟩:=cH k
 (refine bT (ik j) ?_;refine bT (wF l) ?_;rfl)
noncomputable def Dt(f:Bool×List bl):bl:=cond f.1 (.cQ f.2) (.a3 f.2)
def te{f:bl}{j:Bool×List bl}(i:si f=O j):f=Dt j:=by
 cases f<;>first|exact dg i▸rfl|exact cG i
def ga{l j:Type}{f:Option l}{m:Option j}{n:l→Option j}{k:j}(o:f.elim m n=O k):(f=b1∧m=O k)∨∃i,f=O i∧n i=O k:=by
 induction f with
 |none=>exact .inl ⟨rfl,o⟩
 |some i=>exact .inr ⟨i,rfl,o⟩
def c7.rZ(n:c7 a b d c){i:Nat}{f:cz}{k:List bl}(m:b.α[i]? =O f)(o:il d i=O k):b.F f=b1∧∃j l,c.heap.get? f=O (dl "list" j l)∧dB a b.F k j:=n.nB i f _ m (PE o)
def c7.A2(n:c7 a b d c){i:Nat}{f:cz}{j:List (Sum Int b4×bl)}(m:b.α[i]? =O f)(o:ml d i=O j):b.F f=b1∧(f==qG)=b2∧∃k l,c.heap.get? f=O k∧k.IsDictOf (i8 a.dP a.w) l∧ij a b.F j l:=n.nB i f _ m (PF o)
def mf{s:cj}{r:bZ}{t:bl}{n:Bool×List bl}(p:c7 a b d c)(q:dU a b r s)(k:ud d r=O t)(x:si t=O n):∃i j l,s=.ref i∧c.heap.get? i=O (dl (cond n.1 "tuple" "list") j l)∧dB a b.F n.2 j:=by
 refine bU fun f=>?_
 obtain rfl:=te x
 obtain ⟨e,A⟩:=n
 refine f ?_;try clear f
 rcases ga k with ⟨_,k⟩|⟨C,w,k⟩
 ·obtain rfl:=ik k
  induction e
  ·refine bU fun f=>?_
   obtain ⟨i,j,l,rfl,o,m⟩:=q
   refine f ?_;try clear f
   exact ⟨i,j,l,rfl,p.ey _ _ o,m⟩
  ·refine bU fun f=>?_
   obtain ⟨i,j,l,rfl,o,m⟩:=q
   refine f ?_;try clear f
   exact ⟨i,j,l,rfl,p.ey _ _ o,m⟩
 ·refine bU fun f=>?_
  obtain rfl:=lz w
  obtain ⟨z,v,k⟩:=dC k
  refine f ?_;try clear f
  induction e
  ·cases k
   refine bU fun f=>?_
   obtain ⟨i,rfl,y⟩:=q
   obtain ⟨_,j,l,u,m⟩:=p.rZ y v
   refine f ?_;try clear f
   exact ⟨i,j,l,rfl,u,m⟩
  ·cases k
def tf{j:cj}{k:bZ}{i:bl}(m:dU a b k j)(f:ud d k=O i)(n:i.uc=b1):g5 a b.F i j:=by
 rcases ga f with ⟨_,f⟩|⟨p,q,f⟩
 ·obtain rfl:=ik f
  exact m
 ·refine bU fun l=>?_
  obtain ⟨o,_,rfl⟩:=dC f
  refine l ?_;try clear l
  exact cG n.symm
def m5{q:cj}{n:bZ}{p:List bl}(o:c7 a b d c)(r:dU a b n q)(k:kI d n=O p):∃f i j,q=.ref f∧c.heap.get? f=O (dl "list" i j)∧dB a b.F p i:=by
 rcases ga k with ⟨_,k⟩|⟨y,t,k⟩
 ·refine bU fun l=>?_
  obtain ⟨z,u,x⟩:=cH k
  obtain rfl:=ik u
  obtain rfl:=KN x
  obtain ⟨f,i,j,rfl,v,m⟩:=r
  refine l ?_;try clear l
  exact ⟨f,i,j,rfl,o.ey _ _ v,m⟩
 ·refine bU fun l=>?_
  obtain rfl:=lz t
  obtain ⟨f,rfl,w⟩:=r
  obtain ⟨_,i,j,s,m⟩:=o.rZ w k
  refine l ?_;try clear l
  exact ⟨f,i,j,rfl,s,m⟩
end
noncomputable def I4.v:I4→kD→cj
 |.bX,_=>.none
 |.b3 c,_=>.bool c
 |.Z d,a=>.int d a
 |.ad b,a=>.str b a
def Zh{e:d8}{c:cM}{f d:kD}:∀a b:I4,EqAt e c (a.v f) (b.v d) (Q5 a b)∧RcAt e c (a.v f) (b.v d) (Q5 a b)∧RcNeAt e c (a.v f) (b.v d) (!Q5 a b)
 |.bX,.bX=>⟨.same _,.none_none,.none_none⟩
 |.bX,.b3 _=>⟨.none_bool _,.none_bool _,.none_bool _⟩
 |.bX,.Z _=>⟨.none_int _ _,.none_int _ _,.none_int _ _⟩
 |.bX,.ad _=>⟨.none_str _ _,.none_str _ _,.none_str _ _⟩
 |.b3 _,.bX=>⟨.bool_none _,.bool_none _,.bool_none _⟩
 |.b3 _,.b3 _=>⟨.bool_bool _ _,.bool_bool _ _,.bool_bool _ _⟩
 |.b3 _,.Z _=>⟨.bool_int _ _ _,.bool_int _ _ _,.bool_int _ _ _⟩
 |.b3 _,.ad _=>⟨.bool_str _ _ _,.bool_str _ _ _,.bool_str _ _ _⟩
 |.Z _,.bX=>⟨.int_none _ _,.int_none _ _,.int_none _ _⟩
 |.Z _,.b3 _=>⟨.int_bool _ _ _,.int_bool _ _ _,.int_bool _ _ _⟩
 |.Z _,.Z _=>⟨.int_int _ _ _ _,.int_int _ _ _ _,.int_int _ _ _ _⟩
 |.Z _,.ad _=>⟨.int_str _ _ _ _,.int_str _ _ _ _,.int_str _ _ _ _⟩
 |.ad _,.bX=>⟨.str_none _ _,.str_none _ _,.str_none _ _⟩
 |.ad _,.b3 _=>⟨.str_bool _ _ _,.str_bool _ _ _,.str_bool _ _ _⟩
 |.ad _,.Z _=>⟨.str_int _ _ _ _,.str_int _ _ _ _,.str_int _ _ _ _⟩
 |.ad _,.ad _=>⟨.str_str _ _ _ _,.str_str _ _ _ _,.str_str _ _ _ _⟩
def PK{e d:kD}{a b:I4}(c:a.v e=b.v d):Q5 a b=ar:=by
 induction a<;>induction b<;>first|rfl|(cases c;exact beq_self_eq_true _)|cases c
section
variable{e:Wd}{c:di}{a:d8}{d:cM}
noncomputable def I4.x:I4→bl
 |.bX=>.bX
 |.b3 f=>.b3 f
 |.Z g=>.Z g
 |.ad b=>.ad b
def Jh{b:bl}{f:I4}(g:wc b=O f):b=f.x:=by
 cases b<;>first|exact cG g|(obtain rfl:=dg g;rfl)
def acq{f:cj}:∀{g:I4},g5 e c g.x f→∃h,f=g.v h
 |.bX,b=>⟨0,b⟩
 |.b3 _,b=>⟨0,b⟩
 |.Z _,b=>b
 |.ad _,b=>b
def nC{f:bl}{g:I4}{b:cj}(h:wc f=O g)(i:g5 e c f b):∃j,b=g.v j:=acq (Jh h▸i)
def Er{s:bl→bl→Option Bool}:∀{j i:List bl}{l:Bool},j.length=i.length→sg s j i=O l→∃m:Nat→Bool,(∀(h:Nat)(p n:bl),j[h]? =O p→i[h]? =O n→s p n=O (m h))∧l=(f5 j.length).all m:=by
 intro j
 induction j with
 |nil=>
  intro i
  rcases i with _|⟨_,_⟩
  ·intro l _ k
   exact ⟨fun o=>ar,(fun o o o y=>cG y),(dg k).symm⟩
  ·intro g b f
   first|exact cG f|exact dy f|exact oa f|exact pG f|(cases f;done)|exact cG b|exact dy b|exact oa b|exact pG b|(cases b;done)|exact cG g|exact Bool.noConfusion g|exact False.elim g|exact Nat.noConfusion g|(cases g;done)
 |cons p j u=>
  intro i
  rcases i with _|⟨n,i⟩
  ·intro g b f
   first|exact cG f|exact dy f|exact oa f|exact pG f|(cases f;done)|exact cG b|exact dy b|exact oa b|exact pG b|(cases b;done)|exact cG g|exact Bool.noConfusion g|exact False.elim g|exact Nat.noConfusion g|(cases g;done)
  ·intro l w k
   refine bU fun t=>?_
   obtain ⟨C,x,k⟩:=cH k
   obtain ⟨G,F,rfl⟩:=dC k
   obtain ⟨m,z,rfl⟩:=u (mB w) F
   refine t ?_;try clear t
   refine ⟨fun h=>Nat.casesOn h C m,fun h v A r q=>?_,?_⟩
   ·induction h with
    |zero=>obtain rfl:=dg r;obtain rfl:=dg q;exact x
    |succ h=>exact z h v A r q
   ·(refine bT lZ ?_;refine bT List.range_succ_eq_map ?_;refine bT List.all_cons ?_;refine bT List.all_map ?_);rfl
structure Zi(a:d8)(d:cM)(v u:cj)(b:Bool):Prop where
 rc:RcAt a d v u b
 ne:RcNeAt a d v u (!b)
def eN{h:eu}{f:cz}{b:List cj}{g:Nat}(i:h.get? f=O (dl "list" b g)):h.IsList f b.toArray:=⟨_,i,rfl,g,rfl⟩
def kb{h:eu}{f:cz}{b:List cj}{g:Nat}(i:h.get? f=O (dl "tuple" b g)):h.IsTuple f b.toArray:=⟨_,i,rfl,g,rfl⟩
def Zj{I:bl→bl→Option Bool}{z y:cz}{m:Bool}{h q:List bl}{b g:List cj}{ab W:Nat}{T:Bool}(Y:∀(Q F:bl)(L C:cj)(K:Bool),g5 e c Q L→g5 e c F C→I Q F=O K→EqAt a.in1 d L C K)(j:a.units<t4)
  (i:d.heap.get? z=O (dl (cond m "tuple" "list") b ab)) (k:d.heap.get? y=O (dl (cond m "tuple" "list") g W)) (n:dB e c h b) (v:dB e c q g)
  (r:(if h.length=q.length then sg I h q else cond m b1 (O b2))=O T):Zi a d (.ref z) (.ref y) T:=by
 by_cases o:h.length=q.length
 ·rw [if_pos o] at r
  refine bU fun R=>?_
  obtain ⟨t,ac,rfl⟩:=Er o r
  refine R ?_;try clear R
  have u:∀f(w:f<b.toArray.size)(x:f<g.toArray.size),EqAt a.in1 d b.toArray[f] g.toArray[f] (t f):=fun f w x=>by
   have ae:f<h.length:=n.cC▸w
   have aa:f<q.length:=v.cC▸x
   have G:=gS ae
   have A:=gS aa
   exact Y _ _ _ _ _ (n.mK G (gS w)) (v.mK A (gS x)) (ac f _ _ G A)
  have l:b.toArray.size=g.toArray.size:=by (refine bT iy ?_;refine bT iy ?_;refine bT n.cC ?_;refine bT v.cC ?_;refine bT o ?_;rfl)
  have P:(f5 b.toArray.size).all t=(f5 h.length).all t:=by (refine bT iy ?_;refine bT n.cC ?_;rfl)
  induction m
  ·have p:=RcAt.lists (eN i) (eN k) l j u
   have s:=RcNeAt.lists (eN i) (eN k) l j u
   rw [P] at p s
   exact ⟨p,s⟩
  ·have p:=RcAt.tuples (kb i) (kb k) j u
   have s:=RcNeAt.tuples (kb i) (kb k) j u
   have X:((f5 (min b.toArray.size g.toArray.size)).all t&&b.toArray.size==g.toArray.size)=(f5 h.length).all t:=by (refine gT l ?_;rewrite [TM,beq_self_eq_true,LM];refine bT P ?_;rfl)
   rw [X] at p s
   exact ⟨p,s⟩
 ·rw [if_neg o] at r
  induction m
  ·obtain rfl:=dg r
   have l:(b.toArray.size !=g.toArray.size)=ar:=by
    (refine bT iy ?_;refine bT iy ?_;refine bT n.cC ?_;refine bT v.cC ?_)
    exact bne_iff_ne.mpr o
   exact ⟨RcAt.lists_lengths (eN i) (eN k) l j,RcNeAt.lists_lengths (eN i) (eN k) l j⟩
  ·exact cG r
def BU{k:Nat}{g l:bl}{n:Bool}(s:wc g=b1)(b:nt (k+1) g l=O n):∃i h f,g=Dt (i,h)∧l=Dt (i,f)∧(if h.length=f.length then sg (nt k) h f else cond i b1 (O b2))=O n:=by
 unfold nt at b
 rw [s] at b
 refine bU fun m=>?_
 obtain ⟨j,o,b⟩:=cH b
 obtain ⟨q,r,b⟩:=cH b
 obtain ⟨p,b⟩:=eB b
 refine m ?_;try clear m
 refine ⟨j.1,j.2,q.2,te o,?_,b⟩
 refine bT p ?_;exact te r
def wG{b:Bool}{i:List bl}{f:cj}(k:g5 e c (Dt (b,i)) f):∃g h j,f=.ref g∧c g=O (dl (cond b "tuple" "list") h j)∧dB e c i h:=by
 induction b<;>exact k
def PL:∀(h:Nat){n:cj}{i k:bl}{q:Bool},g5 e c i n→g5 e c k n→nt h i k=O q→q=ar:=by
 intro h
 induction h with
 |zero=>
  intro _ _ _ _ _ _ g
  exact cG g
 |succ h z=>
  intro n i k q v r g
  cases j:wc i with
  |some Y=>
   unfold nt at g
   rw [j] at g
   refine bU fun b=>?_
   obtain ⟨aa,L,rfl⟩:=dC g
   obtain ⟨C,rfl⟩:=nC j v
   obtain ⟨T,f⟩:=nC L r
   refine b ?_;try clear b
   exact PK f
  |none=>
   refine bU fun b=>?_
   obtain ⟨C,X,F,rfl,rfl,w⟩:=BU j g
   obtain ⟨ab,u,R,rfl,P,l⟩:=wG v
   obtain ⟨Q,I,W,f,y,x⟩:=wG r
   refine b ?_;try clear b
   cases f
   rw [P] at y
   refine bU fun b=>?_
   obtain rfl:u=I:=by
    have:=congrArg Obj.data (dg y)
    injection this with this _
    exact congrArg MH this
   have m:=l.cC.symm.trans x.cC
   rw [if_pos m] at w
   obtain ⟨j,K,rfl⟩:=Er m w
   refine b ?_;try clear b
   refine lD.mpr fun o A=>?_
   have p:=nf.mp A
   have G:o<F.length:=m▸p
   have t:o<u.length:=l.cC.symm▸p
   have s:=gS p
   have f:=gS G
   exact z (l.mK s (gS t)) (x.mK f (gS t)) (K o _ _ s f)
def X7:∀(b:Nat){a:d8}{h g:cj}{i l:bl}{k:Bool},k4 c d.heap.get?→a.units+b<t4→g5 e c i h→g5 e c l g→nt b i l=O k→EqAt a d h g k∧Zi a d h g k:=by
 intro b
 induction b with
 |zero=>
  intro _ _ _ _ _ _ _ _ _ _ f
  exact cG f
 |succ b x=>
  intro a h g i l k o aa n m f
  cases p:wc i with
  |some t=>
   unfold nt at f
   rw [p] at f
   refine bU fun j=>?_
   obtain ⟨I,L,rfl⟩:=dC f
   obtain ⟨r,rfl⟩:=nC p n
   obtain ⟨F,rfl⟩:=nC L m
   obtain ⟨y,K,w⟩:=Zh (e:=a) (c:=d) (f:=r) (d:=F) t I
   refine j ?_;try clear j
   exact ⟨y,K,w⟩
  |none=>
   refine bU fun j=>?_
   obtain ⟨r,ab,X,rfl,rfl,P⟩:=BU p f
   obtain ⟨u,ae,W,rfl,Q,A⟩:=wG n
   obtain ⟨q,ac,Y,rfl,R,T⟩:=wG m
   refine j ?_;try clear j
   have s:Zi a d (.ref u) (.ref q) k:=Zj (fun i l h g t C G z=>(x o (by show a.units+1+b<t4;lia) C G z).1) (by lia) (o _ _ Q) (o _ _ R) A T P
   refine ⟨?_,s⟩
   by_cases v:u=q
   ·subst v
    refine bT (PL (b+1) n m f) ?_
    exact .same _
   ·exact .of_refs v s.rc
end
def kn(a:Wd)(b:Nat)(c:lb):Prop:=(jj a.K (.ref (a.eS b)) "__getattribute__"=O (O (.builtin "object.__getattribute__")))∧(jj a.K (.ref (a.eS b)) "__getattr__"=O b1)∧(GV a.K (a.eS b)=ar)∧(∀e∈c.dj,jj a.K (.ref (a.eS b)) e=O b1)∧(jj a.K (.ref (a.eS b)) "__setattr__"=O (O (.builtin "object.__setattr__")))∧(GW a.K (a.eS b)=ar)∧(makesIn a.K (a.eS b)=ar)∧(jj a.K (.ref (a.eS b)) "__init__"=O (O (.ref (a.jT c.gv))))∧(zp a.K (.ref (a.jT c.gv))=O (.type "function"))∧(∀d∈c.kH,jj a.K (.ref (a.eS b)) d.1=O (O (.ref (a.jT d.2)))∧d.1∉c.dj∧zp a.K (.ref (a.jT d.2))=O (.type "function"))∧(∀d∈c.kH,d.2<1000)∧(lR a.K (.ref (a.eS b))=ar)∧(c.dj.Nodup)
section
variable{a:Wd}{c:Nat}{d:lb}(b:kn a c d)
include b
def kn.uy:jj a.K (.ref (a.eS c)) "__getattribute__"=O (O (.builtin "object.__getattribute__")):=b.1
def kn.SP:jj a.K (.ref (a.eS c)) "__getattr__"=O b1:=b.2.1
def kn.A3:GV a.K (a.eS c)=ar:=b.2.2.1
def kn.dj:∀e∈d.dj,jj a.K (.ref (a.eS c)) e=O b1:=b.2.2.2.1
def kn.SQ:jj a.K (.ref (a.eS c)) "__setattr__"=O (O (.builtin "object.__setattr__")):=b.2.2.2.2.1
def kn.cE:GW a.K (a.eS c)=ar:=b.2.2.2.2.2.1
def kn.aaZ:makesIn a.K (a.eS c)=ar:=b.2.2.2.2.2.2.1
def kn.gv:jj a.K (.ref (a.eS c)) "__init__"=O (O (.ref (a.jT d.gv))):=b.2.2.2.2.2.2.2.1
def kn.X8:zp a.K (.ref (a.jT d.gv))=O (.type "function"):=b.2.2.2.2.2.2.2.2.1
def kn.kH:∀e∈d.kH,jj a.K (.ref (a.eS c)) e.1=O (O (.ref (a.jT e.2)))∧e.1∉d.dj∧zp a.K (.ref (a.jT e.2))=O (.type "function"):=b.2.2.2.2.2.2.2.2.2.1
def kn.PM:∀e∈d.kH,e.2<1000:=b.2.2.2.2.2.2.2.2.2.2.1
def kn.iO:lR a.K (.ref (a.eS c))=ar:=b.2.2.2.2.2.2.2.2.2.2.2.1
def kn.pZ:d.dj.Nodup:=b.2.2.2.2.2.2.2.2.2.2.2.2
end
def NY(g:Wd)(f:di)(b:List (b4×bl))(c:b4→Option cj):Prop:=∀a,(b.lookup a=b1→c a=b1)∧∀e,b.lookup a=O e→∃d,c a=O d∧g5 g f e d
def kc(a:Wd):Prop:=(a.K.In a.eG)∧(∃k n,a.eG.get? k=O n∧qG<k)∧(∀c,a.yo c≠ .none)∧(∀(m:Nat)(b:b4)(i:bl),a.T.pS[m]? =O (b,i)→∃d f,a.eG.Ns pJ d∧g5 a a.eG.get? i f∧(d b=O f∨(d b=b1∧∃e,a.eG.Ns qH e∧e b=O f)))∧(∀b:String,b∈(["range","enumerate","zip"] :List String)→∃d e,a.eG.Ns pJ d∧d (oA b)=b1∧a.eG.Ns qH e∧e (oA b)=O (.type b))∧(∀c,Cs (a.yo c)=ar)∧(∀(l:Nat)(c:lb),a.T.e7[l]? =O c→kn a l c)∧(∀(g:Nat)(h:List (b4×bl)),a.T.ll[g]? =O h→∃j:b4→Option cj,a.eG.MapOf (strKind a.dP a.w) (a.kP g) j∧(a.kP g==qG)=b2∧NY a a.eG.get? h j)
section
variable{a:Wd}(b:kc a)
include b
def kc.F0:a.K.In a.eG:=b.1
def kc.X9:∃c d,a.eG.get? c=O d∧qG<c:=b.2.1
def kc.Ya:∀c,a.yo c≠ .none:=b.2.2.1
def kc.pS:∀(h:Nat)(c:b4)(f:bl),a.T.pS[h]? =O (c,f)→∃d e,a.eG.Ns pJ d∧g5 a a.eG.get? f e∧(d c=O e∨(d c=b1∧∃g,a.eG.Ns qH g∧g c=O e)):=b.2.2.2.1
def kc.aa0:∀c:String,c∈(["range","enumerate","zip"] :List String)→∃d e,a.eG.Ns pJ d∧d (oA c)=b1∧a.eG.Ns qH e∧e (oA c)=O (.type c):=b.2.2.2.2.1
def kc.Yb:∀c,Cs (a.yo c)=ar:=b.2.2.2.2.2.1
def kc.e7:∀(c:Nat)(d:lb),a.T.e7[c]? =O d→kn a c d:=b.2.2.2.2.2.2.1
def kc.ll:∀(c:Nat)(e:List (b4×bl)),a.T.ll[c]? =O e→∃d:b4→Option cj,a.eG.MapOf (strKind a.dP a.w) (a.kP c) d∧(a.kP c==qG)=b2∧NY a a.eG.get? e d:=b.2.2.2.2.2.2.2
end
def nZ{m:r9}{k:t3}{K:Type}[DecidableEq K]{f:KeyKind m k K}{e c:eu}{b:cz}{d:K→Option cj}(l:e.MapOf f b d)(i:∀g a,e.get? g=O a→c.get? g=O a):c.MapOf f b d:=by obtain ⟨a,j,n,o,h⟩:=l;exact ⟨a,j,n,i _ _ o,h⟩
noncomputable def Du:Fo→jK
 |.cZ=>.Eq|.ne=>.NotEq|.jL=>.Lt|.gm=>.LtE|.tq=>.Gt|.mC=>.GtE|.ft=>.In|.fY=>.NotIn|.wb=>.Is|.oc _=>.IsNot
noncomputable def v4:cj→Option I4
 |.none=>O .bX
 |.bool b=>O (.b3 b)
 |.int c _=>O (.Z c)
 |.str a _=>O (.ad a)
 |_=>b1
def C9(b a:cj):Bool:=((v4 b).bind fun c=>(v4 a).map (Q5 c)).getD b2
def Zk{b:kD}:∀a:I4,v4 (a.v b)=O a
 |.bX=>rfl
 |.b3 _=>rfl
 |.Z _=>rfl
 |.ad _=>rfl
section
variable{a:Wd}{b:dQ}{e:bS}{c:cM}{d:d8}{g:Nat}
def Yc{m q:Bool}{n:cj}{p:cz}{j:List cj}{s:Nat}{o:cj→cM→Prop}(h:cj→Bool)(l:c.heap.get? p=O (dl (cond q "tuple" "list") j s))(i:∀f,f∈j→EqAt d.in1 c f n (h f))(k:o (.bool (cond m (!j.any h) (j.any h))) c):Wp a d (zi (cond m .NotIn .In) n (.ref p)) o c:=by
 have i:∀f,f∈j.toArray→EqAt d.in1 c f n (h f):=fun f r=>i f (List.mem_toArray.mp r)
 rw [← List.any_toArray] at k
 induction m<;>induction q
 ·exact in_listAt h (eN l) i k
 ·exact in_tupleAt h (kb l) i k
 ·exact notIn_listAt h (eN l) i k
 ·exact notIn_tupleAt h (kb l) i k
def SR{w:di}{x:bl}{l:cj}(P:g5 a w x l):∀{j:List bl}{r:List cj}{m:Bool},dB a w j r→zu x j=O m→(∀i,i∈r→EqAt d c i l (C9 i l))∧r.any (C9 · l)=m:=by
 intro j
 induction j with
 |nil=>
  intro _ m s h
  subst s
  exact ⟨(fun Y k=>absurd k gD),dg h⟩
 |cons W j z=>
  intro _ m s h
  refine bU fun f=>?_
  obtain ⟨aa,X,rfl,F,R⟩:=s
  obtain ⟨Q,h⟩:=eB h
  obtain ⟨I,G⟩:=gq Q
  obtain ⟨ab,q,h⟩:=cH h
  obtain ⟨T,L,rfl⟩:=dC h
  obtain ⟨o,u⟩:=F7.mp I
  obtain ⟨n,t⟩:=F7.mp G
  refine f ?_;try clear f
  unfold nt at q
  rw [u] at q
  refine bU fun f=>?_
  obtain ⟨ac,v,rfl⟩:=dC q
  refine f ?_;try clear f
  rw [t] at v
  obtain rfl:=dg v
  refine bU fun f=>?_
  obtain ⟨A,rfl⟩:=nC u F
  obtain ⟨K,rfl⟩:=nC t P
  obtain ⟨C,y⟩:=z R L
  refine f ?_;try clear f
  have k:C9 (o.v A) (n.v K)=Q5 o n:=by unfold C9;rw [Zk,Zk];rfl
  refine ⟨fun i p=>?_,by (refine bT Gv ?_;refine bT k ?_;refine bT y ?_;rfl)⟩
  rcases eP.mp p with rfl|p
  ·refine bT k ?_;exact (Zh o n).1
  ·exact C i p
def A4(L:kc a)(t:Bool)(j:c7 a b e c){m o:cj}{C v:bZ}{w:Bool}(z:dU a b C m)(G:dU a b v o)(r:Wh a.T e C v=O w):Wp a d (zi (cond t .NotIn .In) m o) (fun T ab=>T=.bool (cond t (!w) w)∧c7 a b e ab) c:=by
 refine bU fun f=>?_
 obtain ⟨ak,Y,r⟩:=cH r
 obtain rfl:=ik Y
 refine f ?_;try clear f
 rcases ga r with ⟨_,s⟩|⟨g,q,s⟩
 ·refine bU fun f=>?_
  obtain ⟨af,Q,l⟩:=cH s
  obtain ⟨p,n,I⟩:=cH Q
  obtain ⟨ag,ai,ae,rfl,R,K⟩:=mf j G n I
  refine f ?_;try clear f
  unfold ic at l
  obtain ⟨aa,P⟩:=SR (d:=d.in1) (c:=c) z K l
  exact Yc (C9 · m) R aa ⟨by (refine bT P ?_;rfl),j⟩
 ·refine bU fun f=>?_
  obtain ⟨p,n,q⟩:=cH q
  obtain rfl:=ik n
  obtain rfl:=rG q
  obtain ⟨u,W,l⟩:=cH s
  obtain ⟨h,ac,rfl⟩:=dC l
  obtain rfl:=wF ac
  obtain ⟨x,rfl⟩:=z
  obtain rfl:o=.ref (a.kP g):=G
  obtain ⟨X,k,A,y⟩:=L.ll g u W
  refine f ?_;try clear f
  have k:=nZ k fun v ah i=>j.kR i
  have i:(X h).isSome=(u.lookup h).isSome:=by
   cases F:u.lookup h with
   |none=>refine bT ((y h).1 F) ?_;rfl
   |some p=>obtain ⟨m,i,_⟩:=(y h).2 p F;refine bT i ?_;rfl
  induction t
  ·exact wpAny_in_of (GI a.dP a.w h x) A k ⟨by refine bT i ?_;rfl,j.qh _⟩
  ·exact wpAny_notIn_of (GI a.dP a.w h x) A k ⟨by refine bT i ?_;rfl,j.qh _⟩
def Es(o:c7 a b e c)(Q:d.units+k5<t4){q m:cj}{w A:bZ}{k n:bl}{C:Bool}(u:dU a b w q)(F:dU a b A m)(t:ud e w=O k)(s:ud e A=O n)(f:WV k n=O C):Zi d c q m C:=by
 rw [WW] at f
 cases l:wc k with
 |some h=>
  have f:=f
  unfold nt k5 at f
  dsimp only at f
  rw [l] at f
  refine bU fun i=>?_
  obtain ⟨v,x,rfl⟩:=dC f
  have z:∀{p:bl}{h:I4},wc p=O h→p.uc=b1:=fun {p h} Y=>by refine bT (Jh Y) ?_;induction h<;>rfl
  obtain ⟨j,rfl⟩:=nC l (tf u t (z l))
  obtain ⟨ag,rfl⟩:=nC x (tf F s (z x))
  refine i ?_;try clear i
  exact ⟨(Zh h v).2.1,(Zh h v).2.2⟩
 |none=>
  refine bU fun i=>?_
  obtain ⟨j,R,L,rfl,rfl,X⟩:=BU l f
  have y:∀r,si (Dt (j,r))=O (j,r):=fun r=>by induction j<;>rfl
  obtain ⟨ab,ai,af,rfl,G,K⟩:=mf o u t (y R)
  obtain ⟨ac,ah,ae,rfl,T,aa⟩:=mf o F s (y L)
  refine i ?_;try clear i
  exact Zj (fun k n q m h W P I=>(X7 11 o.ey (by show d.units+1+11<t4;unfold k5 at Q;lia) W P I).1) (by lia) G T K aa X
def KO{q:di}{l:cj}:∀{m:bl},g5 a q m l→(∃h,l=.ref h∧m.gr=b2)∨(∃p j,m=I4.x p∧l=p.v j)∨∃k,m=.bi k∧l=a.yo k
 |.bX,f=>.inr (.inl ⟨.bX,0,rfl,f⟩)
 |.b3 r,f=>.inr (.inl ⟨.b3 r,0,rfl,f⟩)
 |.Z n,f=>f.elim fun j o=>.inr (.inl ⟨.Z n,j,rfl,o⟩)
 |.ad n,f=>f.elim fun j o=>.inr (.inl ⟨.ad n,j,rfl,o⟩)
 |.cQ _,f=>f.elim fun h f=>f.elim fun i f=>f.elim fun i f=>.inl ⟨h,f.1,rfl⟩
 |.a3 _,f=>f.elim fun h f=>f.elim fun i f=>f.elim fun i f=>.inl ⟨h,f.1,rfl⟩
 |.gJ _ _,f=>f.elim fun h f=>f.elim fun i f=>f.elim fun i f=>.inl ⟨h,f.1,rfl⟩
 |.fn _,f=>.inl ⟨_,f,rfl⟩
 |.kE _,f=>.inl ⟨_,f,rfl⟩
 |.bi k,f=>.inr (.inr ⟨k,rfl,f⟩)
 |.ob _,f=>.inl ⟨_,f,rfl⟩
def yp{j:bZ}{l:cj}(h:dU a b j l):(∃i,l=.ref i∧j.gr=b2)∨(∃m q,j=.f (I4.x m)∧l=m.v q)∨∃k,j=.f (.bi k)∧l=a.yo k:=by
 induction j with
 |f _=>exact (KO h).imp id fun r=>r.imp (fun n=>by obtain ⟨m,q,p,o⟩:=n;exact ⟨m,q,congrArg bZ.f p,o⟩) fun n=>by obtain ⟨k,p,o⟩:=n;exact ⟨k,congrArg bZ.f p,o⟩
 |cu _=>exact h.elim fun i h=>.inl ⟨i,h.1,rfl⟩
 |fK _=>exact h.elim fun i h=>.inl ⟨i,h.1,rfl⟩
def Et(m:kc a){h:bZ}{f:cj}(k:dU a b h f):(f== .none)=h.gr:=by
 rcases yp k with ⟨n,rfl,j⟩|⟨l,o,rfl,rfl⟩|⟨i,rfl,rfl⟩
 ·refine bT j ?_;rfl
 ·induction l<;>rfl
 ·exact beq_eq_false_iff_ne.mpr (m.Ya i)
def dU.Yd(l:kc a){i:bZ}{f:cj}(j:dU a b i f):Cs f=ar:=by
 rcases yp j with ⟨n,rfl,m⟩|⟨k,o,rfl,rfl⟩|⟨h,rfl,rfl⟩
 ·rfl
 ·induction k<;>rfl
 ·exact l.Yb h
def QW{m q:bZ}{l o:cj}{n:Int→Int→Bool}{r:Bool}(t:dU a b m l)(u:dU a b q o)(i:(m.kA.bind fun f=>q.kA.bind fun h=>O (n f h))=O r):∃f h k j,l=.int f k∧o=.int h j∧r=n f h:=by
 refine bU fun p=>?_
 obtain ⟨f,v,i⟩:=cH i
 obtain ⟨h,s,i⟩:=cH i
 obtain rfl:=jD v
 obtain rfl:=jD s
 obtain ⟨k,rfl⟩:=t
 obtain ⟨j,rfl⟩:=u
 refine p ?_;try clear p
 exact ⟨f,h,k,j,rfl,rfl,(dg i).symm⟩
def KP(p:kc a)(i:c7 a b e c)(C:d.units+k5<t4):∀{q:Fo}{y s:cj}{z o:bZ}{A:Bool},dU a b z y→dU a b o s→fh a.T e q z o=O A→Wp a d (zi (Du q) y s) (fun w F=>w=.bool A∧c7 a b e F) c:=by
 intro q y s z o A j k f
 induction q with
 |cZ=>
  refine bU fun h=>?_
  obtain ⟨m,t,f⟩:=cH f
  obtain ⟨l,r,f⟩:=cH f
  refine h ?_;try clear h
  exact (Es i C j k t r f).rc a.dP a.w _ _ ⟨rfl,i⟩
 |ne=>
  refine bU fun h=>?_
  obtain ⟨m,t,f⟩:=cH f
  obtain ⟨l,r,f⟩:=cH f
  obtain ⟨w,x,rfl⟩:=dC f
  refine h ?_;try clear h
  exact (Es i C j k t r x).ne a.dP a.w _ _ ⟨rfl,i⟩
 |jL=>
  refine bU fun h=>?_
  obtain ⟨m,l,u,v,rfl,rfl,rfl⟩:=QW j k f
  refine h ?_;try clear h
  exact PySem.P.lt_int ⟨rfl,i⟩
 |gm=>
  refine bU fun h=>?_
  obtain ⟨m,l,u,v,rfl,rfl,rfl⟩:=QW j k f
  refine h ?_;try clear h
  exact PySem.P.le_int ⟨rfl,i⟩
 |tq=>
  refine bU fun h=>?_
  obtain ⟨m,l,u,v,rfl,rfl,rfl⟩:=QW j k f
  refine h ?_;try clear h
  exact PySem.P.gt_int ⟨rfl,i⟩
 |mC=>
  refine bU fun h=>?_
  obtain ⟨m,l,u,v,rfl,rfl,rfl⟩:=QW j k f
  refine h ?_;try clear h
  exact PySem.P.ge_int ⟨rfl,i⟩
 |ft=>exact A4 p b2 i j k f
 |fY=>
  refine bU fun h=>?_
  obtain ⟨w,x,rfl⟩:=dC f
  refine h ?_;try clear h
  exact A4 p ar i j k x
 |wb=>
  cases n:o.gr
  ·unfold fh at f;rw [n] at f;exact cG f
  ·obtain rfl:=xY n
   cases k
   exact is_none_gen ⟨by (refine bT (Et p j) ?_;refine gT (dg f) ?_;rfl),i⟩
 |oc _=>
  cases n:o.gr
  ·unfold fh at f;rw [n] at f;exact cG f
  ·obtain rfl:=xY n
   cases k
   exact isnot_none_gen ⟨by (refine bT (Et p j) ?_;refine gT (dg f) ?_;rfl),i⟩
end
noncomputable def WF:z8→GL
 |.dc=>.Add|.fw=>.Sub|.kF=>.Mult|.ua=>.FloorDiv|.qK=>.Mod|.sd _=>.Pow
def PN{d:Type}(b:List d)(a:Nat):Gx (fun e f=>e++f) (#[] :Array d) (ky a b.toArray)=(ky a b).flatten.toArray:=by
 have h:∀(a:Nat)(c:List d),Gx (fun e f=>e++f) (c.toArray:Array d) (ky a b.toArray)=(c++(ky a b).flatten).toArray:=by
  intro a
  induction a with
  |zero=>intro c;(refine bT L7 ?_;refine bT L7 ?_;refine bT List.flatten_nil ?_;rw [kX]);rfl
  |succ a g=>
   intro c
   (refine bT Gm ?_;refine bT Gr ?_;refine bT Gm ?_;refine bT Mc ?_;rw [← m8,T7])
   exact g (c++b)
 exact h a []
def H2{a:bl}{b:Bool}(d:Nl a=O b):(a=.bX∧b=b2)∨a=.b3 b∨∃c,a=.Z c∧b=(c !=0):=by
 cases a<;>first|exact cG d|(obtain rfl:=dg d;first|exact .inl ⟨rfl,rfl⟩|exact .inr (.inl rfl)|exact .inr (.inr ⟨_,rfl,rfl⟩))
section
variable{a:Wd}{b:dQ}{d:bS}{c:cM}{e:d8}{f:Nat}
def n0(p:c7 a b d c){l:cj}{m:bZ}{q:Type}{K:Bool→bS→Prop}(k:dU a b m l)(h:lu (qa d m) fun j=>K j d):Wp a e (tY l) (TP a b K) c:=by
 refine bU fun g=>?_
 obtain ⟨j,h,n⟩:=fj h
 obtain ⟨r,o,h⟩:=cH h
 obtain rfl:=ik o
 refine g ?_;try clear g
 have i:TP a b K j c:=⟨d,b,.cy _,p,n⟩
 rcases H2 h with ⟨rfl,rfl⟩|rfl|⟨s,rfl,rfl⟩
 ·cases k;exact truthy_none i
 ·cases k;exact GA i
 ·refine bU fun g=>?_
  obtain ⟨t,rfl⟩:=k
  refine g ?_;try clear g
  exact PySem.P.truthy_int i
def tg{g:cz}{k:Nat}{j:List cj}{l:List bl}{fz:Bool}{K:KE}{n:eu}(r:c7 a b d c)(w:Nat)(C:∀y v,c.heap.get? y=O v→n.get? y=O v)(x:b.F g=b1)(p:b.T g=b1)(s:g∉b.α)(o:n.get? g=O (dl "list" j k))(z:dB a b.F l j)(h:gw (iI d fz l) K):VP a b K (.ref g) {c with heap:=n,toks:=w}:=by
 have q:=r.iO w C
 refine bU fun t=>?_
 obtain ⟨F,G,h,u⟩:=iE h
 refine t ?_;try clear t
 induction fz
 ·unfold iI QO at h
  cases (eB h).2
  obtain ⟨m,i⟩:=q.FZ (q:=.a3 l) s p ⟨_,o⟩ ⟨x,j,k,o,z⟩
  refine ⟨_,_,_,i,?_,m,u⟩
  refine ⟨g,rfl,?_⟩
  show (b.α++[g])[d.length]? =_
  (refine gT r.cC ?_;rw [la (dX _),pg]);rfl
 ·cases (eB h).2
  obtain ⟨m,i⟩:=q.uw o x p fun I A=>absurd (gj A) s
  refine ⟨_,_,_,i,?_,m,u⟩
  exact ⟨g,j,k,rfl,di.eF _ _ _,z.cO i.F⟩
def pD{fz:Bool}{h:List bl}{K:KE}(g:gw (iI d fz h) K):h.length≤100000:=by
 refine bU fun i=>?_
 obtain ⟨k,j,g,_⟩:=iE g
 refine i ?_;try clear i
 induction fz
 ·unfold iI QO at g;exact (eB g).1
 ·exact (eB g).1
def oR{h:List cj}{i:List bl}{fz:Bool}{K:KE}(g:c7 a b d c)(l:dB a b.F i h)(k:gw (iI d fz i) K):VP a b K (.ref c.heap.objs.size) {c with heap:=c.heap.push {cls:=.type "list",data:=.seq h.toArray}}:=
 tg (k:=0) g c.toks (fun j j m=>ng _ m) (g.yY (dX _)) (g.pC (dX _)) (g.fY (dX _)) (oz _ rfl) l k
def dB.Zl{h:di}{i:List cj}{j:List bl}(k:dB a h j i):∀g:Nat,dB a h (ky g j).flatten (ky g i).flatten
 | 0=>rfl
 |g+1=>by (refine bT Gm ?_;refine bT Gm ?_;refine bT Mc ?_;refine bT Mc ?_);exact k.NX (k.Zl g)
def c9{i:Type}{h:Option i}{j:i→Option (bZ×bS)}{K:KE}(k:gw (h.bind j) K):∃g,h=O g∧gw (j g) K:=by
 induction h with
 |none=>exact k.elim
 |some g=>exact ⟨g,rfl,k⟩
def jE{h:Prop}[Decidable h]{j:Option (bZ×bS)}{K:KE}(g:gw (if h then j else b1) K):h∧gw j K:=by
 by_cases i:h
 ·rw [if_pos i] at g;exact ⟨i,g⟩
 ·rw [if_neg i] at g;induction g
def oS{i:Type}{g:Option i}{j:Option (bZ×bS)}{k:i→Option (bZ×bS)}{K:KE}(l:gw (g.elim j k) K):(g=b1∧gw j K)∨∃h,g=O h∧gw (k h) K:=by
 induction g with
 |none=>exact .inl ⟨rfl,l⟩
 |some h=>exact .inr ⟨h,rfl,l⟩
def vf{g:Bool}{h:Option (bZ×bS)}{K:KE}(i:gw (cond g h b1) K):g=ar∧gw h K:=by
 induction g with
 |true=>exact ⟨rfl,i⟩
 |false=>exact i.elim
def H3(i:c7 a b d c){l j:Int}{n m:kD}{K:KE}:∀{k:z8},gw (G4 d k l j) K→Wp a e (binaryOp (WF k) (.int l n) (.int j m)) (VP a b K) c
 |.dc,g=>PySem.P.add_int (VP.Z (i.qh _) g)
 |.fw,g=>PySem.P.sub_int (VP.Z (i.qh _) g)
 |.kF,g=>by
  obtain ⟨h,g⟩:=jE g
  exact PySem.P.mul_int (VP.Z (i.qh _) g) (IntMulOk.of_left (intBits_le h.1))
 |.ua,g=>by
  by_cases h:j=0∨¬j.natAbs<1073741824
  ·unfold G4 at g;dsimp only at g;rw [if_pos h] at g;induction g
  ·unfold G4 at g;dsimp only at g;rw [if_neg h] at g
   rw [not_or,Classical.not_not] at h
   exact floordiv_int h.1 (VP.Z (i.qh _) g) (.inl (PyProof.noPylong_small h.2))
 |.qK,g=>by
  by_cases h:j=0
  ·unfold G4 at g;dsimp only at g;rw [if_pos h] at g;induction g
  ·unfold G4 at g;dsimp only at g;rw [if_neg h] at g
   exact mod_int' h (VP.Z (i.qh _) g)
 |.sd _,g=>by
  obtain ⟨h,g⟩:=jE g
  exact pow_int_small h.2.1 (t6 h.2.2 (by decide)) h.1 (VP.Z (i.qh _) g)
def KQ(j:c7 a b d c){fz:Bool}{k:z8}{w t:cj}{x A:bZ}{K:KE}(q:dU a b x w)(G:dU a b A t)(ac:gw (pn d fz k x A) K):Wp a e (binaryOp (WF k) w t) (VP a b K) c:=by
 rcases oS ac with ⟨_,g⟩|⟨h,X,g⟩
 ·obtain ⟨r,s⟩:=vf g
  obtain rfl:k=.dc:=by induction k<;>first|rfl|exact dy r
  obtain ⟨T,m,g⟩:=c9 s
  obtain ⟨al,P,g⟩:=c9 g
  obtain ⟨p,i,h,rfl,y,v⟩:=m5 j q m
  obtain ⟨Q,Y,n,rfl,C,z⟩:=m5 j G P
  have af:=pD g
  refine concat_meets ⟨_,y,rfl⟩ ⟨_,C,rfl⟩ noFill_list_add seq_list_add PySem.F.slot_list_add PySem.F.entry_list_add (PySem.F.args_list_add_2 _ _) (list_addW p Q i.toArray Y.toArray h n b1 b1 #[] #[] (by
   rw [dZ] at af
   (refine bT iy ?_;refine bT iy ?_;refine bT v.cC ?_;refine bT z.cC ?_)
   unfold lP;lia)) ⟨y,C,?_⟩
  rw [T7]
  exact oR j (v.NX z) g
 ·obtain rfl:=jD X
  obtain ⟨o,rfl⟩:=G
  rcases oS g with ⟨_,g⟩|⟨am,m,g⟩
  ·obtain ⟨r,s⟩:=vf g
   obtain rfl:k=.kF:=by induction k<;>first|rfl|exact dy r
   obtain ⟨T,m,g⟩:=c9 s
   obtain ⟨⟨R,ag⟩,g⟩:=jE g
   obtain ⟨p,i,n,rfl,l,F⟩:=m5 j q m
   have ah:Gx (fun ab W=>ab++W) (#[] :Array cj) (ky (if i.toArray.isEmpty=ar then 0 else h.toNat) i.toArray)=(ky h.toNat i).flatten.toArray:=by
    by_cases u:i=[]
    ·(refine bT u ?_;refine bT List.flatten_replicate_nil ?_)
     show Gx _ _ (ky 0 _)=_
     refine bT L7 ?_;rfl
    ·rw [if_neg (by rw [List.isEmpty_toArray];exact fun aa=>u (l0.mp aa)),PN]
   have L:i.length≤1000:=by refine bT F.cC ?_;exact ag
   have I:h.toNat≤1000:=ID R
   have ak:i.toArray.size*h.toNat≤1000*1000:=by refine bT iy ?_;exact Gf L I
   refine wpAny_binaryOp_repeat_ref (T:="list") (U:="int") (by decide) ⟨_,l,rfl⟩ (fun ae=>typeIs_int ae h o) noFill_list_mul PySem.F.fills_int_mul UU repeat_list PySem.F.slot_int_index.lookup
    (zh UU (typeIs_int c h o) PySem.F.entry_int_rmul (PySem.F.args_int_rmul_2 _ _) (int___rmul___int_list h o p i.toArray n)
     ⟨l,rfl,⟨_,l,rfl⟩,zh PySem.F.slot_list_mul ⟨_,l,rfl⟩ PySem.F.entry_list_mul (PySem.F.args_list_mul_2 _ _)
      (AutoListH.list___mul___list_int_3 p i.toArray n h o (by unfold U1;(refine bT (decide_eq_true (by lia)) ?_;refine bT (decide_eq_true (by lia)) ?_);exact kx) (by lia) (by unfold Builtin.List.listTooLong lP;rw [decide_eq_true_iff];lia))
      ⟨l,?_⟩⟩)
   refine bT ah ?_
   exact oR j (F.Zl _) g
  ·obtain rfl:=jD m
   obtain ⟨ai,rfl⟩:=q
   exact H3 j g
def KR(n:c7 a b d c){h:cj}{i:bZ}{K:KE}(m:dU a b i h)(g:lu (Y1 i) fun j=>K j d):Wp a e (unaryOp .USub h) (VP a b K) c:=by
 refine bU fun k=>?_
 obtain ⟨j,g,l⟩:=fj g
 obtain ⟨p,o,rfl⟩:=dC g
 obtain rfl:=jD o
 obtain ⟨q,rfl⟩:=m
 refine k ?_;try clear k
 exact PySem.P.neg_int (VP.Z (n.qh _) l)
end
def A5{f:ea}{g:b4→Option cj}(k:jp f g)(b:b4):lookIn b f=O (g b):=by
 refine bU fun a=>?_
 obtain ⟨m,o,i,l,e⟩:=k
 refine a ?_;try clear a
 unfold lookIn
 refine bT i ?_
 dsimp only
 have:=e b
 unfold tX findBy at this
 rw [← UZ] at this
 split
 ·rename_i h c
  rw [c] at this;exact congrArg O this
 ·rename_i c
  rw [c] at this
  rw [if_neg]
  ·exact congrArg O this
  ·rw [tS]
   rintro ⟨h,e,d⟩
   refine bU fun a=>?_
   obtain ⟨n,p,j⟩:=l h (UY.mp e)
   refine a ?_;try clear a
   unfold DictEntry.refKey at d
   rw [j] at d
   exact dy d
def KT{a:List b4}{b:b4}{d:Nat}(c:a.idxOf? b=O d):a[d]? =O b:=by
 rw [List.idxOf?,List.findIdx?_eq_some_iff_getElem] at c
 obtain ⟨e,f,_⟩:=c
 (rewrite [gS e];refine bT (dr f) ?_;rfl)
section
variable{b:Wd}{d:dQ}{g:bS}{e:cM}{i:d8}{h:Nat}
def c7.F0(a:kc b)(c:c7 b d g e):b.K.In e.heap:=a.F0.keeps fun k j f=>c.kR f
structure Hw(b:Wd)(d:dQ)(e:cM)(v:cj)(c:Nat)(fs:List bZ):Prop where
 ex:∃a k vs h od m,v=.ref a∧b.T.e7[c]? =O k∧qy k m vs∧fs.length=k.dj.length∧ee b d fs vs∧InstAt e.heap a (ki (b.eS c) h) (b.eS c) (O od)∧jp od m
def Hw.eI(k:c7 b d g e){f:cz}{l:Nat}{a:lb}{c:List cj}{j:List bZ}(q:v6 b d.F f l a c)(m:j.length=a.dj.length)(u:ee b d j c):Hw b d e (.ref f) l j:=
by
 obtain ⟨t,h,n,s,o,v,p,r⟩:=q
 exact ⟨f,a,c,h,n,s,rfl,t,r,m,u,⟨k.ey _ _ o,rfl,rfl,k.ey _ _ v⟩,p⟩
def F1(l:c7 b d g e){a:cj}{f:Nat}{c:List bl}(m:dU b d (.f (.gJ f c)) a):Hw b d e a f (c.map .f):=by
 obtain ⟨p,o,q,rfl,k,j,n⟩:=m
 exact .eI l k (by rw [et];exact j) n.Zf
def NZ(j:c7 b d g e){f:cj}{a:Nat}{c:Nat×List bZ}(q:dU b d (.fK a) f)(s:wQ g a=O c):Hw b d e f c.1 c.2:=by
 obtain ⟨o,rfl,p⟩:=q
 obtain ⟨t,u,n,k,r⟩:=j.nB a o _ p (PG s)
 exact .eI j n k (ee.cO (b:=⟨d.F,d.F,d.α.take a⟩) (f:=d) (j:=fun m=>True) ⟨k4.cy _,List.take_prefix _ _,fun m l=>(l trivial).elim⟩ r)
def ee.iU:∀{j:List bZ}{a:Nat}{m:List cj}{n:bZ},ee b d j m→j[a]? =O n→∃f,m[a]? =O f∧dU b d n f:=by
 intro j
 induction j with
 |nil=>
  intro a
  rcases a with _|_
  ·intro _ _ _ c
   exact cG c
  ·intro _ _ _ c
   exact cG c
 |cons _ _ p=>
  intro a
  rcases a with _|a
  ·intro _ _ k c
   obtain ⟨f,_,l,o,_⟩:=k;exact ⟨f,l▸rfl,dg c▸o⟩
  ·intro _ _ k c
   obtain ⟨_,_,l,_,q⟩:=k;exact l▸p (a:=a) q c
def vF(l:kc b)(p:c7 b d g e){r:cj}{f:Nat}{q:List bZ}{c:b4}{n:bZ}{K:KE}(v:Hw b d e r f q)(k:we b.T f q c=O n)(C:K n g):Wp b i (getAttr r c ar) (VP b d K) e:=by
 refine bU fun a=>?_
 obtain ⟨T,F,W,h,Q,X,rfl,t,I,R,L,u,y⟩:=v.ex
 obtain ⟨P,s,k⟩:=cH k
 refine a ?_;try clear a
 rw [t] at s
 obtain rfl:=dg s
 refine bU fun a=>?_
 obtain ⟨G,x,z⟩:=cH k
 obtain ⟨w,A,m⟩:=L.iU z
 refine a ?_;try clear a
 have j:=l.e7 f F t
 have o:=KT x
 exact get_value (p.F0 l) u j.uy (findObj_own j.A3 (j.dj c (gj o)) rfl (by (rewrite [A5 y];refine bT (I.eH G c w o A) ?_;rfl))) (m.Yd l) (VP.m (p.qh _) m C)
def H4(p:kc b)(j:c7 b d g e){t:cj}{s:bZ}{n:b4}{K:KE}(q:dU b d s t)(l:lu (zv b.T g s n) fun o=>K o g):Wp b i (getAttr t n ar) (VP b d K) e:=by
 refine bU fun a=>?_
 obtain ⟨o,l,r⟩:=fj l
 refine a ?_;try clear a
 rcases ga l with ⟨_,m⟩|⟨A,y,m⟩
 ·refine bU fun a=>?_
  obtain ⟨w,f,k⟩:=cH m
  obtain ⟨G,x,f⟩:=cH f
  obtain rfl:=ik x
  obtain rfl:=xX f
  obtain ⟨z,c,rfl⟩:=dC k
  refine a ?_;try clear a
  refine vF p j (F1 j q) ?_ r
  refine bU fun a=>?_
  obtain ⟨C,v,c⟩:=cH c
  obtain ⟨F,u,c⟩:=cH c
  refine a ?_;try clear a
  unfold we
  (refine bT v ?_;rewrite [tn];refine bT u ?_;rewrite [tn,i4];refine bT c ?_);rfl
 ·refine bU fun a=>?_
  obtain rfl:=PJ y
  obtain ⟨w,f,k⟩:=cH m
  refine a ?_;try clear a
  exact vF p j (NZ j q f) k r
def q5{a:Int}{c m:Nat}(j:g8 a c=O m):m<c∧-(2 ^ 62)<a∧a<2 ^ 62+c∧seqIndex? a c=O m∧((0≤a∧a<2 ^ 62∧a.toNat=m)∨(a<0∧-(c:Int)≤a∧(a+c).toNat=m)):=by
 unfold g8 at j
 have n:∀{l:Int},0≤l→l<c→(if (dY (0≤l)&&dY (l<c))=ar then O l.toNat else b1)=O l.toNat:=fun o p=>if_pos (by (refine bT (decide_eq_true o) ?_;refine bT (decide_eq_true p) ?_);rfl)
 unfold seqIndex?
 by_cases f:0≤a
 ·rw [if_pos f] at j
  obtain ⟨k,j⟩:=eB j
  obtain rfl:=dg j
  refine bT (if_neg (zn.mpr f)) ?_
  exact ⟨Og f k.1,GS (by decide) f,GS k.2 (Int.le_add_of_nonneg_right (sb c)),n f k.1,.inl ⟨f,k.2,rfl⟩⟩
 ·rw [if_neg f] at j
  obtain ⟨k,j⟩:=eB j
  obtain rfl:=dg j
  refine bT (if_pos (GU.mp f)) ?_
  exact ⟨by lia,k.2,by lia,n k.1 (by lia),.inr ⟨GU.mp f,by lia,rfl⟩⟩
def Eu{p:di}(c:g6):∀{a:List (g6×bl)}{f:List (g6×cj)},ij b p a f→(∀l,fA c a=O l→∃o,valueAt f c=O o∧g5 b p l o)∧(fA c a=b1→valueAt f c=b1):=by
 intro a
 induction a with
 |nil=>
  intro f m
  exact ⟨(fun t k=>cG k),fun t=>m▸rfl⟩
 |cons n a j=>
  intro f m
  refine bU fun r=>?_
  obtain ⟨u,w,rfl,s,v⟩:=m
  refine r ?_;try clear r
  have j:=j v
  unfold fA valueAt at j⊢
  rw [tT,tT]
  by_cases q:n.1=c
  ·refine bT (decide_eq_true q) ?_
   exact ⟨fun l n=>⟨u,rfl,dg n▸s⟩,fun k=>cG (Eq.symm k)⟩
  ·refine bT (decide_eq_false q) ?_
   exact j
def vG(m:c7 b d g e){a:Sum Int b4}{c:bZ}{j:bl}{o R:cj}{l:kD}{C p:ce}{K:KE}(v:dU b d c o)(F:uO g c a=O j)(Q:∀c f,GG p b2 c f=operate [c,f] (tW c f))(I:K (.f j) g):Wp b i (subscriptTail C p o (KK a l)) (VP b d K) e:=by
 refine bU fun n=>?_
 obtain ⟨W,k,r⟩:=cH F
 obtain ⟨T,s,k⟩:=cH k
 obtain rfl:=lz s
 obtain ⟨z,rfl,L⟩:=v
 obtain ⟨_,_,P,y,w,A,u⟩:=m.A2 L k
 have q:e.heap.DictOf (i8 b.dP b.w) z y:=zl.mpr ⟨P,w,A⟩
 obtain ⟨X,x,t⟩:=(Eu a u).1 j r
 refine n ?_;try clear n
 have G:Hv a (KK a l)=ar:=by
  induction a<;>exact beq_self_eq_true _
 exact Cu q.typeIs Uy.lookup (UC (knd:=i8 b.dP b.w) (k:=a) G q.mapOf x (VP.f (m.qh _) t I)) (Q _ _)
def KU(ac:kc b)(f:c7 b d g e){au T:ce}{y P:cj}{j l:bZ}{K:KE}(p:dU b d j y)(Y:dU b d l P)(A:lu (jX b.T g j l) fun F=>K (.f F) g)(m:∀j l,GG T b2 j l=operate [j,l] (tW j l)):Wp b i (subscriptTail au T y P) (VP b d K) e:=by
 refine bU fun a=>?_
 obtain ⟨F,A,r⟩:=fj A
 refine a ?_;try clear a
 rcases ga A with ⟨_,v⟩|⟨o,G,v⟩
 ·refine bU fun a=>?_
  obtain ⟨o,G,ah⟩:=cH v
  obtain rfl:=xZ G
  obtain ⟨Q,rfl⟩:=Y
  refine a ?_;try clear a
  rcases ga ah with ⟨_,c⟩|⟨h,z,c⟩
  ·exact vG (R:=.none) (a:=.inr o) f p c m r
  ·refine bU fun a=>?_
   obtain ⟨ab,t,z⟩:=cH z
   obtain rfl:=ik t
   obtain rfl:=rG z
   obtain rfl:y=.ref (b.kP h):=p
   obtain ⟨av,an,C⟩:=cH c
   obtain ⟨aC,ag,aA,k⟩:=ac.ll h av an
   have X:=nZ ag (c:=e.heap) fun aF j q=>f.kR q
   obtain ⟨W,n,w⟩:=(k o).2 F C
   refine a ?_;try clear a
   exact Cu X.typeIs Uy.lookup (UC (GI b.dP b.w o Q) X n (VP.f (f.qh _) (g5.cO f.kQ w) r)) (m _ _)
 ·refine bU fun a=>?_
  obtain rfl:=jD G
  obtain ⟨Q,rfl⟩:=Y
  refine a ?_;try clear a
  rcases ga v with ⟨_,c⟩|⟨ab,t,c⟩
  ·exact vG (R:=.none) (a:=.inl o) f p c m r
  ·refine bU fun a=>?_
   obtain ⟨am,ai,af⟩:=cH c
   obtain ⟨aD,ae,C⟩:=cH af
   obtain ⟨aB,aq,az,rfl,R,I⟩:=mf f p t ai
   obtain ⟨W,n,w⟩:=I.iU C
   obtain ⟨aw,aE,ay,aa,ao⟩:=q5 ae
   have u:VP b d K W e:=VP.f f w r
   obtain ⟨al,ak⟩:=am
   refine a ?_;try clear a
   induction al
   ·have k:=eN R
    rcases ao with ⟨s,L,x⟩|⟨s,L,x⟩
    ·exact Cu k.typeIs Uz.lookup (wpAny_getItem_list k s (by lia) (by (refine bT x ?_;rw [tQ]);exact n) u) (m _ _)
    ·have q:aq.toArray.size=ak.length:=by refine bT iy ?_;exact I.cC
     exact Cu k.typeIs Uz.lookup (wpAny_getItem_list_neg k s (by refine bT q ?_;exact L) (by lia) (by (refine bT q ?_;refine bT x ?_;rw [tQ]);exact n) u) (m _ _)
   ·exact item_tupleT (kb R) (by lia) (by lia) (by refine bT I.cC ?_;exact aa) n u (m _ _)
end
section
variable{a:Wd}{c:dQ}{e:bS}{b:cM}{g:d8}{h:Nat}{d:di}
def dB.A6:∀(j:Nat){i:List bl}{k:List cj},dB a d i k→dB a d (i.drop j) (k.drop j):=by
 intro j
 induction j with
 |zero=>
  intro i
  rcases i with _|⟨_,_⟩
  ·intro _ f
   exact f
  ·intro _ f
   exact f
 |succ j l=>
  intro i
  rcases i with _|⟨_,_⟩
  ·intro _ f
   exact f▸rfl
  ·intro _ f
   obtain ⟨_,_,n,_,m⟩:=f;exact n▸l m
def dB.ju:∀(j:Nat){f:List bl}{k:List cj},dB a d f k→dB a d (f.take j) (k.take j):=by
 intro j
 induction j with
 |zero=>
  intro f
  rcases f with _|⟨_,_⟩
  ·intro _ i
   exact rfl
  ·intro _ i
   exact rfl
 |succ j n=>
  intro f
  rcases f with _|⟨_,_⟩
  ·intro _ i
   exact i▸rfl
  ·intro _ i
   obtain ⟨l,_,p,m,o⟩:=i;exact p▸⟨l,_,rfl,m,n o⟩
def dB.SS:∀(j:Nat){i:List bl}{m:List cj},dB a d i m→dB a d (i.eraseIdx j) (m.eraseIdx j):=by
 intro j
 induction j with
 |zero=>
  intro i
  rcases i with _|⟨_,_⟩
  ·intro _ f
   cases f;exact rfl
  ·intro _ f
   obtain ⟨_,_,l,_,k⟩:=f;exact l▸k
 |succ j p=>
  intro i
  rcases i with _|⟨_,_⟩
  ·intro _ f
   cases f;exact rfl
  ·intro _ f
   obtain ⟨n,_,l,o,k⟩:=f;exact l▸⟨n,_,rfl,o,p k⟩
def dB.zE{k:cj}{o:bl}(r:g5 a d o k):∀(j:Nat){i:List bl}{n:List cj},dB a d i n→dB a d (i.set j o) (n.set j k):=by
 intro j
 induction j with
 |zero=>
  intro i
  rcases i with _|⟨_,_⟩
  ·intro _ f
   cases f;exact rfl
  ·intro _ f
   obtain ⟨_,_,m,_,l⟩:=f;exact m▸⟨k,_,rfl,r,l⟩
 |succ j q=>
  intro i
  rcases i with _|⟨_,_⟩
  ·intro _ f
   cases f;exact rfl
  ·intro _ f
   obtain ⟨s,_,m,p,l⟩:=f;exact m▸⟨s,_,rfl,p,q l⟩
def dB.x6{i:List cj}{k:List bl}(l:dB a d k i)(f j:Option Nat):dB a d (Mine.x6 k f j) (Mine.x6 i f j):=by
 unfold Mine.x6;refine bT l.cC ?_;exact (l.ju _).A6 _
def yq{m:cj}{j:bZ}{l:Option Nat}(o:dU a c j m)(f:rO j=O l):Cp m (l.map fun p=>(p:Int)):=by
 rcases ga f with ⟨_,f⟩|⟨n,q,f⟩
 ·cases k:j.gr
  ·rw [k] at f;exact cG f
  ·rw [k] at f
   obtain rfl:=xY k
   obtain rfl:=dg f
   cases o
   exact .none
 ·refine bU fun i=>?_
  obtain rfl:=jD q
  obtain ⟨r,f⟩:=eB f
  refine i ?_;try clear i
  obtain rfl:=dg f
  refine bU fun i=>?_
  obtain ⟨s,rfl⟩:=o
  refine i ?_;try clear i
  have:((n.toNat:Nat):Int)=n:=UF r.1
  show Cp _ (O _)
  refine bT this ?_;exact .int _ _
def Ev{j:cj}{i:Nat}(l:Cp j ((O i).map fun k=>(k:Int))):∃f,j=.int i f:=by
 cases l with
 |int m f=>exact ⟨f,rfl⟩
def PO(f:List cj)(j k:Option Nat):slicePick f.toArray (j.map fun i=>(i:Int)) (k.map fun i=>(i:Int)) b1=(Mine.x6 f j k).toArray:=by
 rw [slicePick_plain]
 congr 1
 unfold Mine.x6
 have r:(j.map fun i=>(i:Int)).elim 0 (clipAt f.toArray.size)=min (j.getD 0) f.length:=by
  induction j
  ·exact (Nat.zero_min _).symm
  ·exact clipAt_nat ..
 have p:(k.map fun i=>(i:Int)).elim f.toArray.size (clipAt f.toArray.size)=min (k.getD f.length) f.length:=by
  induction k
  ·exact (TM _).symm
  ·exact clipAt_nat ..
 (refine bT r ?_;refine bT p ?_;refine bT List.drop_take ?_)
 have o:∀(i:Nat)(n:List cj),n.length≤i→n.take i=n:=fun i n q=>Cb q
 by_cases m:j.getD 0≤f.length
 ·refine bT (y6 m) ?_
  by_cases l:k.getD f.length≤f.length
  ·(refine bT (y6 l) ?_;rfl)
  ·have l:=TG l
   rw [TH l,o _ _ (by refine bT zc ?_;exact dX _),o _ _ (by refine bT zc ?_;exact Nat.sub_le_sub_right l _)]
 ·have m:=TG m
  (refine bT (TH m) ?_;refine bT (TZ (dX _)) ?_;refine bT (TZ m) ?_;refine bT Un ?_;refine bT Un ?_;rfl)
def H5{k l:cz}{f:List cj}{i:Nat}{q:kD}{m:cj→cM→Prop}(j:IsTup b.heap k f.toArray)(n:b.heap.IsSliceOf l (.int i q) .none .none)(w:i≤f.length)(x:f.length≤100000)
  (r:i=0→m (.ref k) b) (t:m (.ref b.heap.objs.size) {b with heap:=b.heap.push {cls:=.type "tuple",data:=.seq (f.drop i).toArray}}):Wp a g (tW (.ref k) (.ref l)) m b:=by
 by_cases o:1≤i
 ·exact getItem_tuple_from j n o (by refine bT iy ?_;exact w) t (by refine bT iy ?_;unfold lP;lia)
 ·obtain rfl:i=0:=LV.mp (LR o)
  obtain ⟨s,u,p,y⟩:=id n
  have v:b.TypeIs (.ref l) "slice":=⟨s,u,p⟩
  unfold Wp tW
  try with_reducible refine iH ?_
  first|refine c5 (fR ?_)|skip
  refine c5 (wpAny_sequenceKey j.typeIs (by decide) ?_)
  refine c5 (wpAny_callSpecial?_slot (name:=oA "__getitem__") j.typeIs MI (wpAny_call_entry MI j.typeIs entry_tuple_getitem ?_ (args_tuple_getitem _ _)))
  refine c5 (m:=Zy (.ref k)) (tupleItemsOf_ j ?_)
  refine c5 (wpAny_typeOf v ?_)
  refine bT (if_pos (by decide)) ?_
  refine c5 (sliceApplied_from n (fy _) ?_)
  show n9 _ _ (if (((0:Nat):Int)==0&&(1:Int)==1&&(f.toArray.size-0)==f.toArray.size)=ar then _ else _) _ _ b
  rw [if_pos (by (rewrite [Nat.sub_zero];refine bT (beq_self_eq_true (f.toArray.size)) ?_;rw [LM]);rfl)]
  refine c5 (m:=U0 (.ref k)) ?_
  unfold U0
  refine c5 (wpAny_typeOf j.typeIs (fR ?_))
  refine bT (if_pos (by decide)) ?_
  exact c5 (Mv (fR ⟨_,rfl,fR (r rfl)⟩))
def H6{p o:cz}{k:List cj}{f:Nat}{i:List bl}{q m:cj}{j l:Option Nat}{fz:Bool}{K:KE}(t:c7 a c e b)(s:b.heap.get? p=O (dl "list" k f))(r:dB a c.F i k)(y:b.heap.IsSliceOf o q m .none)(u:Cp q (j.map fun f=>(f:Int)))(x:Cp m (l.map fun f=>(f:Int)))(n:i.length≤100000)(v:gw (iI e fz (x6 i j l)) K):Wp a g (tW (.ref p) (.ref o)) (VP a c K) b:=by
 have n:k.length≤100000:=by refine bT r.cC ?_;exact n
 refine wpAny_getItem_list_slice (eN s) y u x .none (fun w=>cG w) ?_ (by refine bT iy ?_;unfold lP;lia)
 rw [PO]
 exact oR t (r.x6 j l) v
def KV{l o:cz}{k:List cj}{t f:Nat}{j:List bl}{s:kD}{K:KE}(i:c7 a c e b)(u:b.heap.get? l=O (dl "tuple" k t))(m:dB a c.F j k)(r:g5 a c.F (.cQ j) (.ref l))(x:b.heap.IsSliceOf o (.int f s) .none .none)(n:f≤j.length∧j.length≤100000)(p:K (.f (.cQ (j.drop f))) e):Wp a g (tW (.ref l) (.ref o)) (VP a c K) b:=by
 refine H5 (kb u) x (by refine bT m.cC ?_;exact n.1) (by refine bT m.cC ?_;exact n.2) (fun y=>?_) ?_
 ·subst y
  exact VP.f i r p
 ·obtain ⟨v,q⟩:=(i.d0 {cls:=.type "tuple",data:=.seq (k.drop f).toArray}).uw (oz _ rfl) (i.yY (dX _)) (i.pC (dX _)) fun z w=>absurd (gj w) (i.fY (dX _))
  refine ⟨_,_,_,q,?_,v,p⟩
  exact ⟨_,_,_,rfl,di.eF _ _ _,(m.A6 f).cO q.F⟩
def Fe(Q:c7 a c e b){y s n:cj}{q R T:bZ}{fz:Bool}{K:KE}(v:dU a c q y)(az:dU a c R s)(ab:dU a c T n)(ao:gw (jY e fz q R T) K):
  ∃m z,typeLookup (.type m) "__getitem__"=ei (O (.builtin z))∧({b with heap:=b.heap.push {cls:=.type "slice",data:=.fields #[s,n,.none]}}:cM).TypeIs y m∧
   Wp a g (tW y (.ref b.heap.objs.size)) (VP a c K) {b with heap:=b.heap.push {cls:=.type "slice",data:=.fields #[s,n,.none]}}:=by
 refine acn fun aG t=>?_
 refine bU fun f=>?_
 obtain ⟨am,ah,au⟩:=c9 ao
 obtain ⟨ay,aa,ai⟩:=c9 au
 obtain ⟨aI,C,ae⟩:=c9 ai
 refine f ?_;try clear f
 have u:=Q.d0 {cls:=.type "slice",data:=.fields #[s,n,.none]}
 have w:=yq az ah
 have I:=yq ab aa
 rcases oS ae with ⟨_,k⟩|⟨l,P,k⟩
 ·refine bU fun f=>?_
  obtain ⟨an,av,i⟩:=c9 k
  obtain rfl:=wF av
  refine f ?_;try clear f
  induction am with
  |some _=>induction i
  |none=>
  refine bU fun f=>?_
  obtain ⟨j,al,A⟩:=c9 i
  obtain ⟨p,ak⟩:=jE A
  refine f ?_;try clear f
  cases al
  cases w
  refine bU fun f=>?_
  obtain ⟨ac,rfl⟩:=tf v C rfl
  obtain ⟨L,rfl⟩:=Ev I
  have af:KeptH fun r=>(∀j G,b.heap.get? j=O G→r.get? j=O G)∧b.heap.objs.size≤r.objs.size:=fun r G l=>⟨fun j q F=>ng _ (l.1 j q F),by rw [GR];lia⟩
  obtain ⟨m,z,X,Y,ag⟩:=SBH.sliceItem_ns (prog:=a.dP) (w:=a.w) (A:=g) (E:=fun x x=>False) (x:=an) (t:=ac) (j:=j) (uj:=L) (s:=b) (Q:=VP a c K) af ⟨fun x x F=>F,dX _⟩ (fun r aB aH l=>VP.ad (Q.iO _ l.1) ak) (by unfold lP;lia)
  refine f ?_;try clear f
  exact t ⟨m,z,X,Y,ag⟩
 ·refine bU fun f=>?_
  obtain ⟨aE,aF,aA,rfl,o,W⟩:=mf u v C P
  obtain ⟨aw,aC⟩:=l
  refine f ?_;try clear f
  induction aw
  ·obtain ⟨p,i⟩:=jE k
   exact t ⟨"list",_,list_getitem_lookup,(eN o).typeIs,H6 u o W (U4 ..) w I p i⟩
  ·induction ay with
   |some _=>induction k
   |none=>
   refine bU fun f=>?_
   obtain ⟨aD,aq,i⟩:=c9 k
   obtain ⟨p,A⟩:=jE i
   refine f ?_;try clear f
   cases aq
   cases I
   refine bU fun f=>?_
   obtain ⟨L,rfl⟩:=Ev w
   obtain rfl:=te P
   refine f ?_;try clear f
   exact t ⟨"tuple",_,MI.lookup,(kb o).typeIs,KV u o W (tf v C rfl) (U4 ..) p A⟩
end
end
section
open PySem PySem.W PySem.Spec PyProof.Rows PySem.Calls SeqAt
noncomputable def th(b:Wd):oC→cj
 |.eJ=>.builtin "list.append" |.gy=>.builtin "list.pop" |.iU=>.builtin "dict.get" |.Dj=>.builtin "dict.get" |.fn a=>.ref (b.jT a)
section
variable{a:Wd}{b:dQ}{e:bS}{c:cM}{h:d8}{g:Nat}{d:di}
def sL(s:c7 a b e c){o:Nat}{f:cz}{n:List cj}{r:Nat}{i:Array cj→Array cj}{k:List cj}{m:List bl}(t:b.α[o]? =O f)(p:b.F f=b1)(v:c.heap.get? f=O (dl "list" n r))(q:i n.toArray=k.toArray)(u:dB a b.F m k)(l:Nat):
  c7 a b (e.set o (O (.a3 m))) {c with heap:=c.heap.update f (Obj.mapSeq i),toks:=l}:=by
 have j:=U6 (h:=c.heap) (l:=f) v i
 rw [q] at j
 exact s.Zg l t p (U5 ..) ⟨p,k,_,j,u⟩ ⟨_,j⟩
def ij.N0:∀{i:List (g6×bl)}{l:List (g6×cj)}(f:g6),ij a d i l→l.any (fun j=>j.1=f)=i.any (fun j=>j.1=f)
 |[],_,_,k=>k▸rfl
 |q::i,_,f,k=>by
  refine bU fun m=>?_
  obtain ⟨p,o,rfl,_,n⟩:=k
  refine m ?_;try clear m
  (refine bT Gv ?_;refine bT Gv ?_;refine bT (n.N0 f) ?_;rfl)
def ij.cC:∀{f:List (g6×bl)}{j:List (g6×cj)},ij a d f j→j.length=f.length:=by
 intro f
 induction f with
 |nil=>
  intro _ i
  exact i▸rfl
 |cons o f k=>
  intro _ i
  obtain ⟨n,m,rfl,_,l⟩:=i
  exact congrArg pI (k l)
def ij.NX{k:g6}{i:cj}{m:bl}(q:g5 a d m i):∀{f:List (g6×bl)}{l:List (g6×cj)},ij a d f l→ij a d (f++[(k,m)]) (l++[(k,i)]):=by
 intro f
 induction f with
 |nil=>
  intro _ j
  cases j;exact ⟨i,[],rfl,q,rfl⟩
 |cons t f p=>
  intro _ j
  obtain ⟨r,_,n,o,s⟩:=j;exact n▸⟨r,_,rfl,o,(p s)⟩
def ij.fS{k:g6}{l:cj}{p:bl}(t:g5 a d p l):∀{i:List (g6×bl)}{n:List (g6×cj)},ij a d i n→ij a d (i.map fun f=>if f.1=k then (f.1,p) else f) (n.map fun f=>if f.1=k then (f.1,l) else f):=by
 intro i
 induction i with
 |nil=>
  intro _ m
  exact m▸rfl
 |cons v i o=>
  intro _ m
  refine bU fun q=>?_
  obtain ⟨u,w,rfl,s,r⟩:=m
  refine q ?_;try clear q
  (refine bT Cj ?_;refine bT Cj ?_)
  by_cases j:v.1=k
  ·(refine bT (if_pos j) ?_;refine bT (if_pos j) ?_);exact ⟨l,_,rfl,t,(o r)⟩
  ·(refine bT (if_neg j) ?_;refine bT (if_neg j) ?_);exact ⟨u,_,rfl,s,(o r)⟩
def ij.PP{j:List (g6×bl)}{m:List (g6×cj)}{f:g6}{l:cj}{n:bl}(k:ij a d j m)(o:g5 a d n l):ij a d (gF j f n) (Uw m f l):=by
 unfold Uw gF
 refine bT (k.N0 f) ?_
 by_cases i:j.any (fun p=>p.1=f)=ar
 ·(refine bT (if_pos i) ?_;refine bT (if_pos i) ?_);exact k.fS o
 ·(refine bT (if_neg i) ?_;refine bT (if_neg i) ?_);exact k.NX o
def Ji{f:bl}{i:g6}{j:cj}(k:jM f=O i)(l:g5 a d f j):Hv i j=ar:=by
 cases f<;>first|exact cG k|(obtain rfl:=dg k;obtain ⟨m,rfl⟩:=l;exact beq_self_eq_true _)
def Da(aD:kc a)(k:c7 a b e c){C x F:bZ}{z t G:cj}{K:bS→Prop}(R:dU a b C z)(I:dU a b x t)(u:dU a b F G)(i:lu (l4 e C x F) K):Wp a h (setItem z t G) (TP a b fun (_:Unit) w=>K w) c:=by
 refine bU fun f=>?_
 obtain ⟨w,i,A⟩:=fj i
 obtain ⟨aJ,Q,i⟩:=cH i
 obtain ⟨an,ai,i⟩:=cH i
 obtain rfl:=lz Q
 obtain rfl:=ik ai
 obtain ⟨ag,rfl,l⟩:=R
 refine f ?_;try clear f
 rcases ga i with ⟨_,r⟩|⟨aG,P,r⟩
 ·refine bU fun f=>?_
  obtain ⟨ak,ac,q⟩:=cH r
  obtain ⟨X,p⟩:=eB q
  obtain ⟨m,o,rfl⟩:=dC p
  obtain ⟨aB,L,o⟩:=cH o
  obtain rfl:=ik L
  obtain ⟨n,al,ao,ae,j,ah,v⟩:=k.A2 l ac
  refine f ?_;try clear f
  have am:c.heap.DictOf (i8 a.dP a.w) ag ae:=zl.mpr ⟨ao,j,ah⟩
  refine wpAny_setItem_pairs (hsz:=by refine bT v.cC ?_;unfold lP;lia) (Ji o I) am fun aH T av=>?_
  refine bU fun f=>?_
  obtain ⟨Y,y,af⟩:=zl.mp T
  refine f ?_;try clear f
  exact ⟨_,b,.cy _,k.Zg (w:=.eg (gF ak m an)) _ l n av ⟨n,al,Y,_,y,af,v.PP u⟩ ⟨_,y⟩,A⟩
 ·refine bU fun f=>?_
  obtain ⟨aF,ab,q⟩:=cH r
  obtain rfl:=jD ab
  obtain ⟨X,p⟩:=eB q
  obtain ⟨aa,au,rfl⟩:=dC p
  obtain ⟨aE,rfl⟩:=I
  obtain ⟨n,aI,aA,j,m⟩:=k.rZ l P
  obtain ⟨ay,aK,aC,az,aq⟩:=q5 au
  refine f ?_;try clear f
  rcases aq with ⟨s,aw,W⟩|⟨s,_,_⟩
  ·refine ki_setAt j s (by lia) (by (refine bT iy ?_;refine bT m.cC ?_);lia) ?_
   refine bT W ?_
   exact ⟨_,b,.cy _,sL k l n j (List.setIfInBounds_toArray ..) (m.zE u aa) c.toks,A⟩
  ·lia
def ee.o9{k:List cj}{j:List bZ}{i:bZ}(o:ee a b j k)(n:JG j=O i):∃f,k=[f] ∧dU a b i f:=by
 rcases j with _|⟨i,_|⟨q,m⟩⟩<;>first|exact cG n|skip
 obtain rfl:=dg n
 refine bU fun l=>?_
 obtain ⟨f,p,rfl,m,rfl⟩:=o
 refine l ?_;try clear l
 exact ⟨f,rfl,m⟩
def ee.XF{l:List cj}{j:List bZ}{k:bZ×bZ}(q:ee a b j l)(o:Wi j=O k):∃f i,l=[f,i] ∧dU a b k.1 f∧dU a b k.2 i:=by
 rcases j with _|⟨s,_|⟨u,_|⟨v,n⟩⟩⟩<;>first|exact cG o|skip
 obtain rfl:=dg o
 refine bU fun m=>?_
 obtain ⟨f,r,rfl,n,i,t,rfl,p,rfl⟩:=q
 refine m ?_;try clear m
 exact ⟨f,i,rfl,n,p⟩
def A7(u:c7 a b e c){o f:Nat}{k:cz}{n:List bl}{K:KE}{i:List cj}{s:Nat}(z:b.α[o]? =O k)(A:b.F k=b1)(t:c.heap.get? k=O (dl "list" i s))(m:dB a b.F n i)(j:gw (MP e o n f) K):i.length≤100000∧∃l,i[f]? =O l∧VP a b K l {c with heap:=c.heap.update k (Obj.mapSeq fun r=>r.eraseIdxIfInBounds f)}:=by
 refine bU fun p=>?_
 obtain ⟨v,j⟩:=jE j
 obtain ⟨F,G,j,x⟩:=iE j
 obtain ⟨I,y,C⟩:=dC j
 obtain ⟨l,w,q⟩:=m.iU y
 refine p ?_;try clear p
 cases C
 exact ⟨by refine bT m.cC ?_;exact v,l,w,VP.f (sL u z A t (k:=i.eraseIdx f) (List.eraseIdxIfInBounds_toArray ..) (m.SS f) c.toks) q x⟩
def pE(aC:kc a)(l:c7 a b e c){X:cj}{av:List cj}{ag:bZ}{aq:List bZ}{K:KE}:∀{aw:oC},dU a b ag X→ee a b aq av→gw (jk a.T e aw ag aq) K→Wp a h (gg (th a aw) (X::av)) (VP a b K) c
 |.eJ,t,q,p=>by
  refine bU fun f=>?_
  obtain ⟨ao,i,r⟩:=c9 p
  obtain ⟨an,I,u⟩:=c9 r
  obtain ⟨ah,y,n⟩:=c9 u
  obtain ⟨R,z,y⟩:=cH y
  obtain ⟨A,rfl,w⟩:=q.o9 z
  obtain rfl:=ik y
  obtain rfl:=lz i
  obtain ⟨ac,s⟩:=jE n
  obtain ⟨v,rfl,i⟩:=t
  obtain ⟨Q,x,W,j,k⟩:=l.rZ i I
  refine f ?_;try clear f
  exact zh MD ⟨_,j,rfl⟩ UP (UO _ _) (Uo v x.toArray W A (by (refine bT iy ?_;refine bT k.cC ?_);unfold lP;lia)) ⟨j,VP.f (f:=.bX) (sL l i Q j (k:=x++[A]) (Ub ..) (k.NX (.o9 w)) c.toks) rfl s⟩
 |.gy,t,q,p=>by
  refine bU fun f=>?_
  obtain ⟨ao,i,r⟩:=c9 p
  obtain ⟨an,I,u⟩:=c9 r
  obtain rfl:=lz i
  obtain ⟨v,rfl,i⟩:=t
  obtain ⟨Q,x,W,j,k⟩:=l.rZ i I
  refine f ?_;try clear f
  rcases oS u with ⟨_,n⟩|⟨ak,ab,n⟩
  ·refine bU fun f=>?_
   obtain ⟨aI,s⟩:=vf n
   obtain rfl:=l0.mp aI
   refine f ?_;try clear f
   cases q
   refine bU fun f=>?_
   obtain ⟨ac,L,C,ae⟩:=A7 l i Q j k s
   refine f ?_;try clear f
   have m:x.toArray.size-1=an.length-1:=by (refine bT iy ?_;refine bT k.cC ?_;rfl)
   refine zh ME ⟨_,j,rfl⟩ US (PySem.F.args_list_pop_1 _) (Zz v x.toArray W L (by (refine bT m ?_;rw [tQ]);exact C) (by refine bT iy ?_;unfold lP;lia)) ⟨j,?_⟩
   refine bT m ?_
   exact ae
  ·refine bU fun f=>?_
   obtain ⟨F,aM,s⟩:=c9 n
   obtain ⟨au,ai,aa⟩:=c9 s
   obtain ⟨A,rfl,w⟩:=q.o9 ab
   obtain rfl:=jD aM
   obtain ⟨T,rfl⟩:=w
   obtain ⟨ac,L,C,ae⟩:=A7 l i Q j k aa
   obtain ⟨aO,aS,aP,aB,aQ⟩:=q5 ai
   refine f ?_;try clear f
   rw [k.cC] at ac
   exact zh ME ⟨_,j,rfl⟩ US (PySem.F.args_list_pop_2 _ _) (ZA v x.toArray W F T au L (by unfold U1;(refine bT (decide_eq_true (by lia)) ?_;refine bT (decide_eq_true (by lia)) ?_);rfl) (by (refine bT iy ?_;refine bT k.cC ?_);exact aB) (by rw [tQ];exact C) (by (refine bT iy ?_;refine bT k.cC ?_);unfold lP;lia)) ⟨j,ae⟩
 |.iU,t,q,p=>by
  refine bU fun f=>?_
  obtain ⟨ao,i,r⟩:=c9 p
  obtain ⟨Y,af,u⟩:=c9 r
  obtain ⟨ak,aF,n,F⟩:=iE u
  obtain ⟨o,P,m⟩:=dC n
  obtain ⟨R,z,P⟩:=cH P
  obtain ⟨A,rfl,w⟩:=q.o9 z
  obtain rfl:=xZ P
  obtain ⟨T,rfl⟩:=w
  obtain rfl:=lz i
  obtain ⟨v,rfl,i⟩:=t
  refine f ?_;try clear f
  cases m
  refine bU fun f=>?_
  obtain ⟨Q,aK,aL,aH,j,G,aE⟩:=l.A2 i af
  refine f ?_;try clear f
  have ay:c.heap.DictOf (i8 a.dP a.w) v aH:=zl.mpr ⟨aL,j,G⟩
  refine call_meetsIn GX ay.typeIs UT (PySem.F.args_dict_get_2 _ _) (meets_dict_get (i8 a.dP a.w) v (k:=G1 o) (beq_self_eq_true _) aK) ⟨_,ay.mapOf,?_⟩
  refine VP.f (l.qh _) ?_ F
  obtain ⟨aJ,aN⟩:=Eu (.inr o) aE
  cases y:fA (.inr o) Y with
  |none=>refine bT (aN y) ?_;exact rfl
  |some ah=>obtain ⟨L,C,aD⟩:=aJ ah y;refine bT C ?_;exact aD
 |.Dj,t,q,p=>by
  refine bU fun f=>?_
  obtain ⟨g,G,r⟩:=c9 p
  obtain ⟨R,z,G⟩:=cH G
  obtain ⟨au,ai,u⟩:=c9 r
  obtain ⟨o,P,n⟩:=c9 u
  obtain ⟨ah,I,s⟩:=c9 n
  obtain ⟨ak,aF,aa,F⟩:=iE s
  obtain ⟨Y,af,m⟩:=dC aa
  obtain ⟨A,L,rfl,al,az⟩:=q.XF ai
  rw [xZ P] at al
  rw [ik I] at az
  obtain ⟨T,rfl⟩:=al
  obtain rfl:=ik z
  obtain rfl:=rG G
  obtain rfl:X=.ref (a.kP g):=t
  refine f ?_;try clear f
  cases m
  refine bU fun f=>?_
  obtain ⟨aR,ab,aG,am⟩:=aC.ll _ Y af
  refine f ?_;try clear f
  have aA:=nZ ab (c:=c.heap) fun aT ag m=>l.kR m
  refine call_meetsIn GX aA.typeIs UT (PySem.F.args_dict_get_3 _ _ _) (meets_dict_get_default (strKind a.dP a.w) _ (k:=o) (GI a.dP a.w o T) aG _) ⟨_,aA,?_⟩
  refine VP.f (l.qh _) ?_ F
  cases k:Y.lookup o with
  |none=>refine bT ((am o).1 k) ?_;exact az
  |some R=>obtain ⟨X,m,w⟩:=(am o).2 R k;refine bT m ?_;exact g5.cO l.kQ w
 |.fn _,_,_,p=>oa p
end
noncomputable def A8:List cj:=[.builtin "len",.type "list",.builtin "max",.builtin "min",.builtin "abs",.type "int",.builtin "repr",.builtin "sorted",.builtin "isinstance",.type "bool",.type "str"]
def p0(a:Nat):cj:=(A8[a]?).getD (.type "tuple")
def PQ:∀{a:List bl}{b:List Int},Cz a=O b→a=b.map .Z:=by
 intro a
 induction a with
 |nil=>
  intro b c
  obtain rfl:=dg c;rfl
 |cons f a e=>
  intro b c
  cases f<;>first|exact cG c|(obtain ⟨g,d,rfl⟩:=dC c;refine bT (e d) ?_;rfl)
def PR:∀{a:List bl}{b:List b4},ML a=O b→a=b.map .ad:=by
 intro a
 induction a with
 |nil=>
  intro b c
  obtain rfl:=dg c;rfl
 |cons f a e=>
  intro b c
  cases f<;>first|exact cG c|(obtain ⟨g,d,rfl⟩:=dC c;refine bT (e d) ?_;rfl)
def yr{b:Array (Int×kD)}{c:Int}{d:List Int}(i:b.toList.map (·.1)=c::d){h:Int→Int→Int}{k:Int→Int→Bool}(n:∀e g,h e g=if k g e=ar then g else e):∀a,a≤d.length→zk b (argBest (fun c o=>k (zk b c) (zk b o)) a)=(d.take a).foldl h c:=by
 intro a
 induction a with
 |zero=>
  intro _
  have:(b.toList.map (·.1))[0]? =O c:=by refine bT i ?_;rfl
  rw [i4,MG] at this
  unfold argBest zk
  refine bT this ?_;rfl
 |succ a f=>
  intro j
  have f:=f (lC j)
  have l:(b.toList.map (·.1))[a+1]? =O d[a] :=by (refine bT i ?_;rw [List.getElem?_cons_succ,gS])
  have m:zk b (a+1)=d[a] :=by
   rw [i4,MG] at l
   unfold zk;refine bT l ?_;rfl
  (refine bT (List.take_succ_eq_append_getElem j) ?_;refine bT tR ?_;refine bT Gr ?_;refine bT List.foldl_nil ?_;refine gT f ?_;rewrite [n,argBest];refine gT m ?_)
  split<;>rfl
section
variable{a:Wd}{b:dQ}{e:bS}{d:cM}{g:d8}{h:Nat}{c:di}
def dB.Ye:∀{f:List Int}{l:List cj},dB a c (f.map .Z) l→∃i:List (Int×kD),l.toArray=GM i.toArray∧i.map (·.1)=f:=by
 intro f
 induction f with
 |nil=>
  intro _ j
  exact ⟨[],by cases j;unfold GM;exact Array.map_empty.symm,rfl⟩
 |cons m f p=>
  intro _ j
  refine bU fun n=>?_
  obtain ⟨t,o,rfl,⟨s,rfl⟩,r⟩:=j
  obtain ⟨i,k,q⟩:=p r
  refine n ?_;try clear n
  refine ⟨(m,s)::i,?_,congrArg (m:: ·) q⟩
  unfold GM at k⊢
  rw [List.map_toArray] at k⊢
  (refine bT Cj ?_;refine bT (show o=_ from congrArg MH k) ?_;rfl)
def dB.Yf:∀{f:List b4}{j:List cj},dB a c (f.map .ad) j→StrsAre j f:=by
 intro f
 induction f with
 |nil=>
  intro _ i
  cases i;exact .nil
 |cons o f k=>
  intro _ i
  obtain ⟨n,m,rfl,⟨p,rfl⟩,l⟩:=i
  exact .cons _ _ (k l)
def KW.acr{i:List cj}{f:List b4}(k:StrsAre i f):dB a c (f.map .ad) i:=by
 induction k with
 |nil=>exact rfl
 |cons m l n j=>exact ⟨_,_,rfl,⟨l,rfl⟩,j⟩
def H7:∀(l:b4)(i:List b4),risingS l i=ar→(l::i).Pairwise (fun n r=>ltCps r.cps.toList n.cps.toList=b2):=by
 intro l i
 induction i generalizing l with
 |nil=>
  intro _
  exact List.pairwise_singleton _ _
 |cons o s j=>
  intro q
  obtain ⟨f,k⟩:=gq q
  have f:=B5 _ |>.mp f
  have j:=j o k
  refine ZC (fun p m=>?_) j
  rcases eP.mp m with rfl|m
  ·exact f
  ·have k:=(List.pairwise_cons.mp j).1 p m
   rw [ltCps_eq] at f k⊢
   exact decide_eq_false (Gw.mpr (Mi (Gw.mp (of_decide_eq_false f)) (Gw.mp (of_decide_eq_false k))))
def H8:∀{f:List b4},sortedS f=ar→f.Pairwise (fun i k=>ie i k=ar):=by
 intro f
 induction f with
 |nil=>
  intro _
  exact ZD
 |cons m f n=>
  intro l
  exact (H7 m f l).imp fun {i k} j=>by
   rw [ltCps_eq] at j
   exact decide_eq_true (Gw.mp (of_decide_eq_false j))
def H9(f i j:b4)(k:ie f i=ar)(l:ie i j=ar):ie f j=ar:=decide_eq_true (Mi (of_decide_eq_true k) (of_decide_eq_true l))
def Ia(i f:b4):(ie i f||ie f i)=ar:=by
 rcases Um i.cps.toList f.cps.toList with j|j
 ·exact nR.mpr (.inl (decide_eq_true j))
 ·exact nR.mpr (.inr (decide_eq_true j))
def Ib(i f:b4)(k:ie i f=ar)(j:ie f i=ar):i=f:=by
 have:=List.le_antisymm (of_decide_eq_true k) (of_decide_eq_true j)
 induction i with|mk i=>induction f with|mk f=>exact congrArg _ (Array.toList_inj.mp this)
def KY{f i:List b4}(n:i.Perm f)(m:sortedS i=ar):i=f.mergeSort ie:=
 U3 (le:=fun j k=>ie j k=ar) (fun j k l l=>Ib j k) (H8 m) (TW H9 Ia f) (n.trans (L6 f ie).symm)
def Ic{f:Nat}(j:f<10 ^ 10):f.log2<1920:=by
 by_cases i:f=0
 ·subst i;decide
 ·exact hH ((Nat.log2_lt i).mpr (hH j (by decide:10 ^ 10≤2 ^ 34))) (by decide)
def Id{f:bl}{k:b4}(i:gY f=O k):∃j:I4,f=j.x:=by
 cases f<;>first|exact cG i|exact ⟨.bX,rfl⟩|exact ⟨.b3 _,rfl⟩|exact ⟨.Z _,rfl⟩|exact ⟨.ad _,rfl⟩
def Ie(m:c7 a b e d){K:KE}{n:b4}(l:K (.f (.ad n)) e){o:cj}:∀{k:I4},g5 a b.F k.x o→gY k.x=O n→Wp a g (gg (.builtin "repr") [o]) (VP a b K) d
 |.bX,i,f=>by cases i;obtain rfl:=dg f;exact PySem.P.repr_of_none (VP.ad (m.qh _) l)
 |.b3 p,i,f=>by
  cases i
  obtain rfl:(if p then "True" else "False":b4)=n:=by induction p<;>exact dg f
  exact PySem.P.repr_of_bool (VP.ad (m.qh _) l)
 |.Z s,i,f=>by
  refine bU fun j=>?_
  obtain ⟨q,rfl⟩:=i
  obtain ⟨k,f⟩:=eB f
  refine j ?_;try clear j
  obtain rfl:=dg f
  exact PySem.P.repr_of_int (Ic k) (VP.ad (m.qh _) l)
 |.ad r,i,f=>by
  refine bU fun j=>?_
  obtain ⟨q,rfl⟩:=i
  obtain ⟨k,f⟩:=eB f
  refine j ?_;try clear j
  obtain rfl:=dg f
  exact PySem.P.repr_of_str (VP.ad (m.qh _) l) (by unfold lP;lia)
end
section
variable{a:Wd}{b:dQ}{d:bS}{c:cM}{e:d8}{h:Nat}{g:di}
def PS{f:bl}{i:Bool}(j:f.Vl=O i):f=.b3 i:=by
 cases f<;>first|exact congrArg _ (dg j)|exact cG j
def ST{f:bl}{i:Nat}(j:f.Y2=O i):f=.kE i:=by
 cases f<;>first|exact congrArg _ (dg j)|exact cG j
def Yg{f:bl}{i:Nat}(j:f.bi?=O i):f=.bi i:=by
 cases f<;>first|exact congrArg _ (dg j)|exact cG j
def KZ(j:c7 a b d c){q:cj}{r:bZ}{fz:Bool}{K:KE}(v:dU a b r q)(x:gw (Wj d fz r) K):Wp a e (gg (.builtin "len") [q]) (VP a b K) c:=by
 refine bU fun f=>?_
 obtain ⟨P,s,w⟩:=c9 x
 obtain ⟨l,i,C⟩:=c9 w
 obtain ⟨n,k⟩:=jE C
 refine f ?_;try clear f
 rcases ga i with ⟨_,i⟩|⟨o,A,i⟩
 ·refine bU fun f=>?_
  obtain ⟨L,y,rfl⟩:=dC i
  obtain rfl:=wF y
  obtain ⟨F,rfl⟩:=tf v s rfl
  refine f ?_;try clear f
  exact PySem.P.len_str (by lia) (VP.Z (j.qh _) k)
 ·obtain rfl:=dg i
  refine bU fun f=>?_
  obtain ⟨I,p,l,rfl,m,u⟩:=mf j v s A
  have t:((p.toArray.size:Nat):Int)=(o.2.length:Int):=by (refine bT iy ?_;refine bT u.cC ?_;rfl)
  have n:p.toArray.size≤100000:=by (refine bT iy ?_;refine bT u.cC ?_);exact n
  obtain ⟨z,G⟩:=o
  refine f ?_;try clear f
  induction z
  ·refine call_len_list (eN m) (by lia) ?_
   refine bT t ?_
   exact VP.Z (j.qh _) k
  ·refine PySem.P.len_tuple (n:=l) m (by lia) ?_
   refine bT t ?_
   exact VP.Z (j.qh _) k
def Ig(f:c7 a b d c){s:cj}{t:bZ}{fz:Bool}{K:KE}(L:dU a b t s)(F:gw (MM d fz t) K):Wp a e (gg (.type "list") [s]) (VP a b K) c:=by
 refine bU fun w=>?_
 obtain ⟨T,G,y⟩:=c9 F
 obtain ⟨A,I,p⟩:=c9 y
 obtain ⟨n,o,Q,rfl,m,v⟩:=mf f L G I
 have P:=pD p
 have q:o.toArray.size≤lP:=by (refine bT iy ?_;refine bT v.cC ?_);unfold lP;lia
 have l:∀{i:eu}{x:Nat},(∀u r,c.heap.get? u=O r→i.get? u=O r)→i.get? c.heap.objs.size=O (dl "list" o x)→VP a b K (.ref c.heap.objs.size) {c with heap:=i}:=fun j k=>tg f c.toks j (f.yY (dX _)) (f.pC (dX _)) (f.fY (dX _)) k v p
 obtain ⟨z,R⟩:=A
 refine w ?_;try clear w
 induction z
 ·exact call_list_seq n (.inl rfl) m rfl rfl (fun i C j k=>l j k) q
 ·exact call_list_seq n (.inr rfl) m rfl rfl (fun i C j k=>l j k) q
def Ew(y:c7 a b d c){o:Int→Int→Int}{p:cj}{q:bZ}{fz:Bool}{K:KE}(L:dU a b q p)(C:gw (vZ o d fz q) K):∃l n f k i,p=.ref l∧c.heap.IsList l (GM f)∧f.toList.map (·.1)=k::i∧f.size=i.length+1∧K (.f (.Z (i.foldl o k))) d∧n=0:=by
 refine bU fun j=>?_
 obtain ⟨T,F,x⟩:=c9 C
 obtain ⟨f,I,P⟩:=c9 x
 obtain ⟨Q,R,w,A⟩:=iE P
 obtain ⟨X,r,G⟩:=dC w
 refine j ?_;try clear j
 cases G
 induction f with
 |nil=>exact cG r
 |cons k i _=>
  obtain rfl:=dg r
  refine bU fun j=>?_
  obtain ⟨l,W,n,rfl,z,s⟩:=m5 y L F
  rw [PQ I] at s
  obtain ⟨u,v,m⟩:=s.Ye
  refine j ?_;try clear j
  have t:=eN z
  rw [v] at t
  refine ⟨l,0,u.toArray,k,i,rfl,t,m,?_,A,rfl⟩
  have:=congrArg qE m
  rw [et] at this
  (refine bT iy ?_;refine bT this ?_);rfl
def K0(p:e.handled=b1)(m:c7 a b d c){k:cj}{f:bZ}{fz:Bool}{K:KE}(u:dU a b f k)(s:gw (vZ max d fz f) K):Wp a e (gg (.builtin "max") [k]) (VP a b K) c:=by
 refine bU fun i=>?_
 obtain ⟨z,_,x,y,C,rfl,q,v,n,r,_⟩:=Ew m u s
 refine i ?_;try clear i
 refine max_intList p q (by lia) fun k A F o t=>?_
 refine bU fun i=>?_
 obtain ⟨w,rfl⟩:=intItems_at o
 refine i ?_;try clear i
 rw [yr v (h:=max) (k:=fun f l=>dY (f > l)) (fun f l=>by
  by_cases j:l > f
  ·refine bT (if_pos (decide_eq_true j)) ?_;exact Int.max_eq_right (MC j)
  ·rw [if_neg (by rw [decide_eq_true_iff];exact j)];exact Int.max_eq_left (zn.mp j)) _ (jH (congrArg (·-1) n)),n,Gc,eO]
 exact VP.Z (m.iO _ t) r
def K1(p:e.handled=b1)(m:c7 a b d c){k:cj}{f:bZ}{fz:Bool}{K:KE}(u:dU a b f k)(s:gw (vZ min d fz f) K):Wp a e (gg (.builtin "min") [k]) (VP a b K) c:=by
 refine bU fun i=>?_
 obtain ⟨z,_,x,y,C,rfl,q,v,n,r,_⟩:=Ew m u s
 refine i ?_;try clear i
 refine min_intList p q (by lia) fun k A F o t=>?_
 refine bU fun i=>?_
 obtain ⟨w,rfl⟩:=intItems_at o
 refine i ?_;try clear i
 rw [yr v (h:=min) (k:=fun f l=>dY (f<l)) (fun f l=>by
  by_cases j:l<f
  ·refine bT (if_pos (decide_eq_true j)) ?_;exact Int.min_eq_right (MC j)
  ·rw [if_neg (by rw [decide_eq_true_iff];exact j)];exact Int.min_eq_left (zn.mp j)) _ (jH (congrArg (·-1) n)),n,Gc,eO]
 exact VP.Z (m.iO _ t) r
def K3(n:c7 a b d c){k:cj}{l:bZ}{fz:Bool}{K:KE}(s:dU a b l k)(q:gw (Wl d fz l) K):Wp a e (gg (.builtin "abs") [k]) (VP a b K) c:=by
 refine bU fun i=>?_
 obtain ⟨u,x,m,p⟩:=iE q
 obtain ⟨f,r,t⟩:=dC m
 refine i ?_;try clear i
 cases t
 refine bU fun i=>?_
 obtain rfl:=jD r
 obtain ⟨w,rfl⟩:=s
 refine i ?_;try clear i
 refine call_abs_int fun v y=>?_
 have o:(if f<0 then -f else f)=(f.natAbs:Int):=by
  by_cases j:f<0
  ·exact (if_pos j).trans (ZG j)
  ·exact (if_neg j).trans (Int.natAbs_of_nonneg (zn.mp j)).symm
 refine bT o ?_
 exact VP.Z (n.qh _) p
def K4(n:c7 a b d c){j:cj}{k:bZ}{fz:Bool}{K:KE}(p:dU a b k j)(o:gw (Wm d fz k) K):Wp a e (gg (.type "int") [j]) (VP a b K) c:=by
 refine bU fun f=>?_
 obtain ⟨u,s,m,l⟩:=iE o
 obtain ⟨v,i,q⟩:=dC m
 refine f ?_;try clear f
 cases q
 refine bU fun f=>?_
 obtain ⟨t,r,i⟩:=cH i
 obtain rfl:=ik r
 obtain rfl:=PS i
 refine f ?_;try clear f
 cases p
 exact call_int_bool (VP.Z (n.qh _) l)
def Yh(n:c7 a b d c){j:cj}{k:bZ}{fz:Bool}{K:KE}(p:dU a b k j)(o:gw (MN d fz k) K):Wp a e (gg (.builtin "repr") [j]) (VP a b K) c:=by
 refine bU fun f=>?_
 obtain ⟨u,s,m,l⟩:=iE o
 obtain ⟨v,i,q⟩:=dC m
 refine f ?_;try clear f
 cases q
 refine bU fun f=>?_
 obtain ⟨t,r,i⟩:=cH i
 obtain rfl:=ik r
 obtain ⟨w,rfl⟩:=Id i
 refine f ?_;try clear f
 exact Ie n l p i
def Ih(f:c7 a b d c){l:cj}{m:bZ}{fz:Bool}{K:KE}(C:dU a b m l)(w:gw (MO d fz m) K):Wp a e (gg (.builtin "sorted") [l]) (VP a b K) c:=by
 refine bU fun n=>?_
 obtain ⟨L,x,r⟩:=c9 w
 obtain ⟨s,A,F⟩:=c9 r
 obtain ⟨P,k⟩:=jE F
 obtain ⟨Q,j,I,rfl,t,i⟩:=m5 f C x
 refine n ?_;try clear n
 rw [PR A] at i
 have G:j.length=s.length:=by (refine bT i.cC ?_;rw [et])
 refine sorted_strs (eN t) i.Yf (by lia) fun z R p o q=>?_
 rw [← KY o q] at k
 obtain ⟨y,u⟩:=sortedAll_at c.heap j z
 exact tg (k:=y) f c.toks (fun v v=>sortedAll_old) (f.yY (fM _)) (f.pC (fM _)) (f.fY (fM _)) u (Mine.KW.acr p) k
def Yi(q:c7 a b d c){m:bl}{i:cj}(f:g5 a b.F m i):match tyK m with
  |.bX=>i=.none
  |.b3=>∃r,i=.bool r
  |.Z=>∃n o,i=.int n o
  |.ad=>∃n o,i=.str n o
  |.cQ=>∃j k l,i=.ref j∧c.heap.get? j=O (dl "tuple" k l)
  |.IH _=>True:=match m,f with
 |.bX,f=>f
 |.b3 _,f=>⟨_,f⟩
 |.Z _,f=>⟨_,f⟩
 |.ad _,f=>⟨_,f⟩
 |.cQ _,f=>by obtain ⟨j,k,l,s,p,_⟩:=f;exact ⟨j,k,l,s,q.ey _ _ p⟩
 |.a3 _,_=>trivial
 |.gJ _ _,_=>trivial
 |.fn _,_=>trivial
 |.kE _,_=>trivial
 |.bi _,_=>trivial
 |.ob _,_=>trivial
def K5(A:kc a)(P:a.yo=p0)(r:c7 a b d c){x q:cj}{u v:bl}{p:Bool}{K:KE}(w:g5 a b.F u x)(y:g5 a b.F v q)(o:Y3 u v=O p)(L:K (.f (.b3 p)) d):Wp a e (gg (.builtin "isinstance") [x,q]) (VP a b K) c:=by
 have j:∀t,VP a b K (.bool p) {c with toks:=t}:=fun t=>VP.b3 (r.qh t) L
 rcases ga o with ⟨_,o⟩|⟨G,T,o⟩
 ·refine bU fun m=>?_
  obtain ⟨n,I,f⟩:=cH o
  obtain rfl:=Yg I
  obtain rfl:q=a.yo n:=y
  refine m ?_;try clear m
  refine bT P ?_
  have k:=Yi r w
  unfold Vk at f
  generalize tyK u=l at k f
  by_cases i:n=Vf
  ·rw [if_pos i] at f
   refine bT i ?_
   induction l<;>cases f
   ·obtain ⟨p,rfl⟩:=k;exact IsiPair.bool_int (j _)
   ·obtain ⟨s,l,rfl⟩:=k;exact IsiPair.int_int (j _)
  rw [if_neg i] at f
  by_cases i:n=Nk
  ·rw [if_pos i] at f
   refine bT i ?_
   induction l<;>cases f
   ·obtain ⟨p,rfl⟩:=k;exact IsiPair.bool_bool (j _)
   ·obtain ⟨s,l,rfl⟩:=k;exact IsiPair.int_bool (j _)
   ·obtain ⟨s,l,rfl⟩:=k;exact IsiPair.str_bool (j _)
  rw [if_neg i] at f
  by_cases i:n=Vg
  ·rw [if_pos i] at f
   refine bT i ?_
   induction l<;>cases f
   obtain ⟨s,l,rfl⟩:=k;exact IsiPair.str_str (j _)
  rw [if_neg i] at f
  by_cases i:n=IG
  ·rw [if_pos i] at f
   refine bT i ?_
   induction l<;>cases f
   ·cases k;exact IsiPair.NoneType_tuple (j _)
   ·obtain ⟨Q,R,n,rfl,C⟩:=k;exact IsiPair.tuple_tuple C rfl (j _)
  ·rw [if_neg i] at f;exact cG f
 ·refine bU fun m=>?_
  obtain ⟨aa,F,f⟩:=cH o
  obtain rfl:=ST T
  obtain rfl:=xX F
  obtain ⟨i,f⟩:=eB f
  refine m ?_;try clear m
  obtain rfl:=dg f
  refine bU fun m=>?_
  obtain rfl:q=.ref (a.eS G):=y
  obtain ⟨Q,ac,R,h,X,ae,rfl,af,g,ab,ag,z,Y⟩:=(F1 (g:=d) r w).ex
  refine m ?_;try clear m
  refine bT i ?_
  exact isi_call (r.F0 A) (fun W=>z.type) (by unfold isIn;rw [beq_self_eq_true];rfl) (by nofun) (j _)
def uz{j:Type}{k:Nat→j→Prop}{m:j}{l:List j}(p:k 0 m)(o:∀{f i},l[f]? =O i→k (f+1) i){f:Nat}{i:j}(n:(m::l)[f]? =O i):k f i:=by
 induction f with
 |zero=>exact dg n▸p
 |succ f=>exact o n
def PT{i:Nat→(bS→Bool→bZ→Option (bZ×bS))→Prop}(s:i 0 Wj)(l:i 1 MM)(q:i 2 (vZ max))(r:i 3 (vZ min))(o:i 4 Wl)(n:i 5 Wm)(k:i 6 MN)(p:i 7 MO){f:Nat}{j:bS→Bool→bZ→Option (bZ×bS)}:Vm[f]? =O j→i f j:=
 uz s (uz (k:=fun f=>i (f+1)) l (uz (k:=fun f=>i (f+2)) q (uz (k:=fun f=>i (f+3)) r (uz (k:=fun f=>i (f+4)) o (uz (k:=fun f=>i (f+5)) n (uz (k:=fun f=>i (f+6)) k (uz (k:=fun f=>i (f+7)) p fun m=>cG m)))))))
def z5(q:e.handled=b1)(A:kc a)(t:a.yo=p0)(f:c7 a b d c){v:List cj}{s:List bZ}{fz:Bool}{k:Nat}{K:KE}(p:ee a b s v)(l:gw (eW d fz k s) K):Wp a e (gg (a.yo k) v) (VP a b K) c:=by
 refine bT t ?_
 cases x:Nat.beq k 8
 ·unfold eW at l
  rw [x] at l
  refine bU fun j=>?_
  obtain ⟨L,G,n⟩:=c9 l
  obtain ⟨r,P,m⟩:=c9 n
  obtain ⟨u,rfl,i⟩:=p.o9 G
  refine j ?_;try clear j
  refine PT (i:=fun k r=>gw (r d fz L) K→Wp a e (gg (p0 k) [u]) (VP a b K) c) ?_ ?_ ?_ ?_ ?_ ?_ ?_ ?_ P m
  ·exact KZ f i
  ·exact Ig f i
  ·exact K0 q f i
  ·exact K1 q f i
  ·exact K3 f i
  ·exact K4 f i
  ·exact Yh f i
  ·exact Ih f i
 ·refine bU fun j=>?_
  obtain rfl:=Nat.eq_of_beq_eq_true x
  obtain ⟨ab,T,n⟩:=c9 l
  obtain ⟨u,X,rfl,o,w⟩:=p.XF T
  obtain ⟨ae,Q,m⟩:=c9 n
  obtain ⟨Y,z,F⟩:=c9 m
  obtain ⟨W,aa,C,R⟩:=iE F
  obtain ⟨ac,I,y⟩:=dC C
  refine j ?_;try clear j
  cases y
  rw [ik Q] at o
  rw [ik z] at w
  exact K5 A t f o w I R
end
abbrev fF:=List (Nat×b4)
abbrev Sc:=List (b4×tV)
structure Sh(e:ce) where
 con:Option {p:Const×Nat×cS // e=.Constant p.1 p.2.1 p.2.2}:=b1
 cJ:Option {p:b4×cS // e=.Name p.1 p.2}:=b1
 eD:Option {p:ce×GL×ce×cS // e=.BinOp p.1 p.2.1 p.2.2.1 p.2.2.2}:=b1
 un:Option {p:UnaryOp×ce×cS // e=.UnaryOp p.1 p.2.1 p.2.2}:=b1
 b3:Option {p:BoolOp×List ce×cS // e=.BoolOp p.1 p.2.1 p.2.2}:=b1
 b7:Option {p:ce×List jK×List ce×cS // e=.Compare p.1 p.2.1 p.2.2.1 p.2.2.2}:=b1
 fx:Option {p:ce×ce×ce×cS // e=.IfExp p.1 p.2.1 p.2.2.1 p.2.2.2}:=b1
 b0:Option {p:ce×List ce×List GQ×cS // e=.Call p.1 p.2.1 p.2.2.1 p.2.2.2}:=b1
 bY:Option {p:ce×b4×cS // e=.Attribute p.1 p.2.1 p.2.2}:=b1
 fw:Option {p:ce×ce×cS // e=.Subscript p.1 p.2.1 p.2.2}:=b1
 fP:Option {p:Option ce×Option ce×Option ce×cS // e=.Slice p.1 p.2.1 p.2.2.1 p.2.2.2}:=b1
 cQ:Option {p:List ce×Nat×cS // e=.Tuple p.1 p.2.1 p.2.2}:=b1
 a3:Option {p:List ce×cS // e=.List p.1 p.2}:=b1
 F2:Option {p:ce×cS // e=.Starred p.1 p.2}:=b1
 eg:Option {p:List (Option ce)×List ce×cS // e=.Dict p.1 p.2.1 p.2.2}:=b1
 Zm:Option {p:ce×List jV×ji×cS // e=.ListComp p.1 p.2.1 p.2.2.1 p.2.2.2}:=b1
noncomputable def sh(e:ce):Sh e:=match e with
 |.Constant a b c=>{con:=O ⟨(a,b,c),rfl⟩}
 |.Name a b=>{cJ:=O ⟨(a,b),rfl⟩}
 |.BinOp a b c d=>{eD:=O ⟨(a,b,c,d),rfl⟩}
 |.UnaryOp a b c=>{un:=O ⟨(a,b,c),rfl⟩}
 |.BoolOp a b c=>{b3:=O ⟨(a,b,c),rfl⟩}
 |.Compare a b c d=>{b7:=O ⟨(a,b,c,d),rfl⟩}
 |.IfExp a b c d=>{fx:=O ⟨(a,b,c,d),rfl⟩}
 |.Call a b c d=>{b0:=O ⟨(a,b,c,d),rfl⟩}
 |.Attribute a b c=>{bY:=O ⟨(a,b,c),rfl⟩}
 |.Subscript a b c=>{fw:=O ⟨(a,b,c),rfl⟩}
 |.Slice a b c d=>{fP:=O ⟨(a,b,c,d),rfl⟩}
 |.Tuple a b c=>{cQ:=O ⟨(a,b,c),rfl⟩}
 |.List a b=>{a3:=O ⟨(a,b),rfl⟩}
 |.Starred a b=>{F2:=O ⟨(a,b),rfl⟩}
 |.Dict a b c=>{eg:=O ⟨(a,b,c),rfl⟩}
 |.ListComp a b c d=>{Zm:=O ⟨(a,b,c,d),rfl⟩}
 |_=>{}
def d2{b:Type}{c:b→Prop}{d:Option {a:b // c a}}{e:{a:b // c a}→Bool}{g:Prop}(f:d.any e=ar)(h:∀(a:b)(i:c a),e ⟨a,i⟩=ar→g):g:=by
 induction d with
 |none=>exact dy f
 |some a=>exact h a.1 a.2 f
def yt(c:ce)(b:Const→Nat→cS→Bool):Bool:=(sh c).con.any fun a=>b a.1.1 a.1.2.1 a.1.2.2
def Ff{g:ce}{d:Const→Nat→cS→Bool}{b:ce→Prop}(k:yt g d=ar)(h:∀c e f,d c e f=ar→b (.Constant c e f)):b g:=d2 k fun a j i=>j▸h a.1 a.2.1 a.2.2 i
def r0(c:ce)(b:b4→cS→Bool):Bool:=(sh c).cJ.any fun a=>b a.1.1 a.1.2
def k7{e:ce}{c:b4→cS→Bool}{a:ce→Prop}(j:r0 e c=ar)(g:∀b d,c b d=ar→a (.Name b d)):a e:=d2 j fun f i h=>i▸g f.1 f.2 h
def Jj(c:ce)(b:ce→GL→ce→cS→Bool):Bool:=(sh c).eD.any fun a=>b a.1.1 a.1.2.1 a.1.2.2.1 a.1.2.2.2
def PU{h:ce}{d:ce→GL→ce→cS→Bool}{b:ce→Prop}(l:Jj h d=ar)(i:∀c f g e,d c f g e=ar→b (.BinOp c f g e)):b h:=d2 l fun a k j=>k▸i a.1 a.2.1 a.2.2.1 a.2.2.2 j
def vg(c:ce)(b:UnaryOp→ce→cS→Bool):Bool:=(sh c).un.any fun a=>b a.1.1 a.1.2.1 a.1.2.2
def yu{g:ce}{d:UnaryOp→ce→cS→Bool}{b:ce→Prop}(k:vg g d=ar)(h:∀c e f,d c e f=ar→b (.UnaryOp c e f)):b g:=d2 k fun a j i=>j▸h a.1 a.2.1 a.2.2 i
def x0(c:ce)(b:BoolOp→List ce→cS→Bool):Bool:=(sh c).b3.any fun a=>b a.1.1 a.1.2.1 a.1.2.2
def A9{g:ce}{d:BoolOp→List ce→cS→Bool}{b:ce→Prop}(k:x0 g d=ar)(h:∀c e f,d c e f=ar→b (.BoolOp c e f)):b g:=d2 k fun a j i=>j▸h a.1 a.2.1 a.2.2 i
def Ba(c:ce)(b:ce→List jK→List ce→cS→Bool):Bool:=(sh c).b7.any fun a=>b a.1.1 a.1.2.1 a.1.2.2.1 a.1.2.2.2
def Ii{h:ce}{d:ce→List jK→List ce→cS→Bool}{b:ce→Prop}(l:Ba h d=ar)(i:∀c f g e,d c f g e=ar→b (.Compare c f g e)):b h:=d2 l fun a k j=>k▸i a.1 a.2.1 a.2.2.1 a.2.2.2 j
def Jk(c:ce)(b:ce→ce→ce→cS→Bool):Bool:=(sh c).fx.any fun a=>b a.1.1 a.1.2.1 a.1.2.2.1 a.1.2.2.2
def PV{h:ce}{d:ce→ce→ce→cS→Bool}{b:ce→Prop}(l:Jk h d=ar)(i:∀c f g e,d c f g e=ar→b (.IfExp c f g e)):b h:=d2 l fun a k j=>k▸i a.1 a.2.1 a.2.2.1 a.2.2.2 j
def r1(c:ce)(b:ce→List ce→List GQ→cS→Bool):Bool:=(sh c).b0.any fun a=>b a.1.1 a.1.2.1 a.1.2.2.1 a.1.2.2.2
def wH{h:ce}{d:ce→List ce→List GQ→cS→Bool}{b:ce→Prop}(l:r1 h d=ar)(i:∀c f g e,d c f g e=ar→b (.Call c f g e)):b h:=d2 l fun a k j=>k▸i a.1 a.2.1 a.2.2.1 a.2.2.2 j
def n3(c:ce)(b:ce→b4→cS→Bool):Bool:=(sh c).bY.any fun a=>b a.1.1 a.1.2.1 a.1.2.2
def p1{g:ce}{d:ce→b4→cS→Bool}{b:ce→Prop}(k:n3 g d=ar)(h:∀c e f,d c e f=ar→b (.Attribute c e f)):b g:=d2 k fun a j i=>j▸h a.1 a.2.1 a.2.2 i
def gW(c:ce)(b:ce→ce→cS→Bool):Bool:=(sh c).fw.any fun a=>b a.1.1 a.1.2.1 a.1.2.2
def kS{g:ce}{d:ce→ce→cS→Bool}{b:ce→Prop}(k:gW g d=ar)(h:∀c e f,d c e f=ar→b (.Subscript c e f)):b g:=d2 k fun a j i=>j▸h a.1 a.2.1 a.2.2 i
def Jl(c:ce)(b:Option ce→Option ce→Option ce→cS→Bool):Bool:=(sh c).fP.any fun a=>b a.1.1 a.1.2.1 a.1.2.2.1 a.1.2.2.2
def PW{h:ce}{d:Option ce→Option ce→Option ce→cS→Bool}{b:ce→Prop}(l:Jl h d=ar)(i:∀c f g e,d c f g e=ar→b (.Slice c f g e)):b h:=d2 l fun a k j=>k▸i a.1 a.2.1 a.2.2.1 a.2.2.2 j
def i9(c:ce)(b:List ce→Nat→cS→Bool):Bool:=(sh c).cQ.any fun a=>b a.1.1 a.1.2.1 a.1.2.2
def lA{g:ce}{d:List ce→Nat→cS→Bool}{b:ce→Prop}(k:i9 g d=ar)(h:∀c e f,d c e f=ar→b (.Tuple c e f)):b g:=d2 k fun a j i=>j▸h a.1 a.2.1 a.2.2 i
def F3(c:ce)(b:List ce→cS→Bool):Bool:=(sh c).a3.any fun a=>b a.1.1 a.1.2
def Jm{e:ce}{c:List ce→cS→Bool}{a:ce→Prop}(j:F3 e c=ar)(g:∀b d,c b d=ar→a (.List b d)):a e:=d2 j fun f i h=>i▸g f.1 f.2 h
def Bb(c:ce)(b:ce→cS→Bool):Bool:=(sh c).F2.any fun a=>b a.1.1 a.1.2
def Ij{e:ce}{c:ce→cS→Bool}{a:ce→Prop}(j:Bb e c=ar)(g:∀b d,c b d=ar→a (.Starred b d)):a e:=d2 j fun f i h=>i▸g f.1 f.2 h
def N1(c:ce)(b:List (Option ce)→List ce→cS→Bool):Bool:=(sh c).eg.any fun a=>b a.1.1 a.1.2.1 a.1.2.2
def SU{g:ce}{d:List (Option ce)→List ce→cS→Bool}{b:ce→Prop}(k:N1 g d=ar)(h:∀c e f,d c e f=ar→b (.Dict c e f)):b g:=d2 k fun a j i=>j▸h a.1 a.2.1 a.2.2 i
def yv(c:ce)(b:ce→List jV→ji→cS→Bool):Bool:=(sh c).Zm.any fun a=>b a.1.1 a.1.2.1 a.1.2.2.1 a.1.2.2.2
def Fg{h:ce}{d:ce→List jV→ji→cS→Bool}{b:ce→Prop}(l:yv h d=ar)(i:∀c f g e,d c f g e=ar→b (.ListComp c f g e)):b h:=d2 l fun a k j=>k▸i a.1 a.2.1 a.2.2.1 a.2.2.2 j
noncomputable def fO{a:Type}:List a→(a→List a→Bool)→Bool
 |d::c,b=>b d c
 |[],_=>b2
def d3{a:Type}{d:List a}{f:a→List a→Bool}{e:List a→Prop}(g:fO d f=ar)(h:∀b c,f b c=ar→e (b::c)):e d:=by
 induction d with
 |nil=>exact dy g
 |cons b c=>exact h b c g
def iq{b:Type}{a:List b}{c:List b→Prop}(e:a.isEmpty=ar)(d:c []):c a:=by
 induction a with
 |nil=>exact d
 |cons _ _=>exact dy e
def f4{a c:Bool}{d:Prop}(b:(a&&c)=ar)(e:a=ar→c=ar→d):d:=by
 induction a with
 |true=>exact e rfl b
 |false=>exact dy b
def g7{b d e:Bool}{c:Prop}(a:(b&&d&&e)=ar)(f:b=ar→d=ar→e=ar→c):c:=f4 a fun a i=>f4 a fun g h=>f g h i
def sA{b e f d:Bool}{c:Prop}(a:(b&&e&&f&&d)=ar)(g:b=ar→e=ar→f=ar→d=ar→c):c:=f4 a fun a h=>g7 a fun j k i=>g j k i h
def Dv{b e f d g:Bool}{c:Prop}(a:(b&&e&&f&&d&&g)=ar)(h:b=ar→e=ar→f=ar→d=ar→g=ar→c):c:=f4 a fun a i=>sA a fun l m j k=>h l m j k i
def Zn{b f g e h d:Bool}{c:Prop}(a:(b&&f&&g&&e&&h&&d)=ar)(i:b=ar→f=ar→g=ar→e=ar→h=ar→d=ar→c):c:=f4 a fun a j=>Dv a fun m n k l o=>i m n k l o j
def Zo{c g h f i e b:Bool}{d:Prop}(a:(c&&g&&h&&f&&i&&e&&b)=ar)(j:c=ar→g=ar→h=ar→f=ar→i=ar→e=ar→b=ar→d):d:=f4 a fun a k=>Zn a fun n o l m p q=>j n o l m p q k
def uA(b:ce)(a:b4):Bool:=(sh b).cJ.any fun c=>c.1.1==a
def N2(a:ce):Option b4:=(sh a).cJ.map fun b=>b.1.1
noncomputable def mx:ce→Bool
 |.ListComp .. |.SetComp .. |.DictComp .. =>ar
 |_=>b2
noncomputable def Hx:ce→Bool
 |.Set .. =>ar
 |_=>b2
def jy(a:ce):Bool:=(sh a).F2.isSome
def xj(a:ce):Bool:=(sh a).cJ.isSome||((sh a).bY.isSome||((sh a).fw.isSome||(sh a).eg.isSome))
def fX:List Nat→fF→List ce→Bool
 |[],_,a=>a.isEmpty
 |c::d,b,a=>fO a fun f a=>r0 f fun e g=>b.contains (c,e)&&fX d b a
def yZ(a:List Nat)(d:Bool)(b:fF)(c:ce):Bool:=cond d (i9 c fun e f f=>fX a b e) (fX a b [c])
noncomputable def wI(d:Sc)(b:fF)(c:fF):fF:=b++c.filter fun a=>d.lookup a.2==O .free
noncomputable def v7(b:Sc)(d:List Nat)(c:fF)(a:Nat×b4):Bool:=cond (d.contains a.1) (b.lookup a.2==O .local) (c.contains a&&b.lookup a.2==O .free)
noncomputable def N3(b:ji)(c:Sc)(a:b4×tV):Bool:=(a.2 != .cell)&&(a.2 != .local||b.names.lookup a.1==O .local)&&(a.2 != .free||(c.lookup a.1==O .cell&&b.names.lookup a.1==O .free&& !(a.1==("__classdict__":b4))))
def Jo(a:ji)(b:Sc):Bool:=a.kind== .function&&a.names.all (N3 a b)
def PX(a:ce):List ce:=(sh a).cQ.elim [a] fun b=>b.1.1
def SV(a:Nat×ce):Option (Nat×b4):=(N2 a.2).map fun b=>(a.1,b)
def Fh(a:List Nat)(b:ce):fF:=(a.zip (PX b)).filterMap SV
def Db:kG→List jV→fF
 |.N,_=>[]
 |.J d _ _ _ b,a=>a.head?.elim [] fun c=>Fh d c.target++Db b a.tail
noncomputable def Bc(a:fF):Bool:=dY (a.map (·.1)).Nodup&&dY (a.map (·.2)).Nodup
noncomputable def Yj:kG→Bool
 |.N=>ar
 |_=>b2
noncomputable def wJ:cv→Bool
 |.bX=>ar
 |_=>b2
noncomputable def Zp:Const→Option I4
 |.none=>O .bX
 |.bool b=>O (.b3 b)
 |.int c=>O (.Z c)
 |.str a=>O (.ad a)
 |_=>b1
noncomputable def I4.V4:I4→I4→Bool
 |.bX,.bX=>ar
 |.b3 b,.b3 a=>b==a
 |.Z b,.Z a=>b==a
 |.ad b,.ad a=>b==a
 |_,_=>b2
def Dc(b:ce)(a:I4):Bool:=yt b fun c d d=>(Zp c).any (I4.V4 a)
section
variable(d:rg)
mutual
def mE(sc:Sc)(e9:fF):cv→ce→Bool
 |.bX,e=>Dc e .bX
 |.b3 b,e=>Dc e (.b3 b)
 |.Z i,e=>Dc e (.Z i)
 |.ad x,e=>Dc e (.ad x)
 |.bW x,e=>r0 e fun id q9=>e9.contains (x,id)&& !(id==("__debug__":b4))
 |.b5 g,e=>r0 e fun id q9=>(d.pS[g]?).any fun q=>q.1==id&&sc.lookup id==O .globalImplicit&& !(id==("__debug__":b4))
 |.eD _ op a b,e=>Jj e fun l o r q9=>dY (o=WF op)&&mE sc e9 a l&&mE sc e9 b r
 |.gA a,e=>vg e fun o x q9=>dY (o=.Not)&&mE sc e9 a x
 |.pQ a,e=>vg e fun o x q9=>dY (o=.USub)&&mE sc e9 a x
 |.ev xs,e=>x0 e fun o es q9=>dY (o=.And)&&ti sc e9 xs es
 |.hK xs,e=>x0 e fun o es q9=>dY (o=.Or)&&ti sc e9 xs es
 |.b7 a cs,e=>Ba e fun l os es q9=>mE sc e9 a l&&Yk sc e9 cs os es
 |.fx c a b,e=>Jk e fun t x y q9=>mE sc e9 c t&&mE sc e9 a x&&mE sc e9 b y
 |.b0 _ f args,e=>r1 e fun g as ks q9=>(sh g).cJ.isSome&&ks.isEmpty&&mE sc e9 f g&&ti sc e9 args as
 |.eQ o nm args,e=>r1 e fun g as ks pos=>n3 g fun v n ap=>nm==n&&ks.isEmpty&&ap.endLine==pos.line&&dY (as.length<29)&&xj v&&mE sc e9 o v&&ti sc e9 args as
 |.bY o nm,e=>n3 e fun v n q9=>nm==n&&xj v&&mE sc e9 o v
 |.cL o i,e=>gW e fun v sl q9=>!(sh sl).fP.isSome&&mE sc e9 o v&&mE sc e9 i sl
 |.fP _ o lo hi,e=>gW e fun v sl q9=>Jl sl fun l u st q9=>st.isNone&&mE sc e9 o v&&l.elim (wJ lo) (mE sc e9 lo)&&u.elim (wJ hi) (mE sc e9 hi)
 |.cQ xs,e=>i9 e fun es q9 q9=>ti sc e9 xs es
 |.a3 _ xs,e=>F3 e fun es q9=>ti sc e9 xs es
 |.tr x r,e=>F3 e fun es q9=>fO es fun a es=>fO es fun b es=>Bb b fun b q9=>es.isEmpty&& !jy a&&mE sc e9 x a&&mE sc e9 r b
 |.eg kvs,e=>N1 e fun ks vs q9=>ks.all (·.isSome)&&dY (ks.length=vs.length)&& !ks.isEmpty&&dY (ks.length≤15)&&mKV sc e9 kvs ks vs
 |.eh _ elt gens,e=>yv e fun x gs c q9=>!gs.isEmpty&&dY (h5 gens).Nodup&&Jo c sc&&(wI c.names (Db gens gs) e9).all (v7 c.names (h5 gens) e9)&&Bc (wI c.names (Db gens gs) e9)&&zH sc e9 c.names (wI c.names (Db gens gs) e9) gens gs&&mE c.names (wI c.names (Db gens gs) e9) elt x
 |.pR a,e=>xj e&&mE sc e9 a e
 |.sN,_=>ar
def ti(sc:Sc)(e9:fF):dS→List ce→Bool
 |.N,es=>es.isEmpty
 |.J a r,es=>fO es fun e es=>!jy e&&mE sc e9 a e&&ti sc e9 r es
def Yk(sc:Sc)(e9:fF):se→List jK→List ce→Bool
 |.N,os,es=>os.isEmpty&&es.isEmpty
 |.J op a r,os,es=>fO os fun o os=>fO es fun e es=>dY (o=Du op)&& !Hx e&&mE sc e9 a e&&Yk sc e9 r os es
def mKV(sc:Sc)(e9:fF):dS→List (Option ce)→List ce→Bool
 |.N,ks,vs=>ks.isEmpty&&vs.isEmpty
 |.J k r,ks,vs=>fO ks fun ko ks=>ko.any fun e=>mE sc e9 k e&&acs sc e9 r ks vs
def acs(sc:Sc)(e9:fF):dS→List (Option ce)→List ce→Bool
 |.N,_,_=>b2
 |.J v r,ks,vs=>fO vs fun e vs=>mE sc e9 v e&&mKV sc e9 r ks vs
def Yl(sc:Sc)(e9:fF):ub→ce→Bool
 |.cE a,e=>!Hx e&&mE sc e9 a e
 |.gb a,e=>r1 e fun g as ks q9=>uA g "range"&&sc.lookup ("range":b4)==O .globalImplicit&&ks.isEmpty&&fO as fun x as=>as.isEmpty&& !jy x&&mE sc e9 a x
 |.yC a,e=>r1 e fun g as ks q9=>uA g "enumerate"&&sc.lookup ("enumerate":b4)==O .globalImplicit&&ks.isEmpty&&fO as fun x as=>as.isEmpty&& !jy x&&mE sc e9 a x
 |.zt a b,e=>r1 e fun g as ks q9=>uA g "zip"&&sc.lookup ("zip":b4)==O .globalImplicit&&ks.isEmpty&&fO as fun x as=>fO as fun y as=>as.isEmpty&& !jy x&& !jy y&&mE sc e9 a x&&mE sc e9 b y
def zH(sc:Sc)(e9:fF)(sc':Sc)(QX:fF):kG→List jV→Bool
 |.N,gs=>gs.isEmpty
 |.J xs wO it ifs r,gs=>fO gs fun g gs=>dY (g.is_async=0)&&Yl sc e9 it g.iter&&yZ xs wO QX g.target&&ti sc' QX ifs g.ifs&&zH sc' QX sc' QX r gs
end
end
inductive oq(env:du)(T:di)(nm:b4)(u:Option cj):Prop
 |bW (hk:env.kindOf nm=O .local) (o:ea) (m:b4→Option cj) (e:T env.locals=O o) (ns:jp o m) (h:m nm=u)
 |ir (hk:env.kindOf nm=O .cell∨env.kindOf nm=O .free) (hn:(nm==("__classdict__":b4))=b2) (c:cz) (o:ea) (hc:env.cells.lookup nm=O c) (e:T c=O o) (h:o.data=.cell u)
structure eU(W:Wd)(g:dQ)(env:du)(sc:Sc)(e9:fF)(ρ:cV):Prop where
 dm:env.scope.kind=.function
 mR:env.globals=pJ
 m6:env.builtins=qH
 b5:∀id,sc.lookup id=O .globalImplicit→env.kindOf id=O .globalImplicit
 ir:∀id,sc.lookup id=O .cell→env.kindOf id=O .cell∧∃c,env.cells.lookup id=O c
 bW:∀id,sc.lookup id=O .local→env.kindOf id=O .local
 inj:∀n n' c,env.cells.lookup n=O c→env.cells.lookup n'=O c→n=n'
 hF:∀n c,env.cells.lookup n=O c→c≠env.locals
 Jp:∃o,g.T env.locals=O o∧∃m,jp o m
 Ex:∀n c,env.cells.lookup n=O c→∃o,g.T c=O o
 Ym:(e9.map (·.1)).Nodup
 Yn:(e9.map (·.2)).Nodup
 mT:∀p∈e9,∃u,oq env g.T p.2 u∧∀v,ρ[p.1]?.join=O v→∃w,u=O w∧dU W g v w
def cY(b:du)(a:cz):Prop:=a=b.locals∨∃c,b.cells.lookup c=O a
structure At(W:Wd)(d:Nat)(A:d8)(g:dQ)(σ:bS)(s:cM)(env:du)(sc:Sc)(e9:fF)(ρ:cV):Prop where
 a:xi A d
 S:c7 W g σ s
 E:eU W g env sc e9 ρ
section
variable{e:Wd}{c i:dQ}{j:bS}{f:cM}{l:d8}{k:Nat}{b:du}{h:Sc}{d:fF}{g:cV}
def eU.h8(p:eU e c b h d g){m:cz}(n:cY b m):c.T m≠b1:=fun o=>by
 rcases n with rfl|⟨r,n⟩
 ·obtain ⟨q,a,_⟩:=p.Jp;rw [o] at a;exact cG a
 ·obtain ⟨q,a⟩:=p.Ex r m n;rw [o] at a;exact cG a
def oq.BV{v t:di}{q:b4}{s:Option cj}(a:oq b v q s)(r:∀n,cY b n→t n=v n):oq b t q s:=by
 induction a with
 |bW o m y p x a=>exact .bW o m y ((r _ (.inl rfl)).trans p) x a
 |ir o w z m u p a=>exact .ir o w z m u ((r _ (.inr ⟨_,u⟩)).trans p) a
def eU.cO{v:cz→Prop}(o:eU e c b h d g)(u:Le v c i)(n:∀a,v a→¬cY b a):eU e i b h d g:=
 have q:∀a,cY b a→i.T a=c.T a:=fun a y=>u.T a fun s=>n a s y
 {o with
  Jp:=by obtain ⟨r,m,F⟩:=o.Jp;exact ⟨r,(q _ (.inl rfl)).trans m,F⟩
  Ex:=fun t p n=>by obtain ⟨r,m⟩:=o.Ex t p n;exact ⟨r,(q _ (.inr ⟨t,n⟩)).trans m⟩
  mT:=fun s x=>let ⟨w,a,C⟩:=o.mT s x;⟨w,a.BV q,fun z m=>let ⟨A,p,k⟩:=C z m;⟨A,p,k.cO u⟩⟩}
def At.cc{m:bS}{a:cM}(n:At e k l c j f b h d g)(o:pY c i)(q:c7 e i m a):At e k l i m a b h d g:=⟨n.a,q,n.E.cO o fun r p=>p.elim⟩
def Ik(u:c7 e c j f)(m:eU e c b h d g){y:Nat}{t:b4}{p:bZ}{v:cj→cM→Prop}(L:(y,t)∈d)(o:g[y]?.join=O p)(q:∀n,dU e c p n→v n f):Wp e l (loadName b t) v f:=by
 refine bU fun A=>?_
 obtain ⟨n,P,C⟩:=m.mT _ L
 obtain ⟨Q,rfl,r⟩:=C p o
 refine A ?_;try clear A
 induction P with
 |bW a w R s F o=>exact Us m.dm a (F.eH (u.hN _ _ s)) o (q _ r)
 |ir a I G w x s K=>
  have z:f.heap.IsCell G (O Q):=⟨w,u.hN _ _ s,K⟩
  rcases a with a|a
  ·exact Ut m.dm a x z (q _ r)
  ·exact Uu m.dm a x z (q _ r) I
def Be{w x:Type}:∀{m:List (w×x)}{v:w}{s t:x},(m.map (·.1)).Nodup→(v,s)∈m→(v,t)∈m→s=t:=by
 intro m
 induction m with
 |nil=>
  intro G K F n r q
  first|exact cG q|exact absurd q gD|exact Bool.noConfusion q|exact False.elim q|exact cG r|exact nomatch r|exact Bool.noConfusion r|exact False.elim r|exact cG n|exact nomatch n|exact Bool.noConfusion n|exact False.elim n
 |cons I L z=>
  intro v s t A p a
  obtain ⟨o,C⟩:=vU.mp A
  rcases eP.mp p with y|p
  ·rcases eP.mp a with u|a
   ·exact (Vb (y.trans u.symm)).2
   ·exact absurd (Cf (f:=(·.1)) a) (by rw [← y] at o;exact o)
  ·rcases eP.mp a with u|a
   ·exact absurd (Cf (f:=(·.1)) p) (by rw [← u] at o;exact o)
   ·exact z C p a
def PY{d:fF}{n:Nat}{a m:b4}(o:(d.map (·.1)).Nodup)(q:(n,a)∈d)(p:(n,m)∈d):a=m:=Be o q p
def PZ{d:fF}{m n:Nat}{a:b4}(p:(d.map (·.2)).Nodup)(r:(m,a)∈d)(q:(n,a)∈d):m=n:=by
 refine Be (m:=d.map fun o=>(o.2,o.1)) ?_ (hJ.mpr ⟨_,r,rfl⟩) (hJ.mpr ⟨_,q,rfl⟩)
 refine bT lO ?_;exact p
def Dd{g:cV}{m n:Nat}{q o:bZ}(a:(g.set m (O q))[n]?.join=O o):(m=n∧o=q)∨(m≠n∧g[n]?.join=O o):=by
 by_cases p:m=n
 ·subst p
  rw [TX] at a
  refine .inl ⟨rfl,?_⟩
  cases r:g[m]? with
  |none=>rw [r] at a;exact cG a
  |some s=>rw [r] at a;exact (dg a).symm
 ·rw [pi p] at a;exact .inr ⟨p,a⟩
def xk(b:du)(a:b4)(m:cz):Prop:=(b.kindOf a=O .local∧m=b.locals)∨((b.kindOf a=O .cell∨b.kindOf a=O .free)∧b.cells.lookup a=O m)
def xk.h8{m:b4}{n:cz}(a:xk b m n):cY b n:=by
 rcases a with ⟨_,rfl⟩|⟨_,a⟩
 ·exact .inl rfl
 ·exact .inr ⟨m,a⟩
def Yo{a:ea}{p n:b4→Option cj}(v:jp a p)(t:jp a n):n=p:=by
 refine bU fun q=>?_
 obtain ⟨x,A,r,w,s⟩:=v
 obtain ⟨C,z,m,y,u⟩:=t
 refine q ?_;try clear q
 rw [r] at m;cases m
 exact funext fun o=>(u o).symm.trans (s o)
def c7.QY(o:c7 e c j f){n:cz}{s v:ea}{q:eu}(r:Nat)(t:c.T n=O s)(u:t5 n f.heap q)(z:q.get? n=O v):c7 e ⟨c.F,c.T.d6 n v,c.α⟩ j {f with heap:=q,toks:=r}:=by
 refine o.KM (fun a=>a=n) r (fun a x=>⟨s,x▸t⟩) (fun a w y m=>(u.2 a y).trans m) fun a w m=>?_
 by_cases p:a=n
 ·subst p
  rw [di.eF] at m
  obtain rfl:=dg m
  exact ⟨z,o.qo t⟩
 ·rw [di.fe _ _ p] at m
  exact ⟨(u.2 a p).trans (o.hN a w m),o.qo m⟩
def eU.zE(p:eU e c b h d g){z:Nat}{s:b4}{x:bZ}{u:cj}{o:cz}{m:ea}(y:(z,s)∈d)(R:dU e c x u)(K:∀I w,b.cells.lookup I=O w→∃n,(c.T.d6 o m) w=O n)(G:∃n,(c.T.d6 o m) b.locals=O n∧∃t,jp n t)
  (F:∀a∈d,∀q,oq b c.T a.2 q→oq b (c.T.d6 o m) a.2 (if a.2=s then O u else q)):eU e ⟨c.F,c.T.d6 o m,c.α⟩ b h d (g.set z (O x)):=by
 refine {p with Jp:=G,Ex:=K,mT:=fun a r=>?_}
 refine bU fun A=>?_
 obtain ⟨q,Q,C⟩:=p.mT a r
 refine A ?_;try clear A
 refine ⟨_,F a r q Q,fun t v=>?_⟩
 rcases Dd v with ⟨T,rfl⟩|⟨P,v⟩
 ·refine bT (if_pos (PY p.Ym (show (a.1,a.2)∈d from r) (T▸y))) ?_
  exact ⟨u,rfl,R⟩
 ·have:¬a.2=s:=fun L=>P (PZ p.Yn y (L▸(show (a.1,a.2)∈d from r)))
  refine bT (if_neg this) ?_
  exact C t v
def q6(P:c7 e c j f)(m:eU e c b h d g){ak:Nat}{q:b4}{af:bZ}{T:cj}{aa:Unit→cM→Prop}(v:(ak,q)∈d)(Q:dU e c af T)
  (al:∀i ah,Le (xk b q) c i→eU e i b h d (g.set ak (O af))→c7 e i j ah→aa () ah):Wp e l (storeName b q T) aa f:=by
 refine bU fun w=>?_
 obtain ⟨aq,aC,_⟩:=m.mT _ v
 refine w ?_;try clear w
 have ag:∀r(ai:Prop),b.kindOf r=O .local→(b.kindOf r=O .cell∨b.kindOf r=O .free)→ai:=fun r ai aB C=>by
  rcases C with C|C<;>(rw [aB] at C;cases C)
 induction aC with
 |bW o t aF n ae aG=>
  refine wpAny_storeName_local o (ae.eH (P.hN _ _ n)) (fun K au R=>?_) (by refine bT m.dm ?_;rfl)
  refine bU fun w=>?_
  obtain ⟨G,ab,an⟩:=jp.eI au
  refine w ?_;try clear w
  refine al ⟨c.F,c.T.d6 b.locals G,c.α⟩ _ ⟨k4.cy _,jU _,fun az Y=>di.fe _ _ fun a=>Y (.inl ⟨o,a⟩)⟩ ?_ (P.QY (f.toks+1) n R ab)
  refine m.zE v Q (fun r s v=>let ⟨t,n⟩:=m.Ex r s v;⟨t,(di.fe _ _ (m.hF _ _ v)).trans n⟩) ⟨_,di.eF _ _ _,_,an⟩ fun I aE aD X=>?_
  induction X with
  |bW p A ao u W x=>
   rw [n] at u;obtain rfl:=dg u
   obtain rfl:=Yo ae W
   refine .bW p G _ (di.eF _ _ _) an ?_
   by_cases a:I.2=q
   ·(refine bT (if_pos a) ?_;refine bT (if_pos a) ?_;rfl)
   ·(refine bT (if_neg a) ?_;refine bT (if_neg a) ?_);exact x
  |ir p L z A F u x=>
   refine bT (if_neg (show¬I.2=q from fun a=>ag q False o (a▸p))) ?_
   exact .ir p L z A F ((di.fe _ _ (m.hF _ _ F)).trans u) x
 |ir o aH s t y n aA=>
  have am:f.heap.IsCell s aq:=⟨t,P.hN _ _ n,aA⟩
  have ac:∀K,K.IsCell s (O T)→t5 s f.heap K→aa () {f with heap:=K}:=by
   intro K av R
   refine bU fun w=>?_
   obtain ⟨G,ab,ay⟩:=av
   refine w ?_;try clear w
   refine al ⟨c.F,c.T.d6 s G,c.α⟩ _ ⟨k4.cy _,jU _,fun az Y=>di.fe _ _ fun a=>Y (.inr ⟨o,a▸y⟩)⟩ ?_ (P.QY f.toks n R ab)
   refine m.zE v Q (fun r z v=>?_) (let ⟨t,n,Q⟩:=m.Jp;⟨t,(di.fe _ _ (m.hF _ _ y).symm).trans n,Q⟩) fun I aE aD X=>?_
   ·by_cases a:z=s
    ·subst a;exact ⟨_,di.eF _ _ _⟩
    ·obtain ⟨t,n⟩:=m.Ex r z v;exact ⟨t,(di.fe _ _ a).trans n⟩
   induction X with
   |bW p A ao u W x=>
    refine bT (if_neg (show¬I.2=q from fun a=>ag q False (a▸p) o)) ?_
    exact .bW p A ao ((di.fe _ _ (m.hF _ _ y).symm).trans u) W x
   |ir p L z A F u x=>
    by_cases a:I.2=q
    ·refine bT (if_pos a) ?_
     exact .ir p L s G (by refine bT a ?_;exact y) (di.eF _ _ _) ay
    ·refine bT (if_neg a) ?_
     exact .ir p L z A F ((di.fe _ _ fun aw=>a (m.inj _ _ _ (aw▸F) y)).trans u) x
  rcases o with o|o
  ·exact wpAny_storeName_cell m.dm o y am ac
  ·unfold storeName
   simp only [o,m.dm]
   exact c5 (wpAny_cellOf y (wpAny_cellSet am ac))
end
noncomputable def o7(b:Wd)(a:Nat):cj:=cond (jJ a 1000) (.ref (b.jT a)) (.ref (b.eS (a-1000)))
def xl(c:Wd)(a:cj):Prop:=(∃b,a=.builtin b)∨(∃d,a=.type d)∨lR c.K a=ar
def BW(a:Wd)(i:Nat)(j:cK):Prop:=∀(c:Nat)(g:List bZ)(f:bS)(K:KE),j c g f K→∀(b:dQ)(d:cM)(e:List cj)(h:d8),xi h i→c7 a b f d→ee a b g e→Wp a h (gg (o7 a c) e) (VP a b K) d
def zL(a:Wd)(d:Nat)(f:cK):Prop:=(kc a)∧(a.yo=p0)∧(∀b,(a.T.p9[b]?).isSome=ar→lR a.K (.ref (a.jT b))=ar)∧(∀b,(a.T.p9[b]?).isSome=ar→jJ b 1000=ar)∧(∀(e:Nat)(b:lb),a.T.e7[e]? =O b→∀c∈b.kH,lR a.K (.ref (a.jT c.2))=ar)∧(BW a d f)
section
variable{a:Wd}{c:Nat}{d:cK}(b:zL a c d)
include b
def zL.cF:kc a:=b.1
def zL.bi:a.yo=p0:=b.2.1
def zL.cR:∀e,(a.T.p9[e]?).isSome=ar→lR a.K (.ref (a.jT e))=ar:=b.2.2.1
def zL.C1:∀e,(a.T.p9[e]?).isSome=ar→jJ e 1000=ar:=b.2.2.2.1
def zL.Nd:∀(f:Nat)(e:lb),a.T.e7[f]? =O e→∀g∈e.kH,lR a.K (.ref (a.jT g.2))=ar:=b.2.2.2.2.1
def zL.Nf:BW a c d:=b.2.2.2.2.2
end
structure rH(W:Wd)(A:d8)(g:dQ)(s:cM)(e:ce)(env:du)(V:KE→Prop):Prop where
 d7:∀K,V K→Wp W A (fk e env) (VP W g K) s
 m4:∀{K2:KE}(K:Bool→bS→Prop),(∀m σ,K2 m σ→lS K m σ)→V K2→Wp W A (Cq e env (fk e env)) (TP W g K) s
def e4(a:Wd)(l:Nat)(m:cK)(f:cv):Prop:=∀{c:Sc}{h:fF}{k:ce}{j:d8}{b:dQ}{i:bS}{d:cM}{g:du}{e:cV},mE a.T c h f k=ar→At a l j b i d g c h e→rH a j b d k g (vE ⟨a.T,m⟩ f e i)
section
variable{a:Wd}{e i:dQ}{d:bS}{g:cM}{h:d8}{c:Nat}{b:cK}
def rH.eI{f:ce}{j:du}{n:KE→Prop}(m:∀K,n K→Wp a h (fk f j) (VP a e K) g)(p:Cq f j (fk f j)=(do let l ← fk f j;qJ f.pos;pK [l] (tY l))):rH a h e g f j n:=
 ⟨m,fun K r k=>wpAny_isTrue_value ((m _ k).vp fun u t v w x o s q k=>(n0 (q:=Unit) q s (r _ _ k)).ux o) p⟩
def acu{j f:I4}(k:I4.V4 j f=ar):j=f:=by
 induction j<;>induction f<;>first|rfl|exact congrArg _ (dr k)|exact dy k
def P0{j:Const}{k:I4}(l:Zp j=O k):(j=.none∧k=.bX)∨(∃f,j=.bool f∧k=.b3 f)∨(∃f,j=.int f∧k=.Z f)∨∃f,j=.str f∧k=.ad f:=by
 induction j<;>first|exact cG l|(obtain rfl:=dg l;first|exact .inl ⟨rfl,rfl⟩|exact .inr (.inl ⟨_,rfl,rfl⟩)|exact .inr (.inr (.inl ⟨_,rfl,rfl⟩))|exact .inr (.inr (.inr ⟨_,rfl,rfl⟩)))
def Bf{l:I4}{n:ce}(o:Dc n l=ar){q:du}(j:c7 a e d g):rH a h e g n q fun K=>K (.f l.x) d:=by
 apply Ff o
 intro f u t s
 refine bU fun m=>?_
 obtain ⟨v,p,r⟩:=jC s
 obtain rfl:=acu r
 refine m ?_;try clear m
 rcases P0 p with ⟨rfl,rfl⟩|⟨k,rfl,rfl⟩|⟨k,rfl,rfl⟩|⟨k,rfl,rfl⟩
 ·exact .eI (fun K f=>wpAny_Constant_none (VP.f (f:=.bX) j rfl f)) rfl
 ·exact .eI (fun K f=>wpAny_Constant_bool (VP.b3 j f)) rfl
 ·exact .eI (fun K f=>wpAny_Constant_int (VP.Z (j.qh _) f)) rfl
 ·exact .eI (fun K f=>wpAny_Constant_str (VP.ad (j.qh _) f)) rfl
def aa1(o:Nat):e4 a c b (.bW o):=fun l j=>by
 apply k7 l
 intro u r q
 refine f4 q fun m n=>.eI (fun K f=>?_) rfl
 obtain ⟨s,k,f⟩:=fj f
 exact wpAny_Name (Ik j.S j.E (rb.mp m) k fun t p=>VP.m j.S p f) (B5 _ |>.mp n)
def Yp(w:kc a)(n:Nat):e4 a c b (.b5 n):=fun m j=>by
 apply k7 m
 intro I W R
 refine bU fun f=>?_
 obtain ⟨⟨q,C⟩,t,z⟩:=jC R
 refine f ?_;try clear f
 refine g7 z fun y x F=>.eI (fun K o=>?_) rfl
 refine bU fun f=>?_
 obtain rfl:q=I:=dr y
 obtain ⟨ab,s,o⟩:=fj o
 refine f ?_;try clear f
 rw [show (⟨a.T,b⟩:gB).T.pS[n]? =_ from t] at s
 obtain rfl:=dg s
 refine bU fun f=>?_
 obtain ⟨X,T,u,Q,k⟩:=w.pS n q C t
 refine f ?_;try clear f
 have l:=j.S
 have p:∀{G:cz}{v:b4→Option cj},a.eG.Ns G v→_:=fun P=>P.keeps fun ac Y L=>l.kR L
 have r:=VP.f l (g5.cO l.kQ Q) o
 refine U9 j.E.dm (j.E.b5 _ (dr x)) ?_ (B5 _ |>.mp F)
 rcases k with k|⟨k,aa,A,m⟩
 ·exact loadGlobal_global (by refine bT j.E.mR ?_;exact p u) k r
 ·exact Va (by refine bT j.E.mR ?_;exact p u) k (by refine bT j.E.m6 ?_;exact p A) m r
def aa2(fz:Bool)(y:z8){j m:cv}(v:e4 a c b j)(w:e4 a c b m):e4 a c b (.eD fz y j m):=fun r l=>by
 apply PU r
 intro T W ab P C
 refine g7 C fun p u t=>?_
 obtain rfl:=of_decide_eq_true p
 refine .eI (fun K x=>wpAny_BinOp (((v u l).d7 _ x).vp fun G F I Q L f o z s=>?_)) rfl
 refine ((w t (l.cc f z)).d7 _ s).vp fun X Y aa R ac k A n q=>?_
 exact (KQ n (o.cO k) A q).hZ (f.ci k)
def aa3{l:cv}(x:e4 a c b l):e4 a c b (.gA l):=fun t z=>by
 apply yu t
 intro R W I j
 refine f4 j fun r v=>?_
 obtain rfl:=of_decide_eq_true r
 have m:=x v z
 refine ⟨fun K k=>wpAny_UnaryOp ((m.d7 _ k).vp fun F X q L G s p A u=>?_),fun K j k=>wpAny_isTrue_Not ?_⟩
 ·exact not_value ((n0 (q:=Unit) A p u).cO fun Q T w=>by obtain ⟨P,Y,y,o,f⟩:=w;exact VP.hZ (s.ci y) (VP.b3 o f))
 ·refine m.m4 (fun n d=>K (!n) d) (fun q d f=>?_) k
  obtain ⟨n,C,f⟩:=fj f
  unfold lS
  refine bT C ?_
  exact j _ _ f
def aa4{f:cv}(q:e4 a c b f):e4 a c b (.pQ f):=fun m s=>by
 apply yu m
 intro z A x p
 refine f4 p fun k o=>?_
 obtain rfl:=of_decide_eq_true k
 exact .eI (fun K r=>wpAny_UnaryOp (((q o s).d7 _ r).vp fun v C u y w l j t n=>(KR t j n).hZ l)) rfl
def aa5{j o p:cv}(A:e4 a c b j)(x:e4 a c b o)(y:e4 a c b p):e4 a c b (.fx j o p):=fun G k=>by
 apply PV G
 intro n Q L P q
 refine g7 q fun u w v=>?_
 refine ⟨fun K r=>wpAny_IfExp (((A u k).m4 (fun n d=>pT n (vE _ o _ d K) (vE _ p _ d K)) (fun s s t=>t) r).ve fun j C I F f m l=>?_),fun {z} K q r=>c5 (((A u k).m4 (fun n d=>pT n (vE _ o _ d z) (vE _ p _ d z)) (fun s s t=>t) r).ve fun j C I F f m l=>?_)⟩
 ·induction j with
  |true=>exact ((x w (k.cc f m)).d7 _ l).hZ f
  |false=>exact ((y v (k.cc f m)).d7 _ l).hZ f
 ·induction j with
  |true=>exact ((x w (k.cc f m)).m4 _ q l).ux f
  |false=>exact ((y v (k.cc f m)).m4 _ q l).ux f
def k8{k:Type}{f:Option k}(l:f.isSome=ar):∃j,f=O j:=F7.mp l
def P1{n:ce}(f:xj n=ar):(∃j l,n=.Name j l)∨(∃j l m,n=.Attribute j l m)∨(∃j l m,n=.Subscript j l m)∨∃j l m,n=.Dict j l m:=by
 rcases nR.mp f with f|f
 ·obtain ⟨k,_⟩:=k8 f
  exact .inl ⟨_,_,k.2⟩
 rcases nR.mp f with f|f
 ·obtain ⟨k,_⟩:=k8 f
  exact .inr (.inl ⟨_,_,_,k.2⟩)
 rcases nR.mp f with f|f
 ·obtain ⟨k,_⟩:=k8 f
  exact .inr (.inr (.inl ⟨_,_,_,k.2⟩))
 ·obtain ⟨k,_⟩:=k8 f
  exact .inr (.inr (.inr ⟨_,_,_,k.2⟩))
def BX{f:ce}(o:xj f=ar){j:du}:(∀m l,attributeBase f m j l=l)∧Cq f j (fk f j)=(do let k ← fk f j;qJ f.pos;pK [k] (tY k)):=by
 rcases P1 o with ⟨_,_,rfl⟩|⟨_,_,_,rfl⟩|⟨_,_,_,rfl⟩|⟨_,_,_,rfl⟩<;>exact ⟨fun n n=>rfl,rfl⟩
def Yq(m:kc a){j:cv}(f:b4)(p:e4 a c b j):e4 a c b (.bY j f):=fun o w=>by
 apply p1 o
 intro G v C t
 refine g7 t fun l s q=>?_
 obtain rfl:f=v:=dr l
 refine .eI (fun K u=>Attribute_any_ (((p q w).d7 _ u).vp fun z I y F A n k x r=>(H4 m x k r).hZ n) ?_) rfl
 rw [arm_eval_Attribute,(BX s).1]
def aa6{u:cv}(I:e4 a c b u):e4 a c b (.pR u):=fun n T=>by
 refine f4 n fun L n=>?_
 have X:=I n T
 refine .eI (fun K P=>(X.d7 _ P).vp fun ac ah ab ae x r q k A=>?_) (BX L).2
 ·rcases oS A with ⟨_,j⟩|⟨s,l,j⟩
  ·refine bU fun f=>?_
   obtain ⟨C,z,j,m⟩:=iE j
   obtain ⟨ag,o,p⟩:=dC j
   obtain rfl:=ik o
   refine f ?_;try clear f
   cases p
   exact ⟨_,_,x,r,q,k,m⟩
  ·refine bU fun f=>?_
   obtain rfl:=lz l
   obtain ⟨C,z,j,m⟩:=iE j
   obtain ⟨af,o,p⟩:=dC j
   refine f ?_;try clear f
   cases p
   refine bU fun f=>?_
   obtain ⟨t,rfl,l⟩:=q
   obtain ⟨Y,R,F,G,aa⟩:=k.rZ l o
   obtain ⟨w,v⟩:=(k.acp s).uw G Y (k.jx t (gj l)) fun W y=>by
    have:s=W:=by
     apply MF
     intro Q
     exact Ep k.pZ l y Q rfl
    (refine gT this ?_;rw [Gj (k.cC▸(fJ.mp l).1)])
   refine f ?_;try clear f
   refine ⟨_,_,_,r.ci v,?_,w,m⟩
   exact ⟨t,R,F,rfl,di.eF _ _ _,aa.cO v.F⟩
end
def Zq(c:Wd)(f:dQ)(K:List bZ→bS→Prop)(e:List cj)(g:cM):Prop:=∃d b a,pY f a∧ee c a d e∧c7 c a b g∧K d b
def vh(a:Wd)(m:Nat)(n:cK)(h:dS):Prop:=∀{c:Sc}{i:fF}{d:List ce}{k:d8}{b:dQ}{j:bS}{e:cM}{g:du}{f:cV},ti a.T c i h d=ar→At a m k b j e g c i f→∀(l:cS)(K:List bZ→bS→Prop),II ⟨a.T,n⟩ h f j K→Wp a k (sa (pL l (nK d g))) (Zq a b K) e
structure Hy(W:Wd)(A:d8)(g:dQ)(s:cM)(op:BoolOp)(es:List ce)(env:du)(V:KE→Prop):Prop where
 d7:∀pos K,V K→Wp W A (boolOp pos op (lQ es env)) (VP W g K) s
 m4:∀{K2:KE}(K:Bool→bS→Prop),(∀m σ,K2 m σ→lS K m σ)→V K2→Wp W A (allTrue op es env) (TP W g K) s
def v8(a:Wd)(l:Nat)(m:cK)(h:dS):Prop:=∀{c:Sc}{i:fF}{d:List ce}{k:d8}{b:dQ}{j:bS}{e:cM}{g:du}{f:cV},ti a.T c i h d=ar→At a l k b j e g c i f→Hy a k b e .And d g (QQ ⟨a.T,m⟩ h f j)
def Dw(a:Wd)(l:Nat)(m:cK)(h:dS):Prop:=∀{c:Sc}{i:fF}{d:List ce}{k:d8}{b:dQ}{j:bS}{e:cM}{g:du}{f:cV},ti a.T c i h d=ar→At a l k b j e g c i f→Hy a k b e .Or d g (Y6 ⟨a.T,m⟩ h f j)
section
variable{a:Wd}{g h:dQ}{b:bS}{f:cM}{e:d8}{d:Nat}{c:cK}
def Wp.ms{n:gl (List cj)}{K:List bZ→bS→Prop}{l:List cj→cM→Prop}(u:Wp a e n (Zq a g K) f)(p:∀k i m j h,pY g h→ee a h m k→c7 a h j i→K m j→l k i):Wp a e n l f:=u.cO fun r i s=>by obtain ⟨q,j,h,o,w,t,v⟩:=s;exact p r i q j h o w t v
def eC{i:Bool}(j:(!i)=ar):i=b2:=(B5 i).mp j
def oT{i:ce}{k:List ce}{j:du}(l:jy i=b2):nK (i::k) j=(b2,fk i j)::nK k j:=by
 cases i<;>first|rfl|exact dy l
def tI{u:rg}{o:Sc}{t:fF}{m:du}{l:cS}:∀{k:dS}{i:List ce},ti u o t k i=ar→(pL l (nK i m)).any (·.1)=b2∧(pL l (nK i m)).all (fun n=>!n.1)=ar
 |.N,i,j=>by refine bT (l0.mp j) ?_;exact ⟨rfl,rfl⟩
 |.J n k,i,j=>by
  apply d3 j
  intro w i j
  refine g7 j fun p v r=>?_
  obtain ⟨s,q⟩:=tI (k:=k) r
  refine bT (oT (eC p)) ?_
  exact ⟨s,q⟩
def jh{j:ce}{m:List ce}{i:du}{l:cS}{k:List cj→cM→Prop}(s:jy j=b2)(r:Wp a e (fk j i) (fun n q=>Wp a e (sa (pL l (nK m i))) (fun p o=>k (n::p) o) q) f):Wp a e (sa (pL l (nK (j::m) i))) k f:=spliced_more r (by (refine bT (oT s) ?_;rfl))
def Yr:vh a d c .N:=fun j k l K i=>by
 refine bT (l0.mp j) ?_
 exact G0 ⟨[],_,_,.cy _,rfl,k.S,i⟩
def Jq{k:cv}{n:dS}(A:e4 a d c k)(o:vh a d c n):vh a d c (.J k n):=fun i m u K F=>by
 apply d3 i
 intro W T i
 refine g7 i fun w y t=>?_
 refine jh (eC w) (((A y m).d7 _ F).vp fun s Y r R Q j q I x=>?_)
 refine (o t (m.cc j I) u _ x).ms fun C X G z P l L p v=>?_
 exact ⟨r::G,z,P,j.ci l,⟨s,C,rfl,q.cO l,L⟩,p,v⟩
def SW{n:cv}(r:e4 a d c n):v8 a d c (.J n .N):=fun j p=>by
 apply d3 j
 intro w t j
 refine g7 j fun u k o=>?_
 apply iq o
 have l:=r k p
 refine ⟨fun s K i=>l.d7 K i,fun K k i=>Up ((l.m4 K k i).cO fun q v m=>?_)⟩
 induction q with
 |true=>exact wpAny_allTrue_And_nil m
 |false=>exact m
def Ys{n:cv}(r:e4 a d c n):Dw a d c (.J n .N):=fun j p=>by
 apply d3 j
 intro w t j
 refine g7 j fun u k o=>?_
 apply iq o
 have l:=r k p
 refine ⟨fun s K i=>l.d7 K i,fun K k i=>Uq ((l.m4 K k i).cO fun q v m=>?_)⟩
 induction q with
 |true=>exact m
 |false=>exact wpAny_allTrue_Or_nil m
def aa7{k:KE}{K:Bool→bS→Prop}(p:∀i b,k i b→lS K i b){n:bS→KE→Prop}{i:bZ}{b:bS}(j:Wq k n i b):lS (fun l b=>pT l (n b k) (K b2 b)) i b:=by
 refine bU fun o=>?_
 obtain ⟨l,m,j⟩:=fj j
 refine o ?_;try clear o
 unfold lS
 refine bT m ?_
 induction l
 ·have:=p _ _ j
  unfold lS at this
  rw [m] at this
  exact this
 ·exact j
def acv{k:KE}{K:Bool→bS→Prop}(p:∀i b,k i b→lS K i b){n:bS→KE→Prop}{i:bZ}{b:bS}(j:kOr k n i b):lS (fun l b=>pT l (K ar b) (n b k)) i b:=by
 refine bU fun o=>?_
 obtain ⟨l,m,j⟩:=fj j
 refine o ?_;try clear o
 unfold lS
 refine bT m ?_
 induction l
 ·exact j
 ·have:=p _ _ j
  unfold lS at this
  rw [m] at this
  exact this
def Jr{k:List ce}{s:rg}{n:Sc}{q:fF}{o:cv}{r:dS}{l:List ce→Prop}(p:ti s n q (.J o r) k=ar)(m:∀j i,l (j::i)):l k:=d3 p fun j i t=>m j i
def P2{C m:cv}{r:dS}(Y:e4 a d c C)(w:v8 a d c (.J m r)):v8 a d c (.J C (.J m r)):=fun {ac ag q e g b f L ab} s v=>by
 apply d3 s
 intro ae q s
 refine g7 s fun an ai j=>?_
 have F:=Y ai v
 refine Jr (l:=fun q=>ti a.T ac ag (.J m r) q=ar→Hy a e g f _ (ae::q) L _) j (fun am ao j=>?_) j
 refine ⟨fun W K u=>?_,fun {ah} K G u=>Up ((F.m4 (K2:=Wq ah (QQ ⟨a.T,c⟩ (.J m r) ab)) _ (fun aa aa=>aa7 G) u).ve fun k P t z i p n=>?_)⟩
 ·refine c5 ((F.d7 _ u).vp fun al P Q t z i y p n=>c5 (oy (c5 (iH ?_))))
  refine bU fun l=>?_
  obtain ⟨T,af,A⟩:=fj n
  refine l ?_;try clear l
  refine (n0 (q:=Unit) (K:=fun k b=>k=T∧b=t) p y (by refine bT af ?_;exact ⟨rfl,rfl⟩)).cO fun k au X=>?_
  refine bU fun l=>?_
  obtain ⟨aq,ak,o,x,R,I⟩:=X
  refine l ?_;try clear l
  subst R I
  induction k with
  |true=>exact ((w j (v.cc (i.ci o) x)).d7 W _ A).hZ (i.ci o)
  |false=>exact fR ⟨Q,_,ak,i.ci o,y.cO o,x,A⟩
 ·induction k with
  |true=>exact ((w j (v.cc i p)).m4 K G n).ux i
  |false=>exact ⟨t,z,i,p,n⟩
def SX{C m:cv}{r:dS}(Y:e4 a d c C)(w:Dw a d c (.J m r)):Dw a d c (.J C (.J m r)):=fun {ac ag q e g b f L ab} s v=>by
 apply d3 s
 intro ae q s
 refine g7 s fun an ai j=>?_
 have F:=Y ai v
 refine Jr (l:=fun q=>ti a.T ac ag (.J m r) q=ar→Hy a e g f _ (ae::q) L _) j (fun am ao j=>?_) j
 refine ⟨fun W K u=>?_,fun {ah} K G u=>Uq ((F.m4 (K2:=kOr ah (Y6 ⟨a.T,c⟩ (.J m r) ab)) _ (fun aa aa=>acv G) u).ve fun k P t z i p n=>?_)⟩
 ·refine c5 ((F.d7 _ u).vp fun al P Q t z i y p n=>c5 (oy (c5 (iH ?_))))
  refine bU fun l=>?_
  obtain ⟨T,af,A⟩:=fj n
  refine l ?_;try clear l
  refine (n0 (q:=Unit) (K:=fun k b=>k=T∧b=t) p y (by refine bT af ?_;exact ⟨rfl,rfl⟩)).cO fun k au X=>?_
  refine bU fun l=>?_
  obtain ⟨aq,ak,o,x,R,I⟩:=X
  refine l ?_;try clear l
  subst R I
  induction k with
  |false=>exact ((w j (v.cc (i.ci o) x)).d7 W _ A).hZ (i.ci o)
  |true=>exact fR ⟨Q,_,ak,i.ci o,y.cO o,x,A⟩
 ·induction k with
  |false=>exact ((w j (v.cc i p)).m4 K G n).ux i
  |true=>exact ⟨t,z,i,p,n⟩
def aa8{k:dS}(r:v8 a d c k):e4 a d c (.ev k):=fun l o=>by
 apply A9 l
 intro t u s q
 refine f4 q fun m n=>?_
 obtain rfl:=of_decide_eq_true m
 have j:=r n o
 exact ⟨fun K i=>by rw [arm_eval_BoolOp];exact j.d7 _ K i,fun K p i=>Uv (j.m4 K p i)⟩
def acw{k:dS}(r:Dw a d c k):e4 a d c (.hK k):=fun l o=>by
 apply A9 l
 intro t u s q
 refine f4 q fun m n=>?_
 obtain rfl:=of_decide_eq_true m
 have j:=r n o
 exact ⟨fun K i=>by rw [arm_eval_BoolOp];exact j.d7 _ K i,fun K p i=>Uv (j.m4 K p i)⟩
end
def K6(c:Wd)(l:d8)(e:dQ)(f:cM)(d:cS)(j:cj)(b:List jK)(a:List ce)(h:du)(m:(Bool→bS→Prop)→Prop):Prop:=(∀K:KE,m (sp K)→Wp c l (zg d j b (mz b a (lQ a h))) (VP c e K) f)∧(∀{k:KE}(K:Bool→bS→Prop),(∀i g,k i g→lS K i g)→m (sp k)→Wp c l (zj d j b (mz b a (lQ a h))) (TP c e K) f)
section
variable{c:Wd}{j:d8}{f:dQ}{g:cM}{e:cS}{i:cj}{b:List jK}{a:List ce}{h:du}{k:(Bool→bS→Prop)→Prop}(d:K6 c j f g e i b a h k)
include d
def K6.d7:∀K:KE,k (sp K)→Wp c j (zg e i b (mz b a (lQ a h))) (VP c f K) g:=d.1
def K6.m4:∀{m:KE}(K:Bool→bS→Prop),(∀l n,m l n→lS K l n)→k (sp m)→Wp c j (zj e i b (mz b a (lQ a h))) (TP c f K) g:=d.2
end
def Bg(a:Wd)(p:Nat)(q:cK)(e:se):Prop:=∀{c:Sc}{l:fF}{j:List jK}{d:List ce}{n:d8}{b:dQ}{m:bS}{f:cM}{i:du}{g:cV}{h:bZ}{k:cj}{o:cS},Yk a.T c l e j d=ar→At a p n b m f i c l g→dU a b h k→K6 a n b f o k j d i (W6 ⟨a.T,q⟩ e g h m)
section
variable{b:Wd}{g i:dQ}{d:bS}{j:cM}{e:d8}{k:Nat}{h:cK}{c:du}
def Yt{f:jK}{a:ce}(m:Hx a=b2)(l:gl cj):markedBehindIn f a l=l:=by
 have n:behindInMarks f a=b2:=by
  unfold behindInMarks
  induction f<;>cases a<;>first|rfl|exact dy m
 unfold markedBehindIn
 (refine bT n ?_;rfl)
def Bh{n:jK}{l:ce}:∀{f:List jK}{a:List ce},∃m o,mz (n::f) (l::a) (lQ (l::a) c)=m::o:=by
 intro f
 induction f with
 |nil=>
  intro a
  rcases a with _|⟨_,_⟩
  ·exact ⟨_,_,rfl⟩
  ·exact ⟨_,_,rfl⟩
 |cons _ _ p=>
  intro a
  rcases a with _|⟨_,_⟩
  ·exact ⟨_,_,rfl⟩
  ·exact ⟨_,_,rfl⟩
def tJ(A:kc b){R:Sc}{Y:fF}{n:cV}(P:At b k e g d j c R Y n){m:cv}{x:ce}(T:rH b e g j x c (vE ⟨b.T,h⟩ m n d)){u:Fo}{v:bZ}{p:cj}(aa:dU b g v p){K:bZ→Bool→bS→Prop}(L:vE ⟨b.T,h⟩ m n d fun a d=>lu (fh b.T d u v a) fun f=>K a f d)
  {t:cj→cj→cM→Prop} (X:∀a f w l s i,pY g i→dU b i l a→c7 b i s w→K l f s→t a (.bool f) w):Wp b e (fk x c) (fun a q=>Wp b e (zi (Du u) p a) (t a) q) j:=
 (T.d7 _ L).vp fun a q l G z r o Q F=>by
  obtain ⟨f,I,C⟩:=fj F
  refine (KP A Q P.a.aaY (aa.cO r) o I).cO fun ab W ⟨m,y⟩=>?_
  refine bT m ?_
  exact X a f W l G z r o y C
def Yu(G:kc b){z:Fo}{C:cv}(aa:e4 b k h C):Bg b k h (.J z C .N):=fun {ak an X Y e g d j c ah ai ae af} a u F=>by
 apply d3 a
 intro ag X a
 apply d3 a
 intro v Y a
 refine sA a fun Q T P o=>f4 o fun o R=>?_
 obtain rfl:=of_decide_eq_true Q
 (refine bT (l0.mp o) ?_;refine bT (l0.mp R) ?_)
 have A:=aa P u
 have x:mz [Du z] [v] (lQ [v] c)=[fk v c] :=congrArg (· :: []) (Yt (eC T) _)
 refine ⟨fun K s=>?_,fun {ac} K ab s=>?_⟩
 ·refine bT x ?_
  exact c5 (iH ((tJ G u A F (K:=fun f m d=>K (.f (.b3 m)) d) s (t:=fun f q l=>VP b g K q l) fun t m l I y i r f p w=>(VP.b3 p w).hZ r).cO fun t L n=>c5 (oy (wpAny_operating n))))
 ·refine bT x ?_
  refine c5 (iH ((tJ G u A F (K:=fun f m d=>ac (.f (.b3 m)) d) s (t:=fun f q l=>Wp b e (tY q) (TP b g K) l) fun t m l I y i r f p w=>?_).cO fun t L n=>c5 (oy (c5 (wpAny_operating (n.cO fun al am W=>iH W))))))
  exact GA ⟨y,i,r,p,ab _ _ w⟩
def acx{r:jK}{o:jK}{l:ce}{f:List jK}{a:List ce}{m:cj}{q:cS}{t:gl cj}:zg q m (r::o::f) (t::mz (o::f) (l::a) (lQ (l::a) c))=(do
  let n ← pK [m] t
  qJ q
  let p ← pK [m,n] (zi r m n)
  release [m,n] [p]
  if ← pK [p,n] (tY p) then zg q n (o::f) (mz (o::f) (l::a) (lQ (l::a) c)) else ei p):=by
 refine bU fun s=>?_
 obtain ⟨v,w,u⟩:=Bh (c:=c) (n:=o) (l:=l) (f:=f) (a:=a)
 refine s ?_;try clear s
 refine bT u ?_;rfl
def acy{r:jK}{o:jK}{l:ce}{f:List jK}{a:List ce}{m:cj}{p:cS}{t:gl cj}:zj p m (r::o::f) (t::mz (o::f) (l::a) (lQ (l::a) c))=(do
  let n ← pK [m] t
  qJ p
  let q ← pK [m,n] (zi r m n)
  release [m,n] [q]
  if ← pK [q,n] (tY q) then zj p n (o::f) (mz (o::f) (l::a) (lQ (l::a) c)) else ei b2):=by
 refine bU fun s=>?_
 obtain ⟨v,w,u⟩:=Bh (c:=c) (n:=o) (l:=l) (f:=f) (a:=a)
 refine s ?_;try clear s
 refine bT u ?_;rfl
def aa9{b:Wd}{o:Sc}{r:fF}{p:Fo}{t:cv}{s:se}{f:List jK}{a:List ce}{q:List jK→List ce→Prop}(n:Yk b.T o r (.J p t s) f a=ar)(u:∀l f m a,Yk b.T o r (.J p t s) (l::f) (m::a)=ar→q (l::f) (m::a)):q f a:=by
 rcases f with _|⟨l,f⟩
 ·exact dy n
 rcases a with _|⟨m,a⟩
 ·exact dy n
 exact u l f m a n
def SY(ag:kc b){A z:Fo}{ab C:cv}{w:se}(ao:e4 b k h ab)(W:Bg b k h (.J z C w)):Bg b k h (.J A ab (.J z C w)):=fun {aw ay a f e g d j c Y av G q} r t af=>by
 apply d3 r
 intro au a r
 apply d3 r
 intro R f r
 refine sA r fun al aq ak x=>?_
 obtain rfl:=of_decide_eq_true al
 refine aa9 (q:=fun a f=>K6 b e g j q G (Du A::a) (R::f) c _) x fun n a m f x=>?_
 have aa:=ao ak t
 refine ⟨fun K P=>(?_:Wp b e (zg q G (Du A::n::a) (fk R c::mz (n::a) (m::f) (lQ (m::f) c))) _ j),fun {ae} K ac P=>(?_:Wp b e (zj q G (Du A::n::a) (fk R c::mz (n::a) (m::f) (lQ (m::f) c))) _ j)⟩
 ·refine bT acx ?_
  refine c5 (iH ((tJ ag t aa af (K:=fun l p d=>pT p (W6 ⟨b.T,h⟩ (.J z C w) Y l d (sp K)) (sp K b2 d)) P (t:=fun l y u=>Wp b e (tY y) (fun I Q=>Wp b e (if I=ar then zg q l (n::a) (mz (n::a) (m::f) (lQ (m::f) c)) else ei y) (VP b g K) Q) u) fun l p u ah X i o T s v=>?_).cO fun l ai F=>c5 (oy (c5 (iH (F.cO fun am an L=>c5 (GF (c5 (iH L)))))))))
  refine GA ?_
  induction p with
  |true=>exact ((W x (t.cc o s) T).d7 K v).hZ o
  |false=>exact fR ((VP.b3 s v).hZ o)
 ·refine bT acy ?_
  refine c5 (iH ((tJ ag t aa af (K:=fun l p d=>pT p (W6 ⟨b.T,h⟩ (.J z C w) Y l d (sp ae)) (sp ae b2 d)) P (t:=fun l y u=>Wp b e (tY y) (fun I Q=>Wp b e (if I=ar then zj q l (n::a) (mz (n::a) (m::f) (lQ (m::f) c)) else ei b2) (TP b g K) Q) u) fun l p u ah X i o T s v=>?_).cO fun l ai F=>c5 (oy (c5 (iH (F.cO fun am an L=>c5 (GF (c5 (iH L)))))))))
  refine GA ?_
  induction p with
  |true=>exact ((W x (t.cc o s) T).m4 K ac v).ux o
  |false=>exact fR ⟨X,i,o,s,ac _ _ v⟩
def aba{t:cv}{s:se}(r:e4 b k h t)(u:Bg b k h s):e4 b k h (.b7 t s):=fun {Q T W e g d j c L} y f=>by
 apply Ii y
 intro I P R G A
 refine f4 A fun p q=>?_
 refine ⟨fun K n=>?_,fun K F n=>?_⟩
 ·rw [arm_eval_Compare]
  exact c5 (((r p f).d7 _ n).vp fun C v w z x a l o m=>((u q (f.cc a o) l).d7 K m).hZ a)
 ·rw [arm_isTrue_Compare]
  exact c5 (((r p f).d7 _ n).vp fun C v w z x a l o m=>((u q (f.cc a o) l).m4 K F m).ux a)
end
section
variable{a:Wd}{g i:dQ}{h:bS}{d:cM}{e:d8}{c:Nat}{b:cK}
def P3{f:ce}(l:(sh f).fP.isSome=b2)(j k:cj):GG f b2 j k=operate [j,k] (tW j k):=by
 unfold GG
 cases f<;>first|rfl|exact dy l
def abb(q:kc a){k j:cv}(t:e4 a c b k)(C:e4 a c b j):e4 a c b (.cL k j):=fun s m=>by
 apply kS s
 intro T R L x
 refine g7 x fun p w u=>?_
 refine .eI (fun K y=>Subscript_ (((t w m).d7 _ y).vp fun G aa F P I f o z v=>?_)) rfl
 refine ((C u (m.cc f z)).d7 _ v).vp fun W X Y Q ab l A n r=>?_
 exact (KU q n (o.cO l) A r (P3 (eC p))).hZ (f.ci l)
def Yv{f:cv}{j:cv→Prop}(l:wJ f=ar)(k:j .bX):j f:=by
 cases f<;>first|exact k|exact dy l
def Ey{f:cv}(r:e4 a c b f){m:Sc}{q:fF}{k:Option ce}{o:du}{l:cV}(n:k.elim (wJ f) (mE a.T m q f)=ar)(p:At a c e g h d o m q l){K:KE}(j:vE ⟨a.T,b⟩ f l h K):Wp a e (valueOrNone (evalOpt k o)) (VP a g K) d:=by
 induction k with
 |some s=>exact (r n p).d7 _ j
 |none=>exact Yv (j:=fun f=>vE ⟨a.T,b⟩ f l h K→_) n (fun j=>fR (VP.f (f:=.bX) p.S rfl j)) j
def SZ(fz:Bool){q o r:cv}(L:e4 a c b q)(A:e4 a c b o)(ac:e4 a c b r):e4 a c b (.fP fz q o r):=fun I k=>by
 apply kS I
 intro X p z m
 refine PW (b:=fun p=>rH _ _ _ _ (.Subscript X p z) _ _) m fun aq w T ao m=>sA m fun x R P C=>?_
 obtain rfl:T=b1:=B4.mp x
 refine .eI (fun K W=>Subscript_ (((L R k).d7 _ W).vp fun w af ag am ah f v Y Q=>?_)) rfl
 rw [arm_eval_Slice]
 refine c5 ((Ey A P (k.cc f Y) Q).vp fun az aA aB an aC j aa u F=>?_)
 refine c5 (iH ((Ey ac C (k.cc (f.ci j) u) F).vp fun ak al au av aw l ae ab y=>?_))
 refine c5 (iH (fR ?_))
 refine bU fun n=>?_
 obtain ⟨ai,ay,t,s,G⟩:=Fe (g:=_) ab (v.cO (j.ci l)) (aa.cO l) ae y
 refine n ?_;try clear n
 exact UA (Cu s t (G.hZ (f.ci (j.ci l))) rfl)
def qU{f:Nat}(j:f≤100000):f≤lP:=by unfold lP;lia
def tj{j k:Nat}{K:Unit→Prop}(f:lu (sn j k) K):j≤k∧K ():=by
 obtain ⟨m,f,l⟩:=fj f
 exact ⟨(eB f).1,l⟩
def abc{k:dS}(C:vh a c b k):e4 a c b (.cQ k):=fun v A=>by
 apply lA v
 intro W P L x
 refine .eI (fun K z=>Mk ((C x A _ _ z).ms fun m p T Q I u r f w=>?_)) rfl
 refine bU fun l=>?_
 obtain ⟨y,o,t⟩:=r.uP w
 obtain ⟨F,s⟩:=tj t
 have j:=dX p.heap.objs.size
 obtain ⟨q,n⟩:=(f.d0 (dl "tuple" m 0)).uw (j:=p.heap.objs.size) (oz _ rfl) (f.yY j) (f.pC j) fun R G=>absurd (gj G) (f.fY j)
 refine l ?_;try clear l
 exact ⟨qU (o.cC.symm▸F),.f (.cQ y),_,_,u.ci n,⟨_,m,0,rfl,di.eF _ _ _,o.cO n.F⟩,q,s⟩
def Yw(fz:Bool){j:dS}(t:vh a c b j):e4 a c b (.a3 fz j):=fun n r=>by
 apply Jm n
 intro A v p
 refine .eI (fun K q=>Ux ((t p r _ _ q).ms fun y C z w u m l s o=>?_)) rfl
 obtain ⟨x,k,f⟩:=l.uP o
 exact ⟨qU (k.cC.symm▸pD f),(oR s k f).hZ m⟩
def vH{j:cz}{m:Bool}{n:List cj}{o:Nat}{f:Bool→cM→Prop}(k:d.heap.get? j=O (dl (cond m "tuple" "list") n o))(l:f b2 d):Wp a e (GD (.ref j)) f d:=by
 unfold GD
 induction m
 ·exact c5 (wpAny_specialOf ⟨_,k,rfl⟩ PySem.F.slot_list_iter.lookup (fR l))
 ·exact c5 (wpAny_specialOf ⟨_,k,rfl⟩ PySem.F.slot_tuple_iter.lookup (fR l))
def P4{l n:bZ}{K:KE}(p:gw (Fr h l n) K):∃j k v o,l=.f j∧n=.f k∧si k=O (v,o)∧gw (iI h ar (j::o)) K:=by
 induction l with
 |f j=>
  refine bU fun q=>?_
  obtain ⟨w,m,s⟩:=c9 p
  obtain ⟨k,t,m⟩:=cH m
  obtain ⟨r,u,rfl⟩:=dC m
  refine q ?_;try clear q
  exact ⟨j,k,r.1,r.2,rfl,ik t,u,s⟩
 |_=>exact p.elim
def Yx{y A:cv}(ah:e4 a c b y)(C:e4 a c b A):e4 a c b (.tr y A):=fun {aB aF aD e g h d l az} T x=>by
 apply Jm T
 intro f k j
 refine d3 (e:=fun f=>rH a e g d (.List f k) l _) j fun n f j=>d3 (e:=fun f=>rH a e g d (.List (n::f) k) l _) j fun z f j=>Ij (a:=fun z=>rH a e g d (.List (n::z::f) k) l _) j fun r ab j=>sA j fun L Y X Q=>iq (c:=fun f=>rH a e g d (.List (n:: .Starred r ab::f) k) l _) L ?_
 refine .eI (fun K ae=>Ux (jh (eC Y) (((ah X x).d7 _ ae).vp fun I G ao aw aq t F ag W=>?_))) rfl
 show Wp a e (sa [(ar,do let af ← fk r _;qJ k;ei af)]) _ G
 rw [sa]
 refine c5 (c5 (((C Q (x.cc t ag)).d7 _ W).vp fun aC ak aE ay aG w ai q R=>c5 (oy (fR ?_))))
 refine bU fun v=>?_
 obtain ⟨al,au,P,aa,rfl,rfl,am,s⟩:=P4 R
 obtain ⟨m,ac,av,rfl,u,p⟩:=mf q ai rfl am
 refine v ?_;try clear v
 have o:=pD s
 rw [lZ,← p.cC] at o
 refine c5 (m:=GD (.ref m)) (vH (a:=a) u ?_)
 refine c5 (m:=collect (.ref m)) (wpAny_collect_seq m (by induction P;exact .inl rfl;exact .inr rfl) u rfl rfl (fun aA an=>?_) (by refine bT iy ?_;exact qU (lC o)))
 refine c5 (iH (spliced_nil (fR ?_)))
 rw [kX]
 exact ⟨qU o,(oR (i:=al::aa) (q.iO ak.toks an) ⟨I,ac,rfl,F.cO w,p⟩ s).hZ (t.ci w)⟩
def abd:e4 a c b .sN:=fun j k=>⟨fun K f=>f.elim,fun K l f=>f.elim⟩
def Yy:e4 a c b .bX:=fun f j=>Bf (l:=.bX) f j.S
def Yz(f:Bool):e4 a c b (.b3 f):=fun j k=>Bf (l:=.b3 f) j k.S
def abe(f:Int):e4 a c b (.Z f):=fun j k=>Bf (l:=.Z f) j k.S
def abf(f:b4):e4 a c b (.ad f):=fun j k=>Bf (l:=.ad f) j k.S
end
section
variable{b:Wd}{h j:dQ}{i:bS}{e:cM}{d:d8}{c:Nat}{g:cK}
def vi{t:cj}{k:List (Bool×gl cj)}(l:k.any (·.1)=b2){m:List cj→cM→Prop}(a:Wp b d (sa k) m e):n9 (i5 b.dP b.w) d (evalArgs t ar k []) (fun p s=>∃f,p=⟨f,[]⟩∧m f s) (fun o o=>False) e:=by
 match k,l,a with
 |[],_,a=>
  unfold evalArgs
  show n9 _ d (sa [] >>=_) _ _ e
  refine c5 (Wp.mQ a fun f n q=>?_)
  exact c5 (fR (iH (c5 (fR (c5 (fR (fR ⟨f,rfl,q⟩)))))))
 |(ar,r)::k,l,_=>exact dy l
 |(b2,r)::k,l,a=>exact evalArgs_plain (Wp.mQ a fun f n a=>⟨f,rfl,a⟩)
def p2{u:cS}{p:cj}{t:List cj}{q:List (Bool×gl cj)}{r:cj→cM→Prop}(v:xl b p)(f:q.any (·.1)=b2)
  (a:Wp b d (sa q) (fun o n=>b.K.In n.heap∧Wp b d (gg p (t++o)) r n) e):Wp b d (GN u p t q []) r e:=by
 rcases v with ⟨x,rfl⟩|⟨y,rfl⟩|w
 ·exact Calls.callWith_builtin f (Cm (vi f a) (fun s n l=>by obtain ⟨o,m,a⟩:=l;refine bT m ?_;exact a.2) fun k k a=>a)
 ·exact PySem.callWith_type f (Cm (vi f a) (fun s n l=>by obtain ⟨o,m,a⟩:=l;refine bT m ?_;exact a.2) fun k k a=>a)
 ·exact callWith_of (P:=b.K.In) (by refine bT f ?_;rfl) (keeps_K w) (Cm (vi f a) (fun s n l=>by obtain ⟨o,m,a⟩:=l;refine bT m ?_;exact a) fun k k a=>a)
def jg{n:Type}{l:b4}{h:n}:∀(a:List (b4×n)),a.lookup l=O h→(l,h)∈a:=by
 intro a
 induction a with
 |nil=>
  intro k
  first|exact cG k|exact nomatch k|exact Bool.noConfusion k|exact False.elim k
 |cons o a p=>
  obtain ⟨q,r⟩:=o
  intro f
  rw [Ci] at f
  cases m:l==q with
  |true=>rw [m] at f;(refine bT (dr m) ?_;refine gT (dg f) ?_);exact fD ..
  |false=>rw [m] at f;exact ia _ (p f)
def Ez(r:kc b)(x:c7 b h i e){k:cj}{f:Nat}{y:List bZ}{m:b4}{p:oC}{z:gl Bool}{n:cj×List cj→cM→Prop}(t:Hw b h e k f y)(l:z9 b.T f m=O p)(I:n (th b p,[k]) e):Wp b d (getMethod k m z) n e:=by
 refine bU fun a=>?_
 obtain ⟨R,A,T,c,L,W,rfl,q,G,Q,X,s,w⟩:=t.ex
 obtain ⟨K,o,l⟩:=cH l
 refine a ?_;try clear a
 rw [q] at o
 obtain rfl:=dg o
 refine bU fun a=>?_
 obtain ⟨P,C,rfl⟩:=dC l
 have g:=r.e7 f A q
 obtain ⟨F,u,v⟩:=g.kH _ (jg _ C)
 refine a ?_;try clear a
 exact method_fn (x.F0 r) s g.uy g.SP F v (by unfold shadowIn;dsimp only;(rewrite [A5 w];refine bT (G.aco _ u) ?_);rfl) I
def EA{k c:Prop}[Decidable k][Decidable c]{m:Type}{n o:m}{a:m}(f:(if k then O n else if c then O o else b1)=O a):(k∧n=a)∨(c∧o=a):=by
 by_cases l:k
 ·rw [if_pos l] at f;exact .inl ⟨l,dg f⟩
 ·rw [if_neg l] at f
  exact .inr (let ⟨p,a⟩:=eB f;⟨p,dg a⟩)
def Il(v:kc b)(l:c7 b h i e){q:cj}{w:b4}{y:oC}{P:gl Bool}{x:cj×List cj→cM→Prop}(p:x (th b y,[q]) e):∀{t:bZ},dU b h t q→jN b.T i t w=O y→Wp b d (getMethod q w P) x e
 |.cu K,n,a=>by
  refine bU fun f=>?_
  obtain ⟨R,rfl,C⟩:=n
  refine f ?_;try clear f
  rcases ga a with ⟨_,a⟩|⟨ac,T,a⟩
  ·refine bU fun f=>?_
   obtain ⟨z,s,a⟩:=cH a
   obtain ⟨m,a⟩:=eB a
   refine f ?_;try clear f
   obtain rfl:=dg a
   subst m
   refine bU fun f=>?_
   obtain ⟨X,ah,W,Q,o,u,Y⟩:=l.A2 C s
   refine f ?_;try clear f
   have A:e.heap.DictOf (i8 b.dP b.w) R Q:=zl.mpr ⟨W,o,u⟩
   exact GC (T:="dict") A.typeIs UQ GX UV A.mapOf.noDict p
  ·refine bU fun f=>?_
   obtain ⟨X,ag,ab,o,ak⟩:=l.rZ C T
   refine f ?_;try clear f
   rcases EA a with ⟨m,k⟩|⟨m,k⟩
   ·subst m k
    exact GC (T:="list") ⟨_,o,rfl⟩ UR MD PySem.F.type_list_append (fun G k=>by cases k;exact ⟨_,o,rfl⟩) p
   ·subst m k
    exact GC (T:="list") ⟨_,o,rfl⟩ UR ME PySem.F.type_list_pop (fun G k=>by cases k;exact ⟨_,o,rfl⟩) p
 |.fK K,n,a=>by
  refine bU fun f=>?_
  obtain ⟨L,r,a⟩:=cH a
  refine f ?_;try clear f
  exact Ez v l (NZ l n r) a p
 |.f ai,n,a=>by
  rcases ga a with ⟨_,a⟩|⟨c,u,a⟩
  ·refine bU fun f=>?_
   obtain ⟨L,r,a⟩:=cH a
   obtain rfl:=xX r
   refine f ?_;try clear f
   exact Ez v l (F1 l n) a p
  ·refine bU fun f=>?_
   obtain ⟨m,a⟩:=eB a
   obtain ⟨z,s,k⟩:=dC a
   obtain rfl:=rG u
   subst m k
   obtain rfl:q=.ref (b.kP c):=n
   obtain ⟨af,I,ae,aa⟩:=v.ll c z s
   refine f ?_;try clear f
   have F:=nZ I (c:=e.heap) fun G t k=>l.kR k
   exact GC (T:="dict") F.typeIs UQ GX UV F.noDict p
def EB{a:List cj}{k:cj→Prop}{m:cj}(n:∀f∈a,k f)(p:k m)(l:Nat):k ((a[l]?).getD m):=by
 cases o:a[l]? with
 |none=>exact p
 |some f=>exact n f (gj o)
noncomputable def isB:cj→Bool
 |.builtin _=>ar
 |.type _=>ar
 |_=>b2
def P5{a:cj}(f:isB a=ar):xl b a:=by
 induction a<;>first|exact .inl ⟨_,rfl⟩|exact .inr (.inl ⟨_,rfl⟩)|exact dy f
def S0(a:Nat):xl b (p0 a):=P5 (EB (k:=fun f=>isB f=ar) (lD.mp (show A8.all isB=ar from rfl)) rfl a)
def YA(a:Nat):jJ (1000+a) 1000=b2:=by
 rw [r5]
 intro f
 exact absurd (LY.mp f) (jI.mpr (fg ..))
def Bi{a:Nat}(f:jJ a 1000=ar):o7 b a=.ref (b.jT a):=by
 unfold o7
 refine bT f ?_;rfl
def Im(a:Nat):o7 b (1000+a)=.ref (b.eS a):=by
 unfold o7
 (refine bT (YA a) ?_;rw [Nat.add_sub_cancel_left]);rfl
def Fi{m:rg}{f:bl→Prop}(p:∀a,(m.p9[a]?).isSome=ar→f (.fn a))(q:∀n,(m.e7[n]?).isSome=ar→f (.kE n))(o:∀a,f (.bi a)){k:bl}(l:Vp m k=ar):f k:=by
 cases k<;>first|exact p _ l|exact q _ l|exact o _|exact dy l
def V5(b:Wd)(d:d8)(h:dQ)(c:Nat)(g:cK)(m:bZ):Prop:=∀{fz:Bool}{a:cj}{K:KE},dU b h m a→xl b a∧∀{j:dQ}{k:bS}{f:cM}{n:List bZ}{l:List cj},xi d c→c7 b j k f→ee b j n l→Vq ⟨b.T,g⟩ fz m n k K→Wp b d (gg a l) (VP b j K) f
def S1(l:zL b c g){v:bZ}(k:MR b.T v=ar):V5 b d h c g v:=by
 refine bU fun q=>?_
 obtain ⟨w,x,k⟩:=jC k
 obtain rfl:=ik x
 refine q ?_;try clear q
 refine Fi (f:=fun w=>V5 b d h c g (.f w)) (fun f k fz m K a=>?_) (fun r k fz m K a=>?_) (fun f fz m K a=>?_) k
 ·obtain rfl:m=.ref (b.jT f):=a
  exact ⟨.inr (.inr (l.cR f k)),fun {j s y u t} o p a n=>Bi (l.C1 f k)▸l.Nf f u s K (qT n).2 _ _ t d o p a⟩
 ·refine bU fun q=>?_
  obtain rfl:m=.ref (b.eS r):=a
  obtain ⟨f,z⟩:=k8 k
  refine q ?_;try clear q
  exact ⟨.inr (.inr (l.cF.e7 r f z).iO),fun {j s y u t} o p a n=>Im (b:=b) r▸l.Nf (1000+r) u s K n _ _ t d o p a⟩
 ·obtain rfl:m=b.yo f:=a
  exact ⟨by refine bT l.bi ?_;exact S0 f,fun o p a n=>z5 o.f8 l.cF l.bi p a n⟩
def K7{k:ce}{l:List ce}{a:cS}{f:du}(n:(sh k).cJ.isSome=ar):fk (.Call k l [] a) f=(do GN a (← fk k f) [] (pL a (nK l f)) []):=by
 refine bU fun m=>?_
 obtain ⟨⟨p,o⟩,_⟩:=k8 n
 refine m ?_;try clear m
 refine bT o ?_;rfl
def S2{n:oC}{l:b4}{m:Nat}:∀{r:bZ},jN b.T i r l=O n→n=.fn m→∃p,z9 b.T p l=O (.fn m)
 |.cu o,a,k=>by
  rcases ga a with ⟨_,a⟩|⟨u,w,a⟩
  ·refine bU fun f=>?_
   obtain ⟨x,z,a⟩:=cH a
   refine f ?_;try clear f
   rw [← dg (eB a).2] at k;cases k
  ·rcases EA a with ⟨_,a⟩|⟨_,a⟩<;>(rw [← a] at k;cases k)
 |.fK o,a,k=>by
  refine bU fun f=>?_
  obtain ⟨q,t,a⟩:=cH a
  refine f ?_;try clear f
  exact ⟨_,k▸a⟩
 |.f y,a,k=>by
  rcases ga a with ⟨_,a⟩|⟨c,v,a⟩
  ·refine bU fun f=>?_
   obtain ⟨q,t,a⟩:=cH a
   refine f ?_;try clear f
   exact ⟨_,k▸a⟩
  ·refine bU fun f=>?_
   obtain ⟨_,_,s⟩:=dC (eB a).2
   refine f ?_;try clear f
   rw [← s] at k;cases k
def Js(k:zL b c g){q:b4}{f:Nat}{r:bZ}(a:jN b.T i r q=O (.fn f)):lR b.K (.ref (b.jT f))=ar∧jJ f 1000=ar:=by
 refine bU fun n=>?_
 obtain ⟨p,a⟩:=S2 a rfl
 obtain ⟨l,o,a⟩:=cH a
 obtain ⟨t,m,s⟩:=dC a
 refine n ?_;try clear n
 cases s
 exact ⟨k.Nd p l o _ (jg _ m),LY.mpr ((k.cF.e7 p l o).PM _ (jg _ m))⟩
def K8(l:zL b c g){f:b4}{k:bZ}:∀{a:oC},jN b.T i k f=O a→xl b (th b a)
 |.eJ,_=>.inl ⟨_,rfl⟩
 |.gy,_=>.inl ⟨_,rfl⟩
 |.iU,_=>.inl ⟨_,rfl⟩
 |.Dj,_=>.inl ⟨_,rfl⟩
 |.fn n,m=>.inr (.inr (Js l m).1)
def S3(m:zL b c g){t:b4}{p:bZ}{u:bS}{o:cj}{r:List bZ}{n:List cj}{K:KE}:∀{q:oC},jN b.T u p t=O q→xi d c→c7 b h i e→dU b h p o→ee b h r n→Vr ⟨b.T,g⟩ q p r i K→Wp b d (gg (th b q) (o::n)) (VP b h K) e
 |.fn s,w,v,k,l,a,f=>by
  show Wp b d (gg (.ref (b.jT s)) (o::n)) _ _
  exact Bi (Js m w).2▸m.Nf s (p::r) i K f _ _ (o::n) d v k ⟨o,n,rfl,l,a⟩
 |.eJ,_,_,k,l,a,f=>pE (aw:=.eJ) m.cF k l a f
 |.gy,_,_,k,l,a,f=>pE (aw:=.gy) m.cF k l a f
 |.iU,_,_,k,l,a,f=>pE (aw:=.iU) m.cF k l a f
 |.Dj,_,_,k,l,a,f=>pE (aw:=.Dj) m.cF k l a f
def YB(t:zL b c g)(fz:Bool){s:cv}{u:dS}(L:e4 b c g s)(R:vh b c g u):e4 b c g (.b0 fz s u):=fun {ai al am d h i e f af} y n=>by
 apply wH y
 intro m k o a C
 refine sA C fun w A z q=>iq (c:=fun o=>rH b d h e (.Call m k o a) f _) A ?_
 refine .eI (fun K F=>?_) rfl
 refine bT (show fk (.Call m k [] a) f=(do GN a (← fk m f) [] (pL a (nK k f)) []) from K7 w) ?_
 refine c5 (((L z n).d7 _ F).vp fun Y X aa ac ab r v Q l=>?_)
 obtain ⟨P,l⟩:=qT l
 obtain ⟨G,W⟩:=S1 (d:=d) t P (K:=K) (fz:=fz) v
 exact p2 G (tI q).1 ((R q (n.cc r Q) a _ l).ms fun ag ak ah ae an I T p x=>⟨p.F0 t.cF,(W n.a p T x).hZ (r.ci I)⟩)
def YC(l:zL b c g){z:cv}(s:b4){I:dS}(W:e4 b c g z)(ac:vh b c g I):e4 b c g (.eQ z s I):=fun {av ay az d h i e k an} T q=>by
 apply wH T
 intro x f m a p
 refine p1 (b:=fun x=>rH b d h e (.Call x f m a) k _) p fun A w F p=>Zo p fun P Y X Q L af n=>iq (c:=fun m=>rH b d h e (.Call (.Attribute A w F) f m a) k _) Y ?_
 obtain rfl:s=w:=dr P
 refine .eI (fun K aa=>?_) rfl
 rw [arm_eval_Call,(BX L).1]
 refine c5 (((W af q).d7 _ aa).vp fun ag ah ai al ak v u G o=>c5 (oy ?_))
 refine bU fun y=>?_
 obtain ⟨aq,r,o⟩:=fj o
 refine y ?_;try clear y
 have ab:methodCallForm (f.length+([] :List GQ).length) (pL a (nK f k)) (backToKw a (keywordEach [] k))=ar:=by
  unfold methodCallForm
  refine bT ((tI n).2) ?_
  exact iX.mpr ⟨rfl,(show dY (f.length+0+0<30)=ar from decide_eq_true (qA (of_decide_eq_true Q)))⟩
 unfold methodCall
 refine bT ab ?_
 refine c5 (iH (Il l.cF G ?_ u r))
 refine c5 (GH (show methodCallPos ar A k F a=ei a by unfold methodCallPos;refine bT X ?_;rfl) ?_)
 refine p2 (K8 l r) (tI n).1 ((ac n (q.cc v G) a _ o).ms fun ao aw au am aA C ae t R=>⟨t.F0 l.cF,?_⟩)
 exact (S3 l r q.a t (u.cO C) ae R).hZ (v.ci C)
end
def y0(a:Wd)(n:Nat)(p:cK)(e:dS):Prop:=∀{k:Sc}{l:fF}{b:List (Option ce)}{i:List ce}{m:d8}{j:dQ}{f:bS}{c:cM}{d:du}{h:cV},mKV a.T k l e b i=ar→At a n m j f c d k l h→∀(o:cS)(K:List bZ→bS→Prop),II ⟨a.T,p⟩ e h f K→Wp a m (Mw (Mx b i d o)) (fun r q=>Zq a j K (r.flatMap fun g=>[g.1,g.2]) q) c
section
variable{b:Wd}{d g:dQ}{f:bS}{c:cM}{i:d8}{e:Nat}{h:cK}{j:di}
def c7.Dx(k:c7 b d f c){l:ea}(s:l.isFreed=b2):c7 b ⟨d.F,d.T.d6 c.heap.objs.size l,d.α⟩ f {c with heap:=c.heap.push l}:=by
 have o:=dX c.heap.objs.size
 refine k.KM (fun p=>False) c.toks (fun p r=>r.elim) (fun m q p t=>ng _ t) fun m q a=>?_
 by_cases n:m=c.heap.objs.size
 ·subst n
  rw [di.eF] at a
  exact ⟨dg a▸oz _ s,k.yY o,k.fY o⟩
 ·rw [di.fe _ _ n] at a
  exact ⟨ng _ (k.hN m q a),k.qo a⟩
def eU.Dx{p:du}{m:Sc}{q:fF}{o:cV}(n:eU b d p m q o){a:cz}(t:d.T a=b1)(r:ea):eU b ⟨d.F,d.T.d6 a r,d.α⟩ p m q o:=
 n.cO (v:=fun l=>l=a) ⟨k4.cy _,jU _,fun l k=>di.fe _ _ k⟩ fun l k s=>n.h8 s (k▸t)
def At.Dx{n:du}{l:Sc}{o:fF}{m:cV}(k:At b e i d f c n l o m){a:ea}(p:a.isFreed=b2):At b e i ⟨d.F,d.T.d6 c.heap.objs.size a,d.α⟩ f {c with heap:=c.heap.push a} n l o m:=⟨k.a,k.S.Dx p,k.E.Dx (k.S.pC (dX _)) a⟩
def c7.A6{q:di}{k:cz}{s:ea}{u:eu}(p:c7 b d f c)(r:Nat)(t:d.T=q.d6 k s)(x:q k=b1)(v:t5 k c.heap u):c7 b ⟨d.F,q,d.α⟩ f {c with heap:=u,toks:=r}:=by
 refine p.KM (fun a=>a=k) r (fun a n=>⟨s,by (refine bT n ?_;refine bT t ?_;rw [di.eF])⟩) (fun a o m l=>(v.2 a m).trans l) fun a o l=>?_
 have m:a≠k:=fun n=>by rw [n,x] at l;exact cG l
 have w:d.T a=O o:=by (refine bT t ?_;refine bT (di.fe _ _ m) ?_);exact l
 exact ⟨(v.2 a m).trans (p.hN a o w),p.qo w⟩
def Wp.kv{p:gl (List (cj×cj))}{K:List bZ→bS→Prop}{n:List (cj×cj)→cM→Prop}(w:Wp b i p (fun l a=>Zq b d K (l.flatMap fun k=>[k.1,k.2]) a) c)(r:∀l a o m g,pY d g→ee b g o (l.flatMap fun k=>[k.1,k.2])→c7 b g m a→K o m→n l a):Wp b i p n c:=w.cO fun t a u=>by obtain ⟨s,m,g,q,y,v,x⟩:=u;exact r t a s m g q y v x
def YD:y0 b e h .N:=fun n o k K a=>by
 refine f4 n fun m p=>iq (c:=fun l=>Wp b _ (Mw (Mx l _ _ k)) _ _) m ?_
 exact fR ⟨[],_,_,.cy _,rfl,o.S,a⟩
def YE{n:cv}:y0 b e h (.J n .N):=fun k u p K o=>by
 apply d3 k
 intro s q m
 obtain ⟨t,_,l⟩:=jC m
 exact f4 l fun r a=>dy a
def Jt{s t:cv}{u:dS}(ag:e4 b e h s)(F:e4 b e h t)(v:y0 b e h u):y0 b e h (.J s (.J t u)):=fun {av az q m i d f c x au} I o r K af=>by
 apply d3 I
 intro an q ah
 obtain ⟨ae,rfl,k⟩:=jC ah
 refine f4 k fun k a=>d3 (e:=fun m=>Wp b i (Mw (Mx (O ae::q) m x r)) _ c) a fun ak m a=>f4 a fun a P=>?_
 refine pairTrees_cons_walk (((ag k o).d7 _ af).vp fun z ai A ao al l y W L=>?_)
 refine ((F a (o.cc l W)).d7 _ L).vp fun ab ay ac aq aA n X w G=>?_
 refine (v P (o.cc (l.ci n) w) r _ G).kv fun aw am T Q R p aa Y C=>?_
 exact ⟨A::ac::T,Q,R,l.ci (n.ci p),⟨z,_,rfl,y.cO (n.ci p),ab,_,rfl,X.cO p,aa⟩,Y,C⟩
def P6{K:g6→Prop}:∀{k:bl},Y4 k K→∃l,jM k=O l∧K l
 |.Z n,a=>⟨.inl n,rfl,a⟩
 |.ad m,a=>⟨.inr m,rfl,a⟩
def K9:∀{o:List (cj×cj)}{a:List bl}{K:List (g6×bl)→Prop},dB b j a (o.flatMap fun m=>[m.1,m.2])→Fq a K→∃n p,Carries (i8 b.dP b.w) o n∧ij b j p n∧K p:=by
 intro o
 induction o with
 |nil=>
  intro a K l k
  rcases a with _|⟨z,a⟩
  ·exact ⟨[],[],trivial,rfl,k⟩
  ·obtain ⟨_,_,q,_⟩:=l;exact (Ue _ _ q.symm).elim
 |cons m o u=>
  intro a K l k
  rcases a with _|⟨z,_|⟨v,a⟩⟩
  ·exact (Ue _ _ l).elim
  ·exact oa k
  ·refine bU fun s=>?_
   obtain ⟨G,_,q,l,I,F,t,A,w⟩:=l
   obtain ⟨r,C,k⟩:=P6 k
   obtain ⟨rfl,rfl⟩:=GY q
   obtain ⟨rfl,rfl⟩:=GY t
   obtain ⟨n,p,x,y,k⟩:=u w k
   refine s ?_;try clear s
   exact ⟨(r,m.2)::n,(r,v)::p,⟨Ji C l,rfl,x⟩,⟨m.2,n,rfl,A,y⟩,k⟩
def ij.S4{a:List (g6×bl)}:∀{k:List (g6×cj)},ij b j a k→k.map (·.1)=a.map (·.1):=by
 induction a with
 |nil=>exact fun l=>congrArg (Gy (·.1)) (show _=[] from l)
 |cons r a m=>
  intro k l
  obtain ⟨q,p,o,_,n⟩:=l
  exact (congrArg (Gy (·.1)) o).trans (congrArg (_:: ·) (m n))
def P7(ae:kc b){u:di}{a:cz}{y:ea}{c:cM}{l q:dQ}{A:List bZ}{C:List (cj×cj)}{K:KE}(F:u a=b1)(X:(a==qG)=b2)(s:pY ⟨l.F,u.d6 a y,l.α⟩ q)(r:c7 b q f c)(v:ee b q A (C.flatMap fun x=>[x.1,x.2]))(k:Vt K A f)(P:u=l.T):
  ∃n,Carries (i8 b.dP b.w) C n∧∀p t,p.DictOf (i8 b.dP b.w) a (merged [] n)→t5 a c.heap p→VP b l K (.ref a) {c with heap:=p,toks:=t}:=by
 subst P
 refine bU fun m=>?_
 obtain ⟨ac,v,k⟩:=v.uP k
 obtain ⟨n,aa,Q,G,k⟩:=K9 v k
 obtain ⟨W,k⟩:=qT k
 refine m ?_;try clear m
 refine ⟨n,Q,fun p t o L=>?_⟩
 rw [merged_nil_of_nodup _ (by refine bT G.S4 ?_;exact (of_decide_eq_true W).2)] at o
 refine bU fun m=>?_
 obtain ⟨R,g,o⟩:=zl.mp o
 have w:q.T=l.T.d6 a y:=funext fun Y=>s.T Y id
 have z:=r.qo (f:=a) (by refine bT w ?_;exact di.eF _ _ _)
 obtain ⟨I,ab⟩:=(r.A6 t w F L).FZ (q:=.eg aa) z.2 F ⟨_,g⟩ ⟨z.1,X,R,n,g,o,G⟩
 refine m ?_;try clear m
 refine ⟨_,_,_,?_,?_,I,k⟩
 ·exact ⟨s.F,s.α.trans (vP _ _),fun T T=>rfl⟩
 ·exact ⟨a,rfl,by refine gT r.cC ?_;exact TQ⟩
def YF(m:kc b){k:dS}(T:y0 b e h k):e4 b e h (.eg k):=fun {ak am a i d f c aa af} x l=>by
 apply SU x
 intro Y ag v C
 refine Dv C fun t A z w s=>.eI (fun K G=>?_) rfl
 refine wpAny_Dict_walk (knd:=i8 b.dP b.w) t (of_decide_eq_true A) (List.isEmpty_eq_false_iff.mp (eC z)) (of_decide_eq_true w) ((T s (l.Dx (a:={cls:=.type "dict",data:=.dict #[]}) rfl) v _ G).kv fun al ab ai ae ac n r p y=>?_)
 refine bU fun o=>?_
 obtain ⟨ah,I,a,X⟩:=m.X9
 have L:(c.heap.objs.size==qG)=b2:=by
  rw [beq_eq_false_iff_ne]
  exact LW (LX X (nV (l.S.kR a)))
 obtain ⟨k,u,W⟩:=P7 m (l.S.pC (dX _)) L n p r y rfl
 refine o ?_;try clear o
 have R:(c.heap.push {cls:=.type "dict",data:=.dict #[]}).DictOf (i8 b.dP b.w) c.heap.objs.size [] :=Heap.DictOf.new c.heap
 have F:(c.heap.push {cls:=.type "dict",data:=.dict #[]}).get? c.heap.objs.size=O {cls:=.type "dict",data:=.dict #[]}:=oz _ rfl
 refine ⟨k,u,R.at fun I a=>?_,fun P Q q=>W P _ Q q⟩
 rw [F] at a
 obtain rfl:=dg a
 exact p.hN _ _ ((n.T _ id).trans (di.eF _ _ _))
end
section
def Bj(f:Wd)(b:di)(i:Bool)(c:cj)(e:bl)(h:eu):Prop:=cond i (∃g a d,c=.ref g∧h.IsTuple g a∧e=.cQ d∧dB f b d a.toList) (g5 f b e c)
def Hz(f:Bool)(b:ce):Prop:=cond f (∃d c a,b=.Tuple d c a) (∃e a,b=.Name e a)
open Classical in
def di.h3(T:di)(own:Addr→Prop):di:=fun a=>if own a then none else T a
open Classical in
def di.iu(T:di)(own:Addr→Prop)(h:Heap):di:=fun a=>if own a then h.get? a else T a
def It(b:Wd)(j:d8)(g:cz)(v:Bool)(q:List bl)(i:cz→Prop)(f:Nat→dQ→Prop):Prop:=(∀{c:Nat}{a p:dQ}{s:cz→Prop},f c a→Le s a p→(∀h,i h→¬s h)→f c p)∧(∀{c:Nat}{a:dQ}{h:cz},f c a→i h→∃w,a.T h=O w)∧(∀{c:Nat}{a:dQ}{e:bS}{d:cM}{u:bl}{o:ce},f c a→c7 b a e d→q[c]? =O u→Hz v o→Wp b j (pM (.ref g)) (fun m n=>∃l,m=O l∧Wp b j (vW o (.ref g) l) (fun x t=>∃k,Le i a k∧c7 b k e t∧f (c+1) k∧Bj b k.F v l u t.heap) n) d)∧(∀{a:dQ}{e:bS}{d:cM},f q.length a→c7 b a e d→Wp b j (pM (.ref g)) (fun m n=>m=b1∧c7 b ⟨a.F,a.T.h3 i,a.α⟩ e n) d)∧(∀{c:Nat}{a:dQ}{e:bS}{d:cM}{r:cj→cM→Prop},f c a→c7 b a e d→r (.ref g) d→Wp b j (kh (.ref g)) r d)
section
variable{a:Wd}{f:d8}{d:cz}{h:Bool}{g:List bl}{e:cz→Prop}{b:Nat→dQ→Prop}(c:It a f d h g e b)
include c
def It.cO:∀{m:Nat}{i l:dQ}{j:cz→Prop},b m i→Le j i l→(∀k,e k→¬j k)→b m l:=c.1
def It.y1:∀{l:Nat}{i:dQ}{j:cz},b l i→e j→∃k,i.T j=O k:=c.2.1
def It.oU:∀{l:Nat}{j:dQ}{p:bS}{m:cM}{o:bl}{q:ce},b l j→c7 a j p m→g[l]? =O o→Hz h q→Wp a f (pM (.ref d)) (fun r s=>∃k,r=O k∧Wp a f (vW q (.ref d) k) (fun t n=>∃i,Le e j i∧c7 a i p n∧b (l+1) i∧Bj a i.F h k o n.heap) s) m:=c.2.2.1
def It.nz:∀{i:dQ}{k:bS}{j:cM},b g.length i→c7 a i k j→Wp a f (pM (.ref d)) (fun l m=>l=b1∧c7 a ⟨i.F,i.T.h3 e,i.α⟩ k m) j:=c.2.2.2.1
def It.iQ:∀{l:Nat}{k:dQ}{m:bS}{i:cM}{j:cj→cM→Prop},b l k→c7 a k m i→j (.ref d) i→Wp a f (kh (.ref d)) j i:=c.2.2.2.2
end
inductive rI(W:Wd)(A:d8)(g:dQ)(tp:Bool)(K:KL)(iv:cj)(s':cM):Prop
 |mk (xs:List bl) (AO:bS) (g':dQ) (I:cz) (own:cz→Prop) (P:Nat→dQ→Prop) (zF:xs.length≤1000000) (k:K xs AO) (le:Le own g g') (new:∀a,own a→g.T a=b1) (sat:c7 W g' AO s') (iv:iv=.ref I) (it:It W A I tp xs own P) (start:P 0 g')
def rI.hZ{c:Wd}{i:d8}{f b:dQ}{h:Bool}{K:KL}{a:cj}{g:cM}(d:pY f b)(t:rI c i b h K a g):rI c i f h K a g:=
 by
 obtain ⟨p,n,o,k,u,x,s,y,q,l,m,j,r,w⟩:=t
 exact ⟨p,n,o,k,u,x,s,y,d.vd.ci q,fun e v=>(d.T e id).symm.trans (l e v),m,j,r,w⟩
structure Wk(W:Wd)(A:d8)(I:cz)(fp wr:List cz)(F:di)(tp:Bool)(xs:List bl)(St:Nat→eu→Prop)(Mid:Nat→cj→eu→Prop):Prop where
 fw:∀b∈wr,b∈fp
 h8:∀i h h',St i h→(∀b∈fp,∀o,h.get? b=O o→h'.get? b=O o)→St i h'
 WG:∀i h,St i h→∀b∈wr,∃o,h.get? b=O o
 oU:∀(i:Nat)(x:bl)(s:cM)(Q:Option cj→cM→Prop),xs[i]? =O x→St i s.heap→
  (∀v h' tk,(∀h'',(∀b o,b∉wr→h'.get? b=O o→h''.get? b=O o)→Bj W F tp v x h'')→Mid i v h'→(∀b o,b∉wr→s.heap.get? b=O o→h'.get? b=O o)→Q (O v) {s with heap:=h',toks:=tk})→Wp W A (pM (.ref I)) Q s
 yV:∀(t:ce)(i:Nat)(v:cj)(s:cM)(Q:Unit→cM→Prop),Hz tp t→Mid i v s.heap→
  (∀h',St (i+1) h'→(∀b o,b∉wr→s.heap.get? b=O o→h'.get? b=O o)→Q () {s with heap:=h'})→Wp W A (vW t (.ref I) v) Q s
 nz:∀(s:cM)(Q:Option cj→cM→Prop),St xs.length s.heap→
  (∀h' tk,(∀b o,b∉wr→s.heap.get? b=O o→h'.get? b=O o)→Q b1 {s with heap:=h',toks:=tk})→Wp W A (pM (.ref I)) Q s
 iQ:∀(i:Nat)(s:cM)(Q:cj→cM→Prop),St i s.heap→Q (.ref I) s→Wp W A (kh (.ref I)) Q s
section
variable{e:Wd}{h:d8}{a i:dQ}{f:bS}{d:cM}{b g:di}{c:cz→Prop}
def o8{j:cz}(k:c j):g.h3 c j=b1:=if_pos k
def ot{j:cz}(k:¬c j):g.h3 c j=g j:=if_neg k
def P8{j:cz}{m:ea}(k:g.h3 c j=O m):¬c j∧g j=O m:=by
 by_cases l:c j
 ·rw [o8 l] at k;exact cG k
 ·rw [ot l] at k;exact ⟨l,k⟩
def nD{j:cz}{k:eu}(l:c j):g.iu c k j=k.get? j:=if_pos l
def ou{j:cz}{l:eu}(k:¬c j):g.iu c l j=g j:=if_neg k
def c7.h3(n:c7 e a f d)(c:cz→Prop){p:eu}(o:Nat)(r:∀k,c k→∃j,a.T k=O j)(q:∀m j,¬c m→d.heap.get? m=O j→p.get? m=O j):c7 e ⟨a.F,a.T.h3 c,a.α⟩ f {d with heap:=p,toks:=o}:=
 n.KM c o r q fun k j l=>by obtain ⟨s,l⟩:=P8 l;exact ⟨q k j s (n.hN k j l),n.qo l⟩
def c7.iu(n:c7 e a f d)(c:cz→Prop){p:eu}(q:Nat)(r:∀k,c k→∃j,a.T k=O j)(s:∀o j,¬c o→d.heap.get? o=O j→p.get? o=O j):c7 e ⟨a.F,a.T.iu c p,a.α⟩ f {d with heap:=p,toks:=q}:=
 n.KM c q r s fun k j l=>by
  by_cases m:c k
  ·rw [nD m] at l
   obtain ⟨u,t⟩:=r k m
   exact ⟨l,n.qo t⟩
  ·rw [ou m] at l
   exact ⟨s k j m (n.hN k j l),n.qo l⟩
def Q7(m:List cz)(b:di)(p:Nat→eu→Prop)(o:Nat)(a:dQ):Prop:=(k4 b a.F)∧(∀l,l∈m∧b l=b1→∃j,a.T l=O j)∧(∃n,p o n∧∀k∈m,∀j,n.get? k=O j→b k=O j∨(b k=b1∧a.T k=O j))
section
variable{m:List cz}{j:di}{o:Nat→eu→Prop}{n:Nat}{l:dQ}(k:Q7 m j o n l)
include k
def Q7.gm:k4 j l.F:=k.1
def Q7.y1:∀a,a∈m∧j a=b1→∃b,l.T a=O b:=k.2.1
def Q7.Ha:∃p,o n p∧∀a∈m,∀b,p.get? a=O b→j a=O b∨(j a=b1∧l.T a=O b):=k.2.2
end
def Q7.mK{o t:List cz}{z:Bool}{v:List bl}{s:cz}{m:Nat→eu→Prop}{r:Nat→cj→eu→Prop}(K:Wk e h s o t b z v m r){l:Nat}(q:Q7 o b m l a)(p:c7 e a f d):m l d.heap:=by
 obtain ⟨x,u,y⟩:=q.Ha
 refine K.h8 l x d.heap u fun k w j A=>?_
 rcases y k w j A with n|⟨_,n⟩
 ·exact p.ey k j (q.gm k j n)
 ·exact p.hN k j n
def It.eI{s w:List cz}{L:Bool}{W:List bl}{P:cz}{X:Nat→eu→Prop}{ac:Nat→cj→eu→Prop}(K:Wk e h P s w b L W X ac)(ab:∀j∈w,b j=b1):It e h P L W (fun k=>k∈s∧b k=b1) (Q7 s b X):=⟨
 (fun {x a i au} m F z=>⟨m.gm.ci F.F,fun k o=>(m.y1 k o).imp fun l p=>(F.T k (z k o)).trans p,m.Ha.imp fun n u=>⟨u.1,fun j y l p=>(u.2 j y l p).imp id fun v=>⟨v.1,(F.T j (z j ⟨y,v.1⟩)).trans v.2⟩⟩⟩),
 (fun m z=>m.y1 _ z),
 (fun {x a f d ao A} m r an ah=>K.oU x ao d _ an (m.mK K r) fun aa am I aq af G=>by
  have Q:∀j,¬(j∈s∧b j=b1)→j∉w:=fun j q n=>q ⟨K.fw j n,ab j n⟩
  refine ⟨aa,rfl,K.yV A x aa _ _ ah af fun t R T=>?_⟩
  have C:∀j l,j∉w→d.heap.get? j=O l→t.get? j=O l:=fun j l q p=>T j l q (G j l q p)
  refine ⟨⟨a.F,a.T.iu (fun k=>k∈s∧b k=b1) t,a.α⟩,⟨k4.cy _,jU _,fun k q=>(ou q:a.T.iu (fun k=>k∈s∧b k=b1) t k=a.T k)⟩,r.iu _ I m.y1 fun j l q=>C j l (Q j q),⟨m.gm,fun k o=>?_,t,R,fun j y l p=>?_⟩,?_⟩
  ·have p:=(nD o:a.T.iu (fun k=>k∈s∧b k=b1) t k=_)
   by_cases v:k∈w
   ·obtain ⟨l,n⟩:=K.WG _ _ R k v
    exact ⟨l,p.trans n⟩
   ·obtain ⟨l,n⟩:=m.y1 k o
    exact ⟨l,p.trans (C k l v (r.hN k l n))⟩
  ·cases o:b j with
   |none=>exact .inr ⟨rfl,(nD ⟨y,o⟩:a.T.iu (fun k=>k∈s∧b k=b1) t j=_).trans p⟩
   |some u=>
    have:=C j u (Q j fun n=>by rw [o] at n;cases n.2) (r.ey j u (m.gm j u o))
    rw [p] at this
    exact .inl this.symm
  ·have:=aq t T
   induction L
   ·exact g5.cO m.gm this
   ·refine bU fun Y=>?_
    obtain ⟨A,al,ag,k,j,ai,ae⟩:=this
    refine Y ?_;try clear Y
    exact ⟨A,al,ag,k,j,ai,ae.cO m.gm⟩),
 (fun {a f d} m r=>K.nz d _ (m.mK K r) fun am I G=>⟨rfl,r.h3 _ I m.y1 fun j l q=>G j l fun n=>q ⟨K.fw j n,ab j n⟩⟩),
 (fun {x a f d ak} m r o=>K.iQ x d ak (m.mK K r) o)⟩
end
end
section
variable{b:Wd}{e:d8}{g d:dQ}{m:bS}{c:cM}{i:di}{k:cz}{h l:List cz}{a:List bl}{j:Nat→eu→Prop}
def Wk.BY{v:Nat}{y:Nat→cj→Prop}(K:Walks b.dP b.w e k h l v y j)(w:v=a.length)
  (L:∀f o t,y f o→a[f]? =O t→g5 b i t o) (C:∀f s,j f s→∀R∈l,∃G,s.get? R=O G):Wk b e k h l i b2 a j (fun f r s=>j (f+1) s) where
 fw:=K.sub
 h8:=K.frame
 WG:=C
 oU:=fun f t c q x n p=>K.item f c q _ (w▸(fJ.mp x).1) n fun o I P F z Q=>p o I P (fun r r=>L f o t F x) z Q
 yV:=fun A f o c q ⟨W,T,u⟩ n p=>GH (by refine bT u ?_;rfl:letOwnedTupleGo A (.ref k) o=pure ()) (p c.heap n fun r r r u=>u)
 nz:=fun c q n p=>K.done c q _ (w▸n) p
 iQ:=fun f c q n p=>K.self f c q _ n p
def Wk.Zr{z:Nat}{I:Nat→Array cj→Prop}{y:Nat→cz→eu→Prop}(K:WalksU b.dP b.w e k h l z I j y)(A:z=a.length)
  (ae:∀f r w,I f r→a[f]? =O w→∃t,w=.cQ t∧dB b i t r.toList) (T:∀f v,j f v→∀ak∈l,∃u,v.get? ak=O u):
  Wk b e k h l i ar a j (fun f C v=>∃n,C=.ref n∧y f n v) where
 fw:=K.sub
 h8:=K.frame
 WG:=T
 oU:=fun f w c o G q p=>K.item f c o _ (A▸(fJ.mp G).1) q fun n r F af Y X s ai=>
  by
   obtain ⟨t,x,al⟩:=ae f r w Y G
   obtain ⟨u,Q,L⟩:=X
   exact p (.ref n) F af (fun am P=>⟨n,r,t,rfl,⟨u,P n u (K.apart f n F s) Q,L⟩,x,al⟩) ⟨n,rfl,s⟩ ai
 yV:=fun n f C c o ah aa p=>by
  obtain ⟨ag,ab,R,x⟩:=ah
  obtain ⟨ac,W,s⟩:=aa
  (refine bT x ?_;refine bT W ?_)
  exact K.go ag ab R f ac c o _ s p
 nz:=fun c o q p=>K.done c o _ (A▸q) p
 iQ:=fun f c o q p=>K.self f c o _ q p
def rI.eI{t:bS}{F:Bool}{K:KL}{r:eu}{w:Nat}{G:Nat→cj→eu→Prop}(z:pY g d)(s:c7 b d t c)(v:∀o p,c.heap.get? o=O p→r.get? o=O p)(X:Wk b e k h l d.F F a j G)(R:j 0 r)
  (C:∀o∈h,(∃p,r.get? o=O p)∧(c.heap.objs.size≤o∨∃p,d.F o=O p)) (Y:∀o∈l,c.heap.objs.size≤o) (I:a.length≤1000000) (T:K a t):rI b e g F K (.ref k) {c with heap:=r,toks:=w}:=by
 have x:∀f,f∈h∧d.F f=b1→c.heap.objs.size≤f:=fun f n=>(C f n.1).2.elim id fun ⟨p,q⟩=>by rw [n.2] at q;exact cG q
 have L:∀f,f∈h∧d.F f=b1→d.T f=b1:=fun f n=>s.pC (x f n)
 have P:c7 b ⟨d.F,d.T.iu (fun f=>f∈h∧d.F f=b1) r,d.α⟩ t {c with heap:=r,toks:=w}:=by
  refine s.KM (fun A=>False) w (fun A W=>W.elim) (fun o p A=>v o p) fun f p q=>?_
  by_cases n:f∈h∧d.F f=b1
  ·rw [nD n] at q
   exact ⟨q,n.2,s.fY (x f n)⟩
  ·rw [ou n] at q
   exact ⟨v f p (s.hN f p q),s.qo q⟩
 refine ⟨a,t,⟨d.F,d.T.iu (fun f=>f∈h∧d.F f=b1) r,d.α⟩,k,_,_,I,T,z.vd.ci ⟨k4.cy _,jU _,fun f Q=>(ou Q:d.T.iu (fun f=>f∈h∧d.F f=b1) r f=_)⟩,fun f n=>(z.T f id).symm.trans (L f n),P,rfl,It.eI X fun o u=>s.yY (Y o u),⟨k4.cy _,fun f n=>?_,r,R,fun o u p q=>?_⟩⟩
 ·obtain ⟨p,q⟩:=(C f n.1).1
  exact ⟨p,(nD n:d.T.iu (fun f=>f∈h∧d.F f=b1) r f=_).trans q⟩
 ·cases n:d.F o with
  |none=>exact .inr ⟨rfl,(nD ⟨u,n⟩:d.T.iu (fun f=>f∈h∧d.F f=b1) r o=_).trans q⟩
  |some y=>rw [v o y (s.ey o y n)] at q;exact .inl q
def ku{n o:cz}{f:cz→Prop}(q:f n)(s:f o):∀r∈ [n,o],f r:=lY.mpr ⟨q,lY.mpr ⟨s,fun t p=>absurd p gD⟩⟩
def mh{n:cz}{f:cz→Prop}(p:f n):∀q∈ [n],f q:=lY.mpr ⟨p,fun r o=>absurd o gD⟩
def xm{o:List cj}{q:Nat}{p:bl}{n:cj}(r:dB b i a o)(f:o.toArray[q]? =O n)(s:a[q]? =O p):g5 b i p n:=r.mK s (by rw [tQ] at f;exact f)
def S5{f:bl}(o:CA f=ar):∃n,f=.cQ n:=by
 cases f<;>first|exact ⟨_,rfl⟩|exact dy o
def e0{n:Type}{f:n}{o:Prop}(p:b1=O f):o:=cG p
def P9{p:Bool}{q:bZ}{a:List bl}{o:Bool→bZ→Prop}(n:Dz p q=O a)(s:a.all CA=ar→o ar (.f (.a3 a)))(y:o b2 (.f (.a3 a)))(u:o b2 (.f (.cQ a))):o p q:=by
 induction q with
 |cu w=>exact e0 n
 |fK w=>exact e0 n
 |f v=>
  cases v<;>first|exact e0 n|skip
  ·induction p
   ·exact dg n▸u
   ·exact e0 n
  ·induction p
   ·exact dg n▸y
   ·refine bU fun r=>?_
    obtain ⟨x,t⟩:=eB n
    obtain rfl:=dg t
    refine r ?_;try clear r
    exact s x
def S6{t:List cj}(I:dB b i a t)(F:a.all CA=ar):∃(u:Nat→cz)(v:Nat→List cj),∀f n,a[f]? =O n→t[f]? =O (.ref (u f))∧(∃p,i (u f)=O (dl "tuple" (v f) p))∧∃o,n=.cQ o∧dB b i o (v f):=by
 have r:∀f:Nat,∃q:cz×List cj,∀n:bl,a[f]? =O n→t[f]? =O (Value.ref q.1)∧(∃p,i q.1=O (dl "tuple" q.2 p))∧∃o,n=bl.cQ o∧dB b i o q.2:=fun f=>by
  cases x:a[f]? with
  |none=>exact ⟨(0,[]),fun n s=>nomatch (show b1=O n from s)⟩
  |some n=>
   refine bU fun w=>?_
   obtain ⟨o,rfl⟩:=S5 (lD.mp F n (gj x))
   obtain ⟨K,y,C,A,p,rfl,z,G⟩:=I.iU x
   refine w ?_;try clear w
   exact ⟨(C,A),fun n s=>dg s▸⟨y,⟨p,z⟩,o,rfl,G⟩⟩
 exact ⟨fun f=>(UW (r f)).1,fun f=>(UW (r f)).2,fun f=>Classical.choose_spec (r f)⟩
def La(r:e.handled=b1){K:KL}(p:c7 b g m c){n:cj}(A:g5 b g.F (.cQ a) n)(z:a.length≤100000)(v:K a m):Wp b e (kh n) (rI b e g b2 K) c:=by
 obtain ⟨w,x,C,rfl,o,q⟩:=A
 have f:=p.ey _ _ o
 refine wpAny_pyIter_tuple (kb f) (rI.eI (.cy _) p (fun P G f=>ng _ f) (Wk.BY (Walks.tuple r c.heap.objs.size w (kW (nV f)) x.toArray) (by (refine bT iy ?_;refine bT q.cC ?_;rfl)) (fun t n L u y=>xm q u y) fun t I s=>mh (s.1.imp fun F f=>f.1))
  ⟨⟨_,oz _ rfl,rfl,rfl⟩,kb (ng _ f)⟩ (ku ⟨⟨_,oz _ rfl⟩,.inl (dX _)⟩ ⟨⟨_,ng _ f⟩,.inr ⟨_,o⟩⟩) (mh (dX _)) (cr z (by decide)) v)
def Qa(r:e.handled=b1){K:KL}(p:c7 b g m c){n:cj}(A:g5 b g.F (.a3 a) n)(z:a.length≤100000)(v:K a m):Wp b e (kh n) (rI b e g b2 K) c:=by
 obtain ⟨w,x,C,rfl,o,q⟩:=A
 have f:=p.ey _ _ o
 refine Mm (eN f) (rI.eI (.cy _) p (fun P G f=>ng _ f) (Wk.BY (Walks.list r c.heap.objs.size w (kW (nV f)) x.toArray) (by (refine bT iy ?_;refine bT q.cC ?_;rfl)) (fun t n L u y=>xm q u y) fun t I s=>mh (s.1.imp fun F f=>f.1))
  ⟨⟨_,oz _ rfl,rfl,rfl⟩,(eN f).push _⟩ (ku ⟨⟨_,oz _ rfl⟩,.inl (dX _)⟩ ⟨⟨_,ng _ f⟩,.inr ⟨_,o⟩⟩) (mh (dX _)) (cr z (by decide)) v)
def Lb(P:e.handled=b1){K:KL}(u:c7 b g m c){C:cj}(y:g5 b g.F (.a3 a) C)(R:a.all CA=ar)(ab:a.length≤100000)(X:K a m):Wp b e (kh C) (rI b e g ar K) c:=by
 refine bU fun n=>?_
 obtain ⟨aa,x,w,rfl,z,G⟩:=y
 have p:=u.ey _ _ z
 obtain ⟨I,Y,t⟩:=S6 G R
 refine n ?_;try clear n
 have F:x.toArray.size=a.length:=by (refine bT iy ?_;refine bT G.cC ?_;rfl)
 have v:∀f,f<x.toArray.size→∃o,a[f]? =O o:=fun f q=>⟨_,gS (F▸q)⟩
 refine Mm (eN p) (rI.eI (.cy _) u (fun ac af p=>ng _ p)
  (Wk.Zr (WalksU.listOfTuples P c.heap.objs.size aa (kW (nV p)) x.toArray I (fun f=>(Y f).toArray) (fun f q=>?_) (fun f q=>?_)) F (fun A ah o T r=>?_) fun A ag Q=>mh (Q.1.imp fun ae p=>p.1))
  ⟨⟨_,oz _ rfl,rfl,rfl⟩,(eN p).push _,fun f q=>?_⟩ (lY.mpr ⟨⟨⟨_,oz _ rfl⟩,.inl (dX _)⟩,lY.mpr ⟨⟨⟨_,ng _ p⟩,.inr ⟨_,z⟩⟩,fun ac W=>?_⟩⟩) (mh (dX _)) (cr ab (by decide)) X)
 ·obtain ⟨o,r⟩:=v f q
  rw [tQ]
  exact (t f o r).1
 ·refine bU fun n=>?_
  obtain ⟨o,r⟩:=v f q
  obtain ⟨_,⟨w,s⟩,_⟩:=t f o r
  refine n ?_;try clear n
  exact kW (nV (u.ey _ _ s))
 ·refine bU fun n=>?_
  obtain ⟨_,_,L,p,y⟩:=t A o r
  refine n ?_;try clear n
  exact ⟨L,p,T▸y⟩
 ·refine bU fun n=>?_
  obtain ⟨o,r⟩:=v f q
  obtain ⟨_,⟨w,s⟩,_⟩:=t f o r
  refine n ?_;try clear n
  exact kb (ng _ (u.ey _ _ s))
 ·refine bU fun n=>?_
  obtain ⟨f,q,rfl⟩:=hJ.mp W
  obtain ⟨o,r⟩:=v f (nf.mp q)
  obtain ⟨_,⟨w,s⟩,_⟩:=t f o r
  refine n ?_;try clear n
  exact ⟨⟨_,ng _ (u.ey _ _ s)⟩,.inr ⟨_,s⟩⟩
def Qb(s:e.handled=b1){K:KL}{o:bZ}{n:cj}{p:Bool}(t:c7 b g m c)(f:dU b g o n)(v:Nm p K o m):Wp b e (kh n) (rI b e g p K) c:=by
 obtain ⟨a,w,u⟩:=fj v
 obtain ⟨q,r⟩:=tj u
 exact P9 (o:=fun p o=>dU b g o n→Wp b e (kh n) (rI b e g p K) c) w (fun x f=>Lb s t f x q r) (fun f=>Qa s t f q r) (fun f=>La s t f q r) f
end
def Lc(a:Wd)(p:Nat)(q:cK)(m:ub):Prop:=∀{f:Sc}{j:fF}{d:ce}{b:d8}{e:dQ}{k:bS}{g:cM}{c:du}{h:cV},Yl a.T f j m d=ar→At a p b e k g c f j h→∀(l:Bool)(K:KL),Y7 ⟨a.T,q⟩ l m h k K→(∀i,vV d c i=ei i)∧Wp a b (fk d c) (fun n o=>Wp a b (kh n) (rI a b e l K) o) g
section
variable{b:Wd}{c:d8}{h l:dQ}{j:bS}{d:cM}{k:di}{e:Nat}{g:cK}{i:List bl}
def Qc{f:ce}(m:Hx f=b2)(n:du):∀a,vV f n a=ei a:=by
 intro a
 cases f<;>first|rfl|exact dy m
def Qd{f:cv}(s:e4 b e g f):Lc b e g (.cE f):=fun p a G K r=>by
 refine f4 p fun n v=>⟨Qc (eC n) _,((s v a).d7 _ r).vp fun C x y A z o m t q=>?_⟩
 exact (Qb a.a.f8 t m q).cO fun w F u=>u.hZ o
def Bk(w:kc b){a:String}(C:a∈(["range","enumerate","zip"] :List String)){r:ce}(R:uA r (oA a)=ar){t:Sc}{T:fF}(X:(t.lookup (oA a)==O .globalImplicit)=ar)(K:(oA a==("__debug__":b4))=b2){I:cV}{f:du}
  (n:At b e c h j d f t T I) {o:List ce} {m:cS} (P:(pL m (nK o f)).any (·.1)=b2) {q:cj→cM→Prop}
  (Q:Wp b c (sa (pL m (nK o f))) (fun L u=>b.K.In u.heap∧Wp b c (gg (.type a) L) q u) d):Wp b c (fk (.Call r o [] m) f) q d:=by
 refine d2 (g:=Wp b c (fk (.Call r o [] m) f) q d) R fun s p F=>?_
 have v:s.1=oA a:=dr F
 (refine bT p ?_;refine bT v ?_)
 obtain ⟨Y,aa,y,A,x,z⟩:=w.aa0 a C
 show Wp b c (do GN m (← fk (.Name (oA a) s.2) f) [] (pL m (nK o f)) []) q d
 refine c5 (U9 n.E.dm (n.E.b5 _ (dr X)) (Va (by refine bT n.E.mR ?_;exact y.keeps fun W G p=>n.S.kR p) A (by refine bT n.E.m6 ?_;exact x.keeps fun W G p=>n.S.kR p) z ?_) K)
 exact p2 (.inr (.inl ⟨a,rfl⟩)) P Q
def Ju(R:kc b){z:cv}(ak:e4 b e g z){s:String}(ah:s∈(["range","enumerate","zip"] :List String))(al:(oA s==("__debug__":b4))=b2){y:Sc}{P:fF}{C:cV}{m:du}(G:At b e c h j d m y P C){p:ce}
  (ab:r1 p (fun h a t au=>uA h (oA s)&&y.lookup (oA s)==O .globalImplicit&&t.isEmpty&&fO a fun p a=>a.isEmpty&& !jy p&&mE b.T y P z p)=ar) {Q:Bool} {K:KL} {A:KE} (ai:vE ⟨b.T,g⟩ z C j A)
  (an:∀v n u w o,c7 b u w o→dU b u v n→A v w→Wp b c (gg (.type s) [n]) (fun n o=>Wp b c (kh n) (rI b c u Q K) o) o):(∀f,vV p m f=ei f)∧Wp b c (fk p m) (fun n o=>Wp b c (kh n) (rI b c h Q K) o) d:=by
 apply wH ab
 intro r a t q ag
 refine sA ag fun Y af ae x=>iq (c:=fun t=>(∀f,vV (.Call r a t q) m f=ei f)∧Wp b c (fk (.Call r a t q) m) _ d) ae (d3 (e:=fun a=>(∀f,vV (.Call r a [] q) m f=ei f)∧Wp b c (fk (.Call r a [] q) m) _ d) x fun F a x=>g7 x fun W L X=>iq (c:=fun a=>(∀f,vV (.Call r (F::a) [] q) m f=ei f)∧Wp b c (fk (.Call r (F::a) [] q) m) _ d) W ⟨fun p=>rfl,?_⟩)
 refine Bk R ah Y af al G (by refine bT (oT (eC L)) ?_;rfl) (jh (eC L) (((ak X G).d7 _ ai).vp fun n o v w u aa T I ac=>G0 ⟨I.F0 R,?_⟩))
 exact (an v n u w o I T ac).cO fun n av f=>f.cO fun ao aq am=>am.hZ aa
def Fj{o:Bool}{n:bZ}(a:qM o n=O i):o=b2∧∃m,n=.f (.Z m)∧m.natAbs≤1000000∧i=dL m:=by
 induction o with
 |true=>exact e0 a
 |false=>
  induction n with
  |cu r=>exact e0 a
  |fK r=>exact e0 a
  |f q=>
   cases q<;>first|exact e0 a|skip
   obtain ⟨p,s⟩:=eB a
   exact ⟨rfl,_,rfl,p,(dg s).symm⟩
def Qe{o:Int}{f:Nat}{a:bl}(p:(dL o)[f]? =O a):a=.Z f:=by
 obtain ⟨s,q,n⟩:=dC (i4 .. ▸p)
 obtain ⟨r,m⟩:=fJ.mp q
 (refine gT n ?_;refine gT m ?_;rw [L9])
def Qf(R:kc b){f:cv}(L:e4 b e g f):Lc b e g (.gb f):=fun y p aa K I=>by
 refine Ju R L (s:="range") (fD ..) rfl p y I fun T P W X m Q v z=>?_
 refine bU fun s=>?_
 obtain ⟨i,q,x⟩:=fj z
 obtain ⟨rfl,a,rfl,n,rfl⟩:=Fj q
 obtain ⟨r,rfl⟩:=v
 refine s ?_;try clear s
 have G:U2 0 a 1=(a.toNat:Int):=by rw [rangeSize_one];split<;>lia
 have t:∀o:ea,m.heap.objs.size≤(m.heap.push o).objs.size:=fun o=>by rw [GR];exact fM _
 refine call_range_1 (wpAny_pyIter_range (IsRange.new ..) (small_one (by decide) (by decide) (t6 (by decide) (ZF n)) (Int.lt_of_le_of_lt (Vc n) (by decide))) ?_)
 refine rI.eI (c:=m) (.cy _) Q (fun ab o f=>ng _ (ng _ f)) (Wk.BY (Walks.range p.a.f8 _ 0 1 a.toNat) (by unfold dL;(rewrite [et];refine bT pk ?_;rfl)) (fun C P Y ⟨r,F⟩ q=>?_) fun C p A=>mh ⟨_,A⟩) ?_ (mh ⟨⟨_,oz _ rfl⟩,.inl (t _)⟩) (mh (t _)) ?_ x
 ·(refine bT (Qe q) ?_;refine bT F ?_)
  exact ⟨r,by rw [Int.mul_one,Int.zero_add]⟩
 ·have w:(0+((0:Nat):Int)*1)=0:=rfl
  have u:((a.toNat:Int)-((0:Nat):Int))=U2 0 a 1:=by refine bT G ?_;exact UM _
  show IsRangeIter _ _ (0+((0:Nat):Int)*1) ((a.toNat:Int)-((0:Nat):Int)) 1
  (refine bT w ?_;refine bT u ?_)
  exact oz _ rfl
 ·unfold dL
  (rewrite [et];refine bT pk ?_)
  exact ID n
end
section
variable{b:Wd}{g:d8}{h m:dQ}{i:bS}{c:cM}{j:di}{k:Nat}{l:cK}{e d:List bl}
def Bl{f:Nat}{n:bl}(q:(eV e)[f]? =O n):∃a,e[f]? =O a∧n=.cQ [.Z f,a] :=by
 obtain ⟨t,r,s⟩:=dC (i4 .. ▸q)
 obtain ⟨a,p,o⟩:=dC (T6 .. ▸r)
 exact ⟨a,p,by (refine gT s ?_;refine gT o ?_;rw [kU])⟩
def x3{n o:bl}{f a:cj}(p:g5 b j n f)(q:g5 b j o a):dB b j [n,o] (#[f,a] :Array cj).toList:=⟨f,[a],rfl,p,a,[],rfl,q,rfl⟩
def Qg{f:b4}{o:Nat}{n:bl}(p:(ld f)[o]? =O n):∃a,f.cps[o]? =O a∧n=.ad ⟨#[a]⟩:=by
 obtain ⟨a,q,r⟩:=dC (i4 .. ▸p)
 exact ⟨a,by rw [← MG];exact q,r.symm⟩
def mU{n:eu}{f o:cz}{q:Nat}(p:n.IsListIter f o q):∃a,n.get? f=O a:=by obtain ⟨a,r,_⟩:=p;exact ⟨a,r⟩
def rJ:(eV e).length=e.length:=by
 unfold eV
 (rewrite [et];refine bT T9 ?_;rfl)
def ED{a:b4}:(ld a).length=a.cps.size:=by
 unfold ld
 (rewrite [et];refine bT Array.length_toList ?_;rfl)
def Zs{f a:Nat}(n:f<a):(f:cz)≠a:=kW n
def Ng{f a:Nat}(n:a<f):(f:cz)≠a:=(kW n).symm
def Ld(I:g.handled=b1){K:KL}{p:cj}(w:c7 b h i c)(T:g5 b h.F (.a3 e) p)(n:e.length≤100000)(f:K (eV e) i):Wp b g (gg (.type "enumerate") [p]) (fun p F=>Wp b g (kh p) (rI b g h ar K) F) c:=by
 refine bU fun o=>?_
 obtain ⟨y,Q,X,rfl,v,z⟩:=T
 refine o ?_;try clear o
 have a:=w.ey _ _ v
 have t:@Cw Nat instLTNat y c.heap.objs.size:=nV a
 have q:∀f:Nat,@zs Nat instLENat c.heap.objs.size (c.heap.objs.size+f):=fun f=>fg _ f
 have C:@Cw Nat instLTNat c.heap.objs.size (c.heap.objs.size+1):=h9 _
 refine call_enumerate_list (eN a) fun ae r x Y s=>UB r (rI.eI (.cy _) w s
  (Wk.Zr (WalksT.enumerate I (c.heap.objs.size+1) c.heap.objs.size y (Ng C) (Zs (qA t)) (Zs t) Q.toArray).toU (by (refine bT iy ?_;refine bT z.cC ?_;refine bT rJ ?_;rfl)) (fun L aa ag n R=>?_) fun L af u=>ku (u.1.elim fun ac a=>⟨_,a⟩) (mU u.2.1))
  ⟨⟨_,r⟩,x,eN (s _ _ a)⟩ (lY.mpr ⟨⟨⟨_,r⟩,.inl (q 1)⟩,ku ⟨mU x,.inl (q 0)⟩ ⟨⟨_,s _ _ a⟩,.inr ⟨_,v⟩⟩⟩) (ku (q 1) (q 0)) (by refine bT rJ ?_;exact cr n (by decide)) f)
 refine bU fun o=>?_
 obtain ⟨G,W,A,P⟩:=n
 obtain ⟨ab,n,a⟩:=Bl R
 refine o ?_;try clear o
 exact ⟨_,a,P▸x3 ⟨G,rfl⟩ (xm z A n)⟩
def Qh(F:g.handled=b1){K:KL}{f:b4}{u:kD}(G:c7 b h i c)(L:f.cps.all (·<128)=ar)(r:f.cps.size≤100000)(n:K (eV (ld f)) i):Wp b g (gg (.type "enumerate") [.str f u]) (fun Q aa=>Wp b g (kh Q) (rI b g h ar K) aa) c:=by
 have o:∀n:Nat,@zs Nat instLENat c.heap.objs.size (c.heap.objs.size+n):=fun n=>fg _ n
 have s:@Cw Nat instLTNat c.heap.objs.size (c.heap.objs.size+1):=h9 _
 refine call_enumerate_str fun ah q p ae Y=>UB q ?_
 rw [show strIterType f="str_ascii_iterator" from if_pos L] at p
 refine rI.eI (.cy _) G Y
  (Wk.Zr (WalksT.enumerateD (Draws.strAscii (A:=g.in1) F c.heap.objs.size f u) (c.heap.objs.size+1) (Ng s) (fun z=>Ng s (ib.mp z)) (ib.mpr rfl)).toU (by (refine bT rJ ?_;refine bT ED ?_;rfl)) (fun w ag ai r T=>?_) fun w z v=>ku (v.1.elim fun y a=>⟨_,a⟩) (v.2.imp fun y a=>a.1))
  ⟨⟨_,q⟩,p⟩ (ku ⟨⟨_,q⟩,.inl (o 1)⟩ ⟨p.imp fun y a=>a.1,.inl (o 0)⟩) (ku (o 1) (o 0)) (by (refine bT rJ ?_;refine bT ED ?_);exact cr r (by decide)) n
 refine bU fun x=>?_
 obtain ⟨A,ac,⟨I,X,R,ab⟩,P⟩:=r
 obtain ⟨ak,C,a⟩:=Bl T
 obtain ⟨af,t,W⟩:=Qg C
 refine x ?_;try clear x
 rw [R] at t
 obtain rfl:=dg t
 rw [W] at a
 exact ⟨_,a,P▸ab▸x3 (j:=h.F) (n:=.Z w) (o:=.ad ⟨#[I]⟩) ⟨A,rfl⟩ ⟨X,rfl⟩⟩
set_option tactic.hygienic true in
def Io{r:Bool}{q:bZ}{p:Bool→bZ→Prop}(n:w1 r q=some e)(t:∀d,d.length≤100000→e=eV d→p true (.f (.a3 d)))(w:∀a:Str,a.cps.all (·<128)=true∧a.cps.size≤100000→e=eV (ld a)→p true (.f (.ad a))):p r q:=by
 induction r with
 |false=>exact e0 n
 |true=>
  induction q with
  |cu v=>exact e0 n
  |fK v=>exact e0 n
  |f u=>
   cases u<;>first|exact e0 n|skip
   ·rename_i a
    obtain ⟨s,o⟩:=eB (show (if a.cps.all (·<128)=true∧a.cps.size≤100000 then some (eV (ld a)) else none)=_ from n)
    exact w _ s (Option.some.inj o).symm
   ·rename_i d
    obtain ⟨s,o⟩:=eB (show (if d.length≤100000 then some (eV d) else none)=_ from n)
    exact t _ s (Option.some.inj o).symm
def S7(G:kc b){a:cv}(C:e4 b k l a):Lc b k l (.yC a):=fun {T W a g h i c I R} y q w K A=>by
 refine Ju G C (s:="enumerate") (ia _ (fD ..)) rfl q y A fun s o t P p v x z=>?_
 refine bU fun f=>?_
 obtain ⟨e,F,u⟩:=fj z
 refine f ?_;try clear f
 refine Io (p:=fun w s=>dU b t s o→Wp b g (gg (.type "enumerate") [o]) (fun o p=>Wp b g (kh o) (rI b g t w K) p) p) F (fun d n a r=>?_) (fun Q n a r=>?_) x
 ·exact Ld q.a.f8 v r n (a▸u)
 ·refine bU fun f=>?_
  obtain ⟨L,rfl⟩:=r
  refine f ?_;try clear f
  exact Qh q.a.f8 v n.1 n.2 (a▸u)
def YG{p n:List cj}(w:dB b j e p)(v:dB b j d n){a:Nat}{o r:cj}{q:bl}(t:p.toArray[a]? =O o)(u:n.toArray[a]? =O r)(y:(iC e d)[a]? =O q):∃s,q=.cQ s∧dB b j s (#[o,r] :Array cj).toList:=by
 obtain ⟨z,f,x⟩:=dC (i4 .. ▸y)
 rw [TU] at f
 exact ⟨_,x.symm,x3 (xm w t f.1) (xm v u f.2)⟩
def WH(a:Nat){f n:Nat}(o:f≠n):(a+f:cz)≠(a+n:Nat):=fun p=>o (Nat.add_left_cancel p)
def QZ{a f:Nat}(o:a<f)(n:Nat):(a:cz)≠(f+n:Nat):=kW (hH o (fg ..))
def Lf{a f o:Nat}(p:f<a)(n:o<a):ZipApart (a+4) (a+2) (a+3) a (a+1) f o:=by
 constructor<;>first|exact WH a (n:=0) (by decide)|exact WH a (f:=0) (by decide)|exact WH a (by decide)|exact QZ p 0 |exact QZ p _|exact QZ n 0 |exact QZ n _
def Qi(Q:g.handled=b1){K:KL}{p v:cj}(t:c7 b h i c)(ak:g5 b h.F (.a3 e) p)(I:g5 b h.F (.a3 d) v)(ai:e.length≤100000)(f:K (iC e d) i):Wp b g (gg (.type "zip") [p,v]) (fun p al=>Wp b g (kh p) (rI b g h ar K) al) c:=by
 refine bU fun n=>?_
 obtain ⟨ac,ae,aq,rfl,x,F⟩:=ak
 obtain ⟨af,P,ao,rfl,y,A⟩:=I
 refine n ?_;try clear n
 have r:=t.ey _ _ x
 have q:=t.ey _ _ y
 have a:∀f:Nat,@zs Nat instLENat c.heap.objs.size (c.heap.objs.size+f):=fun f=>fg _ f
 refine call_zip_2 (eN r) (eN q) fun aw s z u w C au o=>wpAny_pyIter_zip s (rI.eI (.cy _) t o
  (Wk.Zr (WalksT.zip2 Q (c.heap.objs.size+4) (c.heap.objs.size+2) (c.heap.objs.size+3) c.heap.objs.size (c.heap.objs.size+1) ac af (Lf (nV r) (nV q)) ae.toArray P.toArray).toU ?_ (fun W av aA T ah=>by obtain ⟨am,ay,G,Y,ab⟩:=T;exact ab▸YG F A G Y ah) fun W az R=>?_)
  ⟨s,z,⟨_,_,u⟩,w,C,eN (o _ _ r),eN (o _ _ q)⟩ (lY.mpr ⟨⟨⟨_,s⟩,.inl (a 4)⟩,lY.mpr ⟨⟨⟨_,z⟩,.inl (a 2)⟩,lY.mpr ⟨⟨⟨_,u⟩,.inl (a 3)⟩,lY.mpr ⟨⟨mU w,.inl (a 0)⟩,lY.mpr ⟨⟨mU C,.inl (a 1)⟩,ku ⟨⟨_,o _ _ r⟩,.inr ⟨_,x⟩⟩ ⟨⟨_,o _ _ q⟩,.inr ⟨_,y⟩⟩⟩⟩⟩⟩⟩) (lY.mpr ⟨a 4,lY.mpr ⟨a 3,ku (a 0) (a 1)⟩⟩) ?_ f)
 ·unfold iC
  (refine bT iy ?_;refine bT iy ?_;refine bT F.cC ?_;refine bT A.cC ?_;rewrite [et];refine bT Uh ?_;rfl)
 ·refine bU fun n=>?_
  obtain ⟨L,an,⟨_,_,aa⟩,X,ag,_⟩:=R
  refine n ?_;try clear n
  exact lY.mpr ⟨⟨_,L⟩,lY.mpr ⟨⟨_,aa⟩,ku (mU X) (mU ag)⟩⟩
 ·unfold iC
  (rewrite [et];refine bT Uh ?_)
  exact cr (Nat.min_le_left ..) (cr ai (by decide))
set_option tactic.hygienic true in
def Lg{r:Bool}{p o:bZ}(a:G5 r p o=some e):∃d n,r=true∧p=.f (.a3 d)∧o=.f (.a3 n)∧d.length≤100000∧e=iC d n:=by
 induction r with
 |false=>exact e0 a
 |true=>
  induction p with
  |cu q=>exact e0 a
  |fK q=>exact e0 a
  |f t=>
   cases t<;>first|exact e0 a|skip
   induction o with
   |cu q=>exact e0 a
   |fK q=>exact e0 a
   |f u=>
    cases u<;>first|exact e0 a|skip
    rename_i d n
    obtain ⟨v,s⟩:=eB (show (if d.length≤100000 then some (iC d n) else none)=_ from a)
    exact ⟨_,_,rfl,rfl,rfl,v,(Option.some.inj s).symm⟩
def YH(C:kc b){s p:cv}(ae:e4 b k l s)(ak:e4 b k l p):Lc b k l (.zt s p):=fun {r A o g h i c ao aF} T f aJ K ac=>by
 apply wH (d:=fun h a t aE=>uA h "zip"&&r.lookup ("zip":b4)==O .globalImplicit&&t.isEmpty&&fO a fun o a=>fO a fun v a=>a.isEmpty&& !jy o&& !jy v&&mE b.T r A s o&&mE b.T r A p v) T
 intro aB a t az aa
 refine sA aa fun L Y X Q=>?_
 apply iq X
 apply d3 Q
 intro aG a I
 apply d3 I
 intro aK a q
 refine Dv q fun q w n F al=>?_
 apply iq q
 refine ⟨fun o=>rfl,Bk C (a:="zip") (ia _ (ia _ (fD ..))) L Y rfl f (by (refine bT (oT (eC w)) ?_;refine bT (oT (eC n)) ?_);rfl) (jh (eC w) (((ae F f).d7 _ ac).vp fun ag aq au aC av x G ah W=>jh (eC n) (((ak al (f.cc x ah)).d7 _ W).vp fun aw am aI aD aL z ai u R=>G0 ⟨u.F0 C,?_⟩)))⟩
 refine bU fun y=>?_
 obtain ⟨e,n,P⟩:=fj R
 obtain ⟨d,aH,rfl,rfl,rfl,ab,rfl⟩:=Lg n
 refine y ?_;try clear y
 exact (Qi f.a.f8 u (G.cO z) ai ab P).cO fun ag am af=>af.cO fun ay aA an=>an.hZ (x.ci z)
end
def BP(b:Wd)(i:du)(g:cz→Prop)(e:Sc)(j:fF)(d:dQ)(K:cV→Prop)(h:bS)(f:cM):Prop:=∃a c,Le g d a∧eU b a i e j c∧c7 b a h f∧K c
def nE(d:du)(c:cz→Prop)(g:fF)(f:List Nat):Prop:=∀e∈f,∀a,(e,a)∈g→∀b,xk d a b→c b
section
variable{d:Wd}{k:d8}{e l:dQ}{j:bS}{g:cM}{b:du}{i:Sc}{c:fF}{a:cV}{h:cz→Prop}
def BP.hZ{K:cV→Prop}(f:Le h e l)(o:BP d b h i c l K j g):BP d b h i c e K j g:=by obtain ⟨m,q,n,p⟩:=o;exact ⟨m,q,f.ci n,p⟩
def tK:∀{a:cV}{o:Nat}{q:bZ}{K:cV→Prop},wf a o q K→K (a.set o (O q)):=by
 intro a
 induction a with
 |nil=>
  intro o
  rcases o with _|_
  ·intro m n f
   first|exact cG f|exact oa f|exact Bool.noConfusion f|exact False.elim f|exact cG n|exact nomatch n|exact Bool.noConfusion n|exact False.elim n|exact cG m|exact nomatch m|exact Bool.noConfusion m|exact False.elim m
  ·intro m n f
   first|exact cG f|exact oa f|exact Bool.noConfusion f|exact False.elim f|exact cG n|exact nomatch n|exact Bool.noConfusion n|exact False.elim n|exact cG m|exact nomatch m|exact Bool.noConfusion m|exact False.elim m
 |cons s r t=>
  intro o
  rcases o with _|o
  ·intro _ _ p
   exact p
  ·intro q K p
   exact t (o:=o) (K:=fun r=>K (s::r)) p
def sM(t:c7 d e j g)(x:eU d e b i c a){q:Nat}{f:b4}{n:bZ}{m:cj}{s:cS}{K:cV→Prop}(y:∀o,xk b f o→h o)(w:(q,f)∈c)(A:dU d e n m)(v:wf a q n K):Wp d k (lk (.Name f s) b m) (fun C p=>BP d b h i c e K j p) g:=
 wpAny_assign_Name (q6 t x w A fun l p u z r=>⟨l,_,u.up y,z,r,tK v⟩)
def q7{K:cV→Prop}:∀{p:List Nat}{q:List ce}{o:List bZ}{f:List cj}{a:cV}{e:dQ}{g:cM},c7 d e j g→eU d e b i c a→nE b h c p→fX p c q=ar→ee d e o f→zw p o a K→
  Wp d k (qF ((tU q b).map (·.2)) f) (fun y Y=>BP d b h i c e K j Y) g:=by
 intro p
 induction p with
 |nil=>
  intro q o
  rcases o with _|⟨_,_⟩
  ·intro f a e g r t s n u m
   (refine bT (l0.mp n) ?_;refine bT (show f=[] from u) ?_)
   exact Mj ⟨e,a,.cy _,t,r,m⟩
  ·intro _ _ _ _ _ _ _ _ _ m
   exact m.elim
 |cons ab p C=>
  intro q o
  rcases o with _|⟨af,o⟩
  ·intro _ _ _ _ _ _ _ _ _ m
   exact m.elim
  ·intro f a e g r t s n u m
   refine bU fun w=>?_
   obtain ⟨F,f,rfl,I,ac⟩:=u
   refine w ?_;try clear w
   apply d3 n
   intro ai q n
   apply k7 n
   intro z L n
   refine f4 n fun P ae=>?_
   have v:=rb.mp P
   show Wp d k (qF ((fun R=>lk (.Name z L) b R)::(tU q b).map (·.2)) (F::f)) _ g
   rw [qF]
   refine c5 (iH ((sM r t (s ab (fD ..) z v) v I m).cO fun y ag aa=>?_))
   obtain ⟨ah,ak,x,X,W,Q⟩:=aa
   exact (C W X (fun G A=>s G (ia _ A)) ae (ac.cO x) Q).cO fun y al T=>T.hZ x
def wK{K:cV→Prop}:∀{r:List Nat}{q:List bl}{a:cV},qL r q a K→zw r (q.map .f) a K
 |[],[],_,f=>f
 |[],_::_,_,f=>f.elim
 |_::_,[],_,f=>f.elim
 |m::r,o::q,a,f=>Bm f fun a u=>wK u
where
 Bm {K p:cV→Prop}:∀{a:cV}{m:Nat}{o:bZ},wf a m o K→(∀a,K a→p a)→wf a m o p
  |_::_,0,_,f,s=>s _ f
  |t::n,m+1,o,f,s=>Bm (K:=fun n=>K (t::n)) (p:=fun n=>p (t::n)) (a:=n) (m:=m) f fun v=>s _
def oV{K:cV→Prop}:∀{n:List Nat}{f:List bZ}{a:cV},zw n f a K→n.length=f.length:=by
 intro n
 induction n with
 |nil=>
  intro f
  rcases f with _|⟨_,_⟩
  ·intro _ _
   exact rfl
  ·intro _ m
   exact m.elim
 |cons r n o=>
  intro f
  rcases f with _|⟨p,q⟩
  ·intro _ m
   exact m.elim
  ·intro a m
   exact congrArg pI (o (tK m))
def BZ:∀{n:List Nat}{f:List ce},fX n c f=ar→n.length=(tU f b).length∧(tU f b).findIdx? (·.1)=b1:=by
 intro n
 induction n with
 |nil=>
  intro f m
  refine bT (l0.mp m) ?_;exact ⟨rfl,rfl⟩
 |cons w n s=>
  intro f m
  apply d3 m
  intro x f m
  apply k7 m
  intro p o m
  refine f4 m fun v u=>?_
  obtain ⟨r,t⟩:=s u
  have q:tU (.Name p o::f) b=(b2,lk (.Name p o) b)::tU f b:=rfl
  (refine bT q ?_;rewrite [List.findIdx?_cons];refine bT t ?_)
  exact ⟨congrArg pI r,rfl⟩
def sE(x:k.handled=b1)(y:c7 d e j g)(L:eU d e b i c a){m:List Nat}{r:List ce}{A:Nat}{w:cS}{n:cz}{p:List cj}{o:List bl}{K:cV→Prop}(z:g.heap.IsTuple n p.toArray)(s:dB d e.F o p)(G:nE b h c m)(q:fX m c r=ar)(f:qL m o a K):Wp d k (lk (.Tuple r A w) b (.ref n)) (fun R P=>BP d b h i c e K j P) g:=by
 have f:=wK f
 obtain ⟨u,v⟩:=BZ (b:=b) q
 refine Ml x z (by (refine gT u ?_;refine bT (oV f) ?_;rewrite [et];refine bT iy ?_;refine bT s.cC ?_;rfl)) v fun F I=>?_
 exact q7 (y.iO (m:=F) g.toks fun Q C t=>I Q C (kW (nV t)) t) L G q s.Zf f
def Qj{f:bl}{n:List Nat}{K:cV→Prop}(o:jP a n ar f K):∃m,f=.cQ m∧qL n m a K:=by
 cases f<;>first|exact ⟨_,rfl,o⟩|exact o.elim
def De(L:k.handled=b1)(y:c7 d e j g)(F:eU d e b i c a){f:List Nat}{v:ce}{A:cj}{o:bl}{K:cV→Prop}(C:nE b h c f):∀{u:Bool},yZ f u c v=ar→Bj d e.F u A o g.heap→jP a f u o K→Wp d k (lk v b A) (fun q T=>BP d b h i c e K j T) g
 |true,m,t,n=>by
  refine bU fun z=>?_
  obtain ⟨Y,R,x,rfl,P,rfl,W⟩:=t
  refine z ?_;try clear z
  apply lA (d:=fun G q q=>fX f c G) m
  intro G X I s
  exact sE L y F (p:=R.toList) P W C s n
 |false,m,t,n=>by
  rcases f with _|⟨p,_|⟨Q,x⟩⟩
  ·exact dy m
  ·apply k7 (c:=fun r q=>c.contains (p,r)&&fX [] c []) m
   intro r I s
   have w:=rb.mp (gq s).1
   exact sM (n:=.f o) y F (C p (fD ..) r w) w t n
  ·exact pG (mB (oV (wK (show qL (p::Q::x) [o] a K from n))))
def Qk{m:List Nat}{r:ce}:∀{q:Bool},yZ m q c r=ar→Hz q r
 |true,f=>by
  apply lA (d:=fun n o o=>fX m c n) f
  intro n w s v
  exact ⟨_,_,_,rfl⟩
 |false,f=>by
  match m,f with
  |[],f=>exact dy f
  |u::t,f=>
   apply k7 (c:=fun p o=>c.contains (u,p)&&fX t c []) f
   intro p s v
   exact ⟨_,_,rfl⟩
end
structure ShS(e:dn) where
 df:Option {p:ce×cS // e=.Expr p.1 p.2}:=b1
 asg:Option {p:List ce×ce×cS // e=.Assign p.1 p.2.1 p.2.2}:=b1
 cw:Option {p:Option ce×cS // e=.Return p.1 p.2}:=b1
 cB:Option {p:ce×List dn×List dn×cS // e=.If p.1 p.2.1 p.2.2.1 p.2.2.2}:=b1
 whl:Option {p:ce×List dn×List dn×cS // e=.While p.1 p.2.1 p.2.2.1 p.2.2.2}:=b1
 fT:Option {p:ce×ce×List dn×List dn×cS // e=.For p.1 p.2.1 p.2.2.1 p.2.2.2.1 p.2.2.2.2}:=b1
 gX:Option {p:cS // e=.Continue p}:=b1
 vY:Option {p:List dn×List Mo×List dn×List dn×cS // e=.Try p.1 p.2.1 p.2.2.1 p.2.2.2.1 p.2.2.2.2}:=b1
noncomputable def N4(e:dn):ShS e:=match e with
 |.Expr a b=>{df:=O ⟨(a,b),rfl⟩}
 |.Assign a b c=>{asg:=O ⟨(a,b,c),rfl⟩}
 |.Return a b=>{cw:=O ⟨(a,b),rfl⟩}
 |.If a b c d=>{cB:=O ⟨(a,b,c,d),rfl⟩}
 |.While a b c d=>{whl:=O ⟨(a,b,c,d),rfl⟩}
 |.For a b c d e=>{fT:=O ⟨(a,b,c,d,e),rfl⟩}
 |.Continue a=>{gX:=O ⟨a,rfl⟩}
 |.Try a b c d e=>{vY:=O ⟨(a,b,c,d,e),rfl⟩}
 |_=>{}
def Jv(c:dn)(b:ce→cS→Bool):Bool:=(N4 c).df.any fun a=>b a.1.1 a.1.2
def Ql{e:dn}{c:ce→cS→Bool}{a:dn→Prop}(j:Jv e c=ar)(g:∀b d,c b d=ar→a (.Expr b d)):a e:=d2 j fun f i h=>i▸g f.1 f.2 h
def lj(c:dn)(b:List ce→ce→cS→Bool):Bool:=(N4 c).asg.any fun a=>b a.1.1 a.1.2.1 a.1.2.2
def lq{g:dn}{d:List ce→ce→cS→Bool}{b:dn→Prop}(k:lj g d=ar)(h:∀c e f,d c e f=ar→b (.Assign c e f)):b g:=d2 k fun a j i=>j▸h a.1 a.2.1 a.2.2 i
def Bn(c:dn)(b:Option ce→cS→Bool):Bool:=(N4 c).cw.any fun a=>b a.1.1 a.1.2
def Ip{e:dn}{c:Option ce→cS→Bool}{a:dn→Prop}(j:Bn e c=ar)(g:∀b d,c b d=ar→a (.Return b d)):a e:=d2 j fun f i h=>i▸g f.1 f.2 h
def V6(c:dn)(b:ce→List dn→List dn→cS→Bool):Bool:=(N4 c).cB.any fun a=>b a.1.1 a.1.2.1 a.1.2.2.1 a.1.2.2.2
def YI{h:dn}{d:ce→List dn→List dn→cS→Bool}{b:dn→Prop}(l:V6 h d=ar)(i:∀c f g e,d c f g e=ar→b (.If c f g e)):b h:=d2 l fun a k j=>k▸i a.1 a.2.1 a.2.2.1 a.2.2.2 j
def EE(c:dn)(b:ce→List dn→List dn→cS→Bool):Bool:=(N4 c).whl.any fun a=>b a.1.1 a.1.2.1 a.1.2.2.1 a.1.2.2.2
def Lh{h:dn}{d:ce→List dn→List dn→cS→Bool}{b:dn→Prop}(l:EE h d=ar)(i:∀c f g e,d c f g e=ar→b (.While c f g e)):b h:=d2 l fun a k j=>k▸i a.1 a.2.1 a.2.2.1 a.2.2.2 j
def N5(c:dn)(b:ce→ce→List dn→List dn→cS→Bool):Bool:=(N4 c).fT.any fun a=>b a.1.1 a.1.2.1 a.1.2.2.1 a.1.2.2.2.1 a.1.2.2.2.2
def S8{a:dn}{e:ce→ce→List dn→List dn→cS→Bool}{c:dn→Prop}(l:N5 a e=ar)(i:∀d g h f a,e d g h f a=ar→c (.For d g h f a)):c a:=d2 l fun b k j=>k▸i b.1 b.2.1 b.2.2.1 b.2.2.2.1 b.2.2.2.2 j
def vI(b:dn)(a:cS→Bool):Bool:=(N4 b).gX.any fun c=>a c.1
def Df{d:dn}{c:cS→Bool}{a:dn→Prop}(h:vI d c=ar)(e:∀b,c b=ar→a (.Continue b)):a d:=d2 h fun i g f=>g▸e i f
def N6(c:dn)(b:List dn→List Mo→List dn→List dn→cS→Bool):Bool:=(N4 c).vY.any fun a=>b a.1.1 a.1.2.1 a.1.2.2.1 a.1.2.2.2.1 a.1.2.2.2.2
def S9{a:dn}{e:List dn→List Mo→List dn→List dn→cS→Bool}{c:dn→Prop}(l:N6 a e=ar)(i:∀d g h f a,e d g h f a=ar→c (.Try d g h f a)):c a:=d2 l fun b k j=>k▸i b.1 b.2.1 b.2.2.1 b.2.2.2.1 b.2.2.2.2 j
def lr{a:Type}(b:List a)(d:a→Bool):Bool:=fO b fun c e=>e.isEmpty&&d c
def qi{b:Type}{e:List b}{f:b→Bool}{c:List b→Prop}(d:lr e f=ar)(h:∀a,f a=ar→c [a]):c e:=d3 d fun a g d=>f4 d fun i j=>iq (c:=fun g=>c (a::g)) i (h a j)
noncomputable def B2:cv→Bool
 |.eh .. =>ar
 |_=>b2
section
variable(d:rg)
mutual
def mS(sc:Sc)(e9:fF):Cy→dn→Bool
 |.df e,x=>Jv x fun v q9=>!mx v&&mE d sc e9 e v
 |.ch x e,z=>lj z fun ts v q9=>lr ts fun t=>r0 t fun id q9=>e9.contains (x,id)&&(!mx v||B2 e)&&mE d sc e9 e v
 |.ep xs es,z=>lj z fun ts v q9=>lr ts fun t=>i9 t fun tt q9 q9=>i9 v fun vs q9 q9=>fX xs e9 tt&&dY xs.Nodup&&(!(vs.all (Mn 8))||vs.all (Mp 8))&&ti d sc e9 es vs
 |.i0 xs e,z=>lj z fun ts v q9=>lr ts fun t=>i9 t fun tt q9 q9=>!mx v&& !(sh v).cQ.isSome&&fX xs e9 tt&&mE d sc e9 e v
 |.jc o i e,z=>lj z fun ts v q9=>lr ts fun t=>gW t fun o' i' q9=>!mx v&&mE d sc e9 o o'&&mE d sc e9 i i'&&mE d sc e9 e v
 |.oW o i p j a b,z=>lj z fun ts v q9=>lr ts fun t=>i9 t fun tt q9 q9=>fO tt fun t1 tt=>lr tt fun t2=>gW t1 fun o' i' q9=>gW t2 fun p' j' q9=>i9 v fun vs q9 q9=>fO vs fun a' vs=>lr vs fun b'=>!jy a'&& !jy b'&&(mE d sc e9 o o'&&mE d sc e9 i i'&&mE d sc e9 p p'&&mE d sc e9 j j'&&mE d sc e9 a a'&&mE d sc e9 b b')
 |.cw e,z=>Bn z fun v q9=>v.any fun x=>mE d sc e9 e x
 |.cB c a b,z=>V6 z fun t x y q9=>mE d sc e9 c t&&xn sc e9 a x&&xn sc e9 b y
 |.p8 _ c b,z=>EE z fun t x o q9=>o.isEmpty&&mE d sc e9 c t&&xn sc e9 b x
 |.fT xs wO it b,z=>N5 z fun t x ss o q9=>o.isEmpty&&yZ xs wO e9 t&&Yl d sc e9 it x&&xn sc e9 b ss
 |.gX,z=>vI z fun q9=>ar
 |.vY b,z=>N6 z fun ss hs o f q9=>!hs.isEmpty&&o.isEmpty&&f.isEmpty&&xn sc e9 b ss
 |.sN,_=>ar
def xn(sc:Sc)(e9:fF):cW→List dn→Bool
 |.N,ss=>ss.isEmpty
 |.J s r,ss=>fO ss fun x ss=>mS sc e9 s x&&xn sc e9 r ss
end
def Dg(e:Sc)(b:fF):List (b4×cv)→List dn→Bool
 |[],a=>a.isEmpty
 |h::m,a=>fO a fun k a=>(lj k fun l g f=>lr l fun n=>n3 n fun i j f=>r0 i fun c f=>b.contains (0,c)&& !(c==("__debug__":b4))&& !mx g&&j==h.1&&mE d e b h.2 g)&&Dg e b m a
end
def Jw(e:Wd)(c:dQ):ue→Flow→Prop
 |.cc,a=>a=.next
 |.gX,a=>a=.cont
 |.cw d,a=>∃b,a=.ret b∧dU e c d b
inductive mV(W:Wd)(env:du)(sc:Sc)(e9:fF)(g:dQ)(K:KS)(f:Flow)(s':cM):Prop
 |mk (fl:ue) (ρ':cV) (AO:bS) (g':dQ) (le:Le (cY env) g g') (E:eU W g' env sc e9 ρ') (rep:Jw W g' fl f) (S:c7 W g' AO s') (k:K fl ρ' AO)
def F4(b:Wd)(l:Nat)(i:d8)(a:du)(d:Sc)(g:fF)(k:List dn)(j:cV→bS→KS→Prop):Prop:=∀{c:dQ}{h:bS}{e:cM}{f:cV}(K:KS),At b l i c h e a d g f→j f h K→Wp b i (execs k a) (mV b a d g c K) e
def lW(a:Wd)(l:Nat)(m:cK)(h:Cy):Prop:=∀{b:Sc}{d:fF}{i:dn}{k:d8}{e:dQ}{j:bS}{f:cM}{c:du}{g:cV},mS a.T b d h i=ar→At a l k e j f c b d g→∀(K:KS),vS ⟨a.T,m⟩ h g j K→Wp a k (f9 i c) (mV a c b d e K) f
def tL(a:Wd)(g:Nat)(i:cK)(e:cW):Prop:=∀{b:Sc}{d:fF}{c:List dn}{h:d8}{f:du},xn a.T b d e c=ar→F4 a g h f b d c (fG ⟨a.T,i⟩ e)
section
variable{b:Wd}{k:d8}{f:Nat}{h:cK}{g m:dQ}{j:bS}{i:cM}{c:du}{d:Sc}{e:fF}{l:cV}
def mV.hZ{K:KS}{a:Flow}(n:Le (cY c) g m)(t:mV b c d e m K a i):mV b c d e g K a i:=by obtain ⟨q,v,w,p,x,o,s,r,u⟩:=t;exact ⟨q,v,w,p,n.ci x,o,s,r,u⟩
def mV.cc{K:KS}{a:bS}{n:cV}(o:Le (cY c) g m)(q:eU b m c d e n)(r:c7 b m a i)(p:K .cc n a):mV b c d e g K .next i:=⟨.cc,_,_,_,o,q,rfl,r,p⟩
def Wp.xp{s:gl Flow}{K:KS}{r:Flow→cM→Prop}(x:Wp b k s (mV b c d e g K) i)(u:∀o a p q n m,Le (cY c) g m→eU b m c d e q→Jw b m p o→c7 b m n a→K p q n→r o a):Wp b k s r i:=x.cO fun o a w=>by obtain ⟨p,q,n,m,t,v,A,y,z⟩:=w;exact u o a p q n m t v A y z
def At.Bo(r:At b f k g j i c d e l){m:dQ}{n:bS}{a:cM}{o:cV}(p:eU b m c d e o)(q:c7 b m n a):At b f k m n a c d e o:=⟨r.a,q,p⟩
def x4{a:ce}(p:mx a=b2)(o:Option ce)(n:Nat):Cn a o n c=ei b2:=by
 cases a<;>first|rfl|exact dy p
def abg:lW b f h .sN:=fun n o K a=>a.elim
def YJ:lW b f h .gX:=fun o a K n=>by
 apply Df (c:=fun q=>ar) o
 intro p _
 exact wpAny_Continue ⟨.gX,_,_,_,.cy _,a.E,rfl,a.S,n⟩
def YK{p:cv}(x:e4 b f h p):lW b f h (.df p):=fun {d e Q k g j i c l} t o K w=>by
 apply Ql (c:=fun a y=>!mx a&&mE b.T d e p a) t
 intro a n A
 refine f4 A fun s v=>?_
 have z:Mt c=b2:=by unfold Mt;refine bT o.E.dm ?_;rfl
 show Wp b k (do
  qJ n
  if Mt c then printExpr (fk a c)
  else if ← Cn a b1 n.line c then do evalThenUse a c fun y=>point;ei .next
  else do dropValue a n (← fk a c)) _ i
 refine c5 (oy ?_)
 (refine bT z ?_;rw [x4 (eC s)])
 refine c5 (fR (c5 (((x v o).d7 _ w).vp fun G F I P L q C r u=>?_)))
 exact wpAny_dropValue (.cc q.vd (o.cc q r).E r u)
def abh{a:cv}(z:e4 b f h a):lW b f h (.cw a):=fun {d e r k g j i c l} w p K y=>by
 apply Ip (c:=fun o P=>o.any fun r=>mE b.T d e a r) w
 intro o I A
 obtain ⟨F,rfl,v⟩:=jC A
 exact wpAny_Return_some (((z v p).d7 _ y).vp fun t C u L G n s q x=>⟨.cw u,_,_,_,n.vd,(p.cc n q).E,⟨t,rfl,s⟩,q,x⟩)
def abi{a:cv}{p q:cW}(P:e4 b f h a)(G:tL b f h p)(I:tL b f h q):lW b f h (.cB a p q):=fun {d e t k g j i c l} z r K L=>by
 apply YI (d:=fun n t u w=>mE b.T d e a n&&xn b.T d e p t&&xn b.T d e q u) z
 intro n t u Y T
 refine g7 T fun y C A=>wpAny_If (((P y r).m4 (fun n j=>pT n (fG _ p _ j K) (fG _ q _ j K)) (fun w w R=>R) L).ve fun a W aa X o x v=>?_)
 induction a with
 |true=>exact (G C K (r.cc o x) v).cO fun F Q s=>s.hZ o.vd
 |false=>exact (I A K (r.cc o x) v).cO fun F Q s=>s.hZ o.vd
def YL:tL b f h .N:=fun {d e p k c} o {g j i l} K a n=>by
 apply iq o
 exact Cl (.cc (.cy _) a.E a.S n)
def Ta{q:Cy}{a:cW}(P:lW b f h q)(y:tL b f h a):tL b f h (.J q a):=fun {d e p k c} G {g j i l} K w L=>by
 apply d3 (f:=fun x p=>mS b.T d e q x&&xn b.T d e a p) G
 intro x p R
 refine f4 R fun F I=>UD ((P F w _ L).xp fun r T C Y X W n u s t o=>?_)
 induction C with
 |cc=>
  refine bT (show r=.next from s) ?_
  exact (y I K (w.Bo u t) o).cO fun r aa Q=>Q.hZ n
 |gX=>
  refine bT (show r=.cont from s) ?_
  exact ⟨.gX,_,_,_,n,u,rfl,t,o⟩
 |cw z=>
  refine bU fun v=>?_
  obtain ⟨A,rfl,a⟩:=s
  refine v ?_;try clear v
  exact ⟨.cw z,_,_,_,n,u,⟨A,rfl,a⟩,t,o⟩
def Tb{q:cW}(x:tL b f h q):lW b f h (.vY q):=fun {d e P k g j i c l} u z K y=>by
 apply S9 (e:=fun r o s a G=>!o.isEmpty&&s.isEmpty&&a.isEmpty&&xn b.T d e q r) u
 intro r o s a F A
 refine sA A fun p w v t=>?_
 apply iq w
 apply iq v
 match o,p with
 |[],p=>exact dy p
 |C::o,_=>
 refine wpAny_Try_except ((x t K z y).mQ fun a L n=>?_)
 induction a with
 |next=>exact Cl n
 |cont=>exact n
 |brk=>exact n
 |ret I=>exact n
def Fk(aq:xi k f){a:cv}(al:e4 b f h a){R:ce}(o:mE b.T d e a R=ar){W:List dn}{y:cV→bS→KS→Prop}(ah:F4 b f k c d e W y){K:KS}{L:dQ}{T:tZ→cM→Prop}
  (aa:∀r x,mV b c d e L K r x→T (.ok r) x) (ab:Nat) {j:bS} {l:cV} {i:cM} {g:dQ} (t:Le (cY c) L g) (v:At b f k g j i c d e l)
  (u:qb (zx (vE ⟨b.T,h⟩ a)) y K ab l j):mA (i5 b.dP b.w) k (.whileLoop R W [] c) T i:=by
 refine codeAny_whileLoop (fun p i=>∃g j l,Le (cY c) L g∧At b f k g j i c d e l∧qb (zx (vE ⟨b.T,h⟩ a)) y K p l j) ?_ ab ⟨g,j,l,t,v,u⟩
 rintro p i ⟨g,j,l,t,v,u⟩
 induction p with
 |zero=>exact u.elim
 |succ p=>
 refine (((al o v).m4 (K2:=lS _) _ (fun ai ai am=>am) u).ve (l:=fun a x=>TP b g _ a x) fun a ao X Q q w s=>⟨X,Q,q,w,s⟩).mQ fun a ao F=>?_
 refine bU fun n=>?_
 obtain ⟨X,Q,q,w,s⟩:=F
 refine n ?_;try clear n
 have o:=v.cc q w
 induction a with
 |false=>exact Cl (aa _ _ (.cc (t.ci q.vd) o.E w s))
 |true=>
  refine (ah _ o s).mQ fun r au F=>?_
  refine bU fun n=>?_
  obtain ⟨ag,P,Y,ac,ak,C,G,z,A⟩:=F
  refine n ?_;try clear n
  have I:=(t.ci q.vd).ci ak
  induction ag with
  |cc=>refine bT (show r=.next from G) ?_;exact ⟨p,h9 _,ac,Y,P,I,o.Bo C z,A⟩
  |gX=>refine bT (show r=.cont from G) ?_;exact ⟨p,h9 _,ac,Y,P,I,o.Bo C z,A⟩
  |cw ae=>
   refine bU fun n=>?_
   obtain ⟨af,rfl,an⟩:=G
   refine n ?_;try clear n
   exact aa _ _ ⟨.cw ae,_,_,_,I,C,⟨af,rfl,an⟩,z,A⟩
def Qm{q:Nat}{a:cv}{o:cW}(z:e4 b f h a)(x:tL b f h o):lW b f h (.p8 q a o):=fun {d e n k g j i c l} u s K y=>by
 apply Lh (d:=fun p n r I=>r.isEmpty&&mE b.T d e a p&&xn b.T d e o n) u
 intro p n r F C
 refine g7 C fun t w v=>?_
 apply iq t
 exact wpAny_While (Fk s.a z w (x v) (fun G L A=>A) q (.cy _) s y)
end
section
variable{d:Wd}{h:d8}{k:Nat}{l:cK}{b m:dQ}{g:bS}{j:cM}{c:du}{i:Sc}{e:fF}{f:cV}
def vj{o:Type}{a:List o}{n:Nat}{p:o}{r:List o}(q:a.drop n=p::r):a[n]? =O p∧a.drop (n+1)=r:=by
 have s:(a.drop n)[0]? =O p:=by refine bT q ?_;rfl
 rw [L8] at s
 exact ⟨s,by (refine gT Uj ?_;refine bT q ?_);rfl⟩
def pF(n:List Nat):nE c (cY c) e n:=fun a a a a a o=>o.h8
def yw{s:cz}{x:cz→Prop}{z:Nat→dQ→Prop}{A:Bool}{I:List bl}{w:cz→Prop}(C:It d h s A I x z)(L:∀a,x a→¬cY c a)(af:∀a,w a→cY c a){v:Nat}(q:At d k h b g j c i e f)(ag:z v b){T:bl}{u:List Nat}{t:ce}{K:cV→Prop}(al:I[v]? =O T)(ak:nE c w e u)(F:yZ u A e t=ar)(ah:jP f u A T K):
  Wp d h (pM (.ref s)) (fun W X=>∃p,W=O p∧Wp d h (vW t (.ref s) p) (fun o R=>Wp d h (lk t c p) (fun o G=>∃n r,Le (fun a=>x a∨w a) b n∧At d k h n g G c i e r∧z (v+1) n∧K r) R) X) j:=by
 refine (C.oU ag q.S al (Qk F)).cO fun W X y=>?_
 obtain ⟨p,ab,aq⟩:=y
 refine ⟨p,ab,aq.cO fun o R y=>?_⟩
 obtain ⟨av,P,Y,an,ao⟩:=y
 refine (De q.a.f8 Y (q.E.cO P L) ak F ao ah).cO fun o G ae=>?_
 obtain ⟨n,r,Q,au,am,aa⟩:=ae
 exact ⟨n,r,(P.up fun o=>.inl).ci (Q.up fun o=>.inr),q.Bo au am,C.cO an Q fun a ai ac=>L a ai (af a ac),aa⟩
def mi{n r:cz→Prop}{q:dQ}(u:∀a,n a→q.T a=b1)(p:Le (fun a=>n a∨r a) q b):Le r q ⟨b.F,b.T.h3 n,b.α⟩:=⟨p.F,p.α,fun a t=>by
 by_cases o:n a
 ·exact (o8 o:b.T.h3 n a=b1).trans (u a o).symm
 ·exact (ot o:b.T.h3 n a=_).trans (p.T a fun s=>s.elim o t)⟩
def Le.h3(a:cz→Prop):Le a b ⟨b.F,b.T.h3 a,b.α⟩:=⟨k4.cy _,jU _,fun o n=>ot n⟩
def eU.h3{a:cz→Prop}(p:eU d b c i e f)(o:∀n,a n→¬cY c n):eU d ⟨b.F,b.T.h3 a,b.α⟩ c i e f:=p.cO (Le.h3 a) o
def Li{Y:cz}{r:cz→Prop}{R:Nat→dQ→Prop}{u:Bool}{q:List bl}(C:It d h Y u q r R){A:dQ}(an:∀n,r n→A.T n=b1)(Q:∀n,r n→¬cY c n){s:List Nat}{af:ce}(aE:yZ s u e af=ar){am:List dn}{v:cV→bS→KS→Prop}(aG:F4 d k h c i e am v){K:KS}
  {ai:tZ→cM→Prop} (au:∀x aq,mV d c i e A K x aq→ai (.ok x) aq) {b:dQ} {g:bS} {j:cM} {f:cV} (z:At d k h b g j c i e f) (I:R 0 b) (L:Le (fun n=>r n∨cY c n) A b) (P:jZ v s u K q f g):mA (i5 d.dP d.w) h (.forLoop af (.ref Y) am [] c) ai j:=by
 refine codeAny_forLoop_any (fun ak j=>∃p a b g f,q.drop p=a∧p+a.length=q.length∧ak=a.length+1∧Le (fun n=>r n∨cY c n) A b∧At d k h b g j c i e f∧R p b∧jZ v s u K a f g) ?_ (q.length+1) ⟨0,q,b,g,f,rfl,kU _,rfl,L,z,I,P⟩
 rintro ak j ⟨p,a,b,g,f,w,av,rfl,L,z,I,P⟩
 induction a with
 |nil=>
  obtain rfl:p=q.length:=av
  refine (C.nz I z.S).mQ fun a aQ ⟨w,aJ⟩=>?_
  subst w
  exact Cl (au _ _ (.cc (mi an L) (z.E.h3 Q) aJ P))
 |cons aO a=>
  obtain ⟨aK,w⟩:=vj w
  refine (yw C Q (fun t aH=>aH) z I aK (pF s) aE P).mQ fun aR aQ y=>?_
  refine bU fun o=>?_
  obtain ⟨aU,aD,az⟩:=y
  refine o ?_;try clear o
  subst aD
  refine az.mQ fun t aW ay=>ay.mQ fun t aS y=>?_
  refine bU fun o=>?_
  obtain ⟨aT,aV,aL,ae,aM,aC⟩:=y
  refine o ?_;try clear o
  refine (aG _ ae aC).mQ fun x ab y=>?_
  refine bU fun o=>?_
  obtain ⟨aB,ac,ah,G,ag,aw,W,X,T⟩:=y
  refine o ?_;try clear o
  have ao:=(L.ci aL).ci (ag.up fun t=>.inr)
  have aa:=C.cO aM ag Q
  have al:jZ v s u K a ac ah→∃F,F<(aO::a).length+1∧∃p a b g f,q.drop p=a∧p+a.length=q.length∧F=a.length+1∧Le (fun n=>r n∨cY c n) A b∧At d k h b g ab c i e f∧R p b∧jZ v s u K a f g:=fun aP=>⟨a.length+1,h9 _,p+1,a,G,ah,ac,w,(y4 ..).trans av,rfl,ao,ae.Bo aw X,aa,aP⟩
  induction aB with
  |cc=>refine bT (show x=.next from W) ?_;exact al T
  |gX=>refine bT (show x=.cont from W) ?_;exact al T
  |cw F=>
   refine bU fun o=>?_
   obtain ⟨aA,rfl,aF⟩:=W
   refine o ?_;try clear o
   exact au _ _ ⟨.cw F,_,_,⟨G.F,G.T.h3 r,G.α⟩,mi an ao,aw.h3 Q,⟨aA,rfl,aF.cO (Le.h3 r)⟩,X.h3 r ab.toks (fun n aI=>C.y1 aa aI) fun t t t aN=>aN,T⟩
def YM{w:List Nat}{r:Bool}{p:ub}{s:cW}(ah:Lc d k l p)(X:tL d k l s):lW d k l (.fT w r p s):=fun {i e q h b g j c f} P o K Y=>by
 apply S8 (e:=fun t q u a aa=>a.isEmpty&&yZ w r e t&&Yl d.T i e p q&&xn d.T i e s u) P
 intro t q u a ao ai
 refine sA ai fun G R Q L=>?_
 apply iq G
 obtain ⟨af,T⟩:=ah Q o r _ Y
 refine wpAny_For (T.cO fun av an F=>F.cO fun am ay ac=>?_) af
 obtain ⟨au,aq,m,al,ab,A,ak,ag,y,x,I,ae,C,W⟩:=ac
 refine bT ae ?_
 have z:∀n,ab n→¬cY c n:=fun n a v=>o.E.h8 v (x n a)
 exact Li C x z R (X L) (fun v aw A=>A) (o.Bo (o.E.cO y z) I) W (y.up fun aa=>.inl) ag
end
section
variable{b:Wd}{e:d8}{k:Nat}{j:cK}{i m:dQ}{n:bS}{c:cM}{d:du}{h:Sc}{g:fF}{l:cV}
def vk(x:kc b){o f:cv}(G:e4 b k j o)(R:e4 b k j f){s q:ce}{y:cS}(A:mE b.T h g o s=ar)(W:mE b.T h g f q=ar)(u:At b k e i n c d h g l){r:cj}{t:bZ}(T:dU b i t r){K:bS→Prop}(I:QR (vE ⟨b.T,j⟩ o l) (vE ⟨b.T,j⟩ f l) K t n):Wp b e (lk (.Subscript s q y) d r) (TP b i fun (_:Unit) C=>K C) c:=by
 rw [arm_assign_Subscript]
 refine c5 (iH (((G A u).d7 _ I).vp fun ae Y al ac aa a w L F=>?_))
 refine c5 (iH (((R W (u.cc a L)).d7 _ F).vp fun X ah ai af ak p P v z=>c5 (oy ?_)))
 exact c5 (iH ((Da x v (w.cO p) P (T.cO (a.ci p)) z).cO fun ag ab Q=>GF (Q.hZ (a.ci p))))
def Jx{f:List ce}{a:ce}{o:cS}{K:KS}{p:KE}(x:Mq f a o.line d=ei b2)(y:vX f a d=ei b1)(u:Wp b e (fk a d) (VP b i p) c)(w:∀t q s r m,pY i m→dU b m s t→c7 b m r q→p s r→Wp b e (assignAll t ((tU f d).map (·.2))) (fun z v=>mV b d h g i K .next v) q):Wp b e (f9 (.Assign f a o) d) (mV b d h g i K) c:=
 Gz (u.vp w) x y
def BP.rQ{K:KS}{o:bS}{p:gl Unit}(q:pY i m)(v:Wp b e p (fun f a=>BP b d (cY d) h g m (fun l=>K .cc l o) o a) c):Wp b e p (fun f a=>mV b d h g i K .next a) c:=v.cO fun f f t=>by obtain ⟨x,y,w,s,u,r⟩:=t;exact .cc (q.vd.ci w) s u r
def Bp{o q:cz}{p:List cj}(z:q≠o):∀(f a:Nat)(c:cM)(r:List cj→cM→Prop),c.heap.IsListIter o q a→c.heap.IsList q p.toArray→a+f≤p.length→
  (∀t,t.IsListIter o q (a+f)→t5 o c.heap t→r ((p.drop a).take f) {c with heap:=t})→Wp b e (draw (.ref o) f) r c
 | 0,a,c,r,s,_,_,u=>fR (u c.heap s (Heap.SameBut.refl ..))
 |f+1,a,c,r,s,w,x,u=>by
  have y:a<p.length:=hH (B7 (nI f)) x
  refine c5 (m:=pM (.ref o)) (wpAny_pyNext_list_item s w (x:=p[a]) (tQ .. ▸gS y) fun K I v=>?_)
  have A:a+1+f=a+(f+1):=y4 a f
  refine c5 (iH (Bp z f (a+1) _ _ I (w.extBut v.extBut z) (A▸x) fun F C G=>fR ?_))
  have:=u F (A▸C) (v.trans G)
  rw [TR y] at this
  exact this
def Dh(C:e.handled=b1){a:cz}{f:List cj}{y:Nat}{t:List cj→cM→Prop}(o:c.heap.get? a=O (dl "list" f y))
  (A:∀v,Heap.ExtBut c.heap.objs.size c.heap v→t f {c with heap:=v}):Wp b e (Mu (.ref a) f.length b1) t c:=by
 have p:=eN o
 have r:a≠c.heap.objs.size:=kW (nV o)
 unfold Mu
 refine c5 (m:=GD (.ref a)) (vH (a:=b) (m:=b2) o ?_)
 refine c5 (m:=pK [.ref a] (kh (.ref a))) (iH (Mm p ?_))
 refine c5 (m:=pK [.ref c.heap.objs.size] (draw (.ref c.heap.objs.size) f.length)) (iH (Bp r f.length 0 _ _ ⟨_,oz _ rfl,rfl,rfl⟩ (p.push _) (jH (kU _)) fun I w q=>?_))
 (refine bT Ul ?_;refine bT eO ?_;refine bT (if_neg (B9 _)) ?_)
 rw [kU] at w
 refine c5 (iH (wpAny_pyNext_list_end C w ((p.push _).extBut q.extBut r) (tQ .. ▸Gl (dX _)) fun z F=>?_))
 exact fR (A z fun x u s G=>F x u s (q.extBut x u s (ng _ G)))
def Di{o:bZ}{f:List bl}(a:oe o=O f):∃s,o=.f (Dt (s,f)):=by
 refine bU fun p=>?_
 obtain ⟨u,t,a⟩:=cH a
 obtain ⟨q,r,rfl⟩:=dC a
 refine p ?_;try clear p
 exact ⟨q.1,(ik t).trans (congrArg bZ.f (te r))⟩
def B3{f:ce}(p:mx f=b2)(o:ce)(a:Nat):Mq [o] f a d=ei b2:=x4 p (O o) a
def Qn{f:List ce}{o:Nat}{q:cS}{a:ce}(p:(sh a).cQ.isSome=b2):vX [.Tuple f o q] a d=ei b1:=by
 cases a<;>first|rfl|exact dy p
def Qo{q:List Nat}{o:cv}(al:e4 b k j o):lW b k j (.i0 q o):=fun {h g aA e i n c d l} ac s K ak=>by
 apply lq (d:=fun r f I=>lr r fun a=>i9 a fun W I I=>!mx f&& !(sh f).cQ.isSome&&fX q g W&&mE b.T h g o f) ac
 intro r f y p
 refine qi (c:=fun r=>Wp b e (f9 (.Assign r f y) d) _ c) p fun a p=>lA (b:=fun a=>Wp b e (f9 (.Assign [a] f y) d) _ c) p fun Q A ai p=>sA p fun X ag v ab=>?_
 refine Jx (B3 (eC X) _ _) (Qn (eC ag)) ((al ab s).d7 _ ak) fun av x aw ah ay u T t ae=>?_
 refine bU fun F=>?_
 obtain ⟨L,aa,z⟩:=fj ae
 obtain ⟨a,rfl⟩:=Di aa
 have P:=(s.cc u t).E
 obtain ⟨an,G,az,rfl,C,w⟩:=mf (t:=Dt (a,L)) (n:=(a,L)) t T rfl (by induction a<;>rfl)
 refine F ?_;try clear F
 induction a with
 |true=>exact BP.rQ u (sE (A:=A) s.a.f8 t P (p:=G) (kb C) w (pF q) v z)
 |false=>
  obtain ⟨Y,af⟩:=BZ (b:=d) v
  have R:=wK z
  refine BP.rQ (o:=ah) u ?_
  show Wp b e (lk (.Tuple Q A ai) d (.ref an)) _ x
  rw [arm_assign_Tuple]
  refine c5 (oy ?_)
  unfold unpack
  rw [af,show (tU Q d).length=G.length by (refine gT Y ?_;refine bT (oV R) ?_;rewrite [et];refine bT w.cC ?_;rfl)]
  exact c5 (iH (Dh s.a.f8 C fun ao aq=>q7 (t.iO (m:=ao) x.toks fun au am o=>aq au am (kW (nV o)) o) P (pF q) v w.Zf R))
def Qp(ab:kc b){s r u:cv}(P:e4 b k j s)(aa:e4 b k j r)(X:e4 b k j u):lW b k j (.jc s r u):=fun {h g am e i n c d l} L t K W=>by
 apply lq (d:=fun p f z=>lr p fun o=>gW o fun y w z=>!mx f&&mE b.T h g s y&&mE b.T h g r w&&mE b.T h g u f) L
 intro p f x a
 refine qi (c:=fun p=>Wp b e (f9 (.Assign p f x) d) _ c) a fun o a=>kS (b:=fun o=>Wp b e (f9 (.Assign [o] f x) d) _ c) a fun y w ak a=>sA a fun F T Q G=>?_
 refine Jx (B3 (eC F) _ _) rfl ((X G t).d7 _ W) fun ae ac af ah ag q C Y R=>?_
 refine (vk ab P aa T Q (t.cc q Y) C R).ve fun z al ai an A v I=>?_
 exact .cc (q.ci A).vd (t.cc (q.ci A) v).E v I
end
noncomputable def qm(b:cV)(a:Nat×bZ):cV:=b.set a.1 (O a.2)
def tM(a:List (Nat×bZ))(b:cV):cV:=a.foldl qm b
def y3(a:ce):b4:=(N2 a).getD ⟨#[]⟩
section
variable{c:Wd}{i:d8}{j:Nat}{l:cK}{b k:dQ}{h:bS}{e:cM}{f:du}{g:Sc}{d:fF}{a:cV}
def Lj{K:cV→Prop}:∀{o:List Nat}{n:List bZ}{a:cV},zw o n a K→K (tM (o.zip n) a):=by
 intro o
 induction o with
 |nil=>
  intro n
  rcases n with _|⟨_,_⟩
  ·intro _ m
   exact m
  ·intro _ m
   exact m.elim
 |cons s o q=>
  intro n
  rcases n with _|⟨r,p⟩
  ·intro _ m
   exact m.elim
  ·intro a m
   exact q (n:=p) (tK m)
def Qq{n:Nat}{o:bZ}:∀{m:List (Nat×bZ)}{a:cV},n∉m.map (·.1)→tM m (a.set n (O o))=(tM m a).set n (O o):=by
 intro m
 induction m with
 |nil=>
  intro _ _
  exact rfl
 |cons p m r=>
  intro a s
  obtain ⟨q,t⟩:=not_or.mp (mt eP.mpr s)
  show tM m (qm (a.set n (O o)) p)=(tM m (qm a p)).set n (O o)
  refine gT (r t) ?_
  exact congrArg (tM m) (List.set_comm _ _ q)
def Qr:∀{m:List (Nat×bZ)}{a:cV},(m.map (·.1)).Nodup→tM m.reverse a=tM m a:=by
 intro m
 induction m with
 |nil=>
  intro _ _
  exact rfl
 |cons n m p=>
  intro a q
  obtain ⟨o,r⟩:=vU.mp q
  unfold tM
  (refine bT uN ?_;refine bT tR ?_)
  show qm (tM m.reverse a) n=tM m (qm a n)
  refine bT (p r) ?_
  exact (Qq o).symm
def r3(c:Wd)(d:fF)(b:dQ)(m:(Nat×bZ)×b4×cj):Prop:=((m.1.1,m.2.1)∈d)∧(dU c b m.1.2 m.2.2)
section
variable{p:Wd}{q:fF}{o:dQ}{m:(Nat×bZ)×b4×cj}(n:r3 p q o m)
include n
def r3.v:(m.1.1,m.2.1)∈q:=n.1
def r3.r:dU p o m.1.2 m.2.2:=n.2
end
def Qs:∀{m:List ((Nat×bZ)×b4×cj)}{a:cV}{b:dQ}{e:cM},c7 c b h e→eU c b f g d a→(∀n∈m,r3 c d b n)→
  Wp c i (qF ((m.map (·.2.1)).map fun p=>GO f p) (m.map (·.2.2))) (fun v F=>BP c f (cY f) g d b (fun G=>G=tM (m.map (·.1)) a) h F) e:=by
 intro m
 induction m with
 |nil=>
  intro a b e q r o
  exact Mj ⟨b,a,.cy _,r,q,rfl⟩
 |cons n m w=>
  intro a b e q r o
  have u:=o n (fD ..)
  show Wp c i (qF ((fun y=>GO f n.2.1 y)::(m.map (·.2.1)).map fun p=>GO f p) (n.2.2::m.map (·.2.2))) _ e
  rw [qF]
  refine c5 (iH (wpAny_bindName (q6 q r u.v u.r fun I L s C A=>?_)))
  exact (w A C fun n t=>⟨(o n (ia _ t)).v,(o n (ia _ t)).r.cO s⟩).cO fun v K z=>z.hZ (s.up fun v x=>x.h8)
def Bq:List Nat→List ce→List bZ→List cj→List ((Nat×bZ)×b4×cj)
 |o::r,t::n,p::s,q::m=>((o,p),y3 t,q)::Bq r n s m
 |_,_,_,_=>[]
def YN:∀{n:List Nat}{p:List ce}{m:List bZ}{o:List cj},fX n d p=ar→ee c b m o→n.length=m.length→
  (∀q∈Bq n p m o,r3 c d b q)∧(Bq n p m o).map (·.1)=n.zip m∧(Bq n p m o).map (·.2.1)=p.map y3∧(Bq n p m o).map (·.2.2)=o:=by
 intro n
 induction n with
 |nil=>
  intro p m
  rcases m with _|⟨_,_⟩
  ·intro o u y _
   (refine bT (l0.mp u) ?_;refine bT (show o=[] from y) ?_);exact ⟨(fun q x=>absurd x gD),rfl,rfl,rfl⟩
  ·intro _ _ _ v
   exact pG v
 |cons t n C=>
  intro p m
  rcases m with _|⟨r,m⟩
  ·intro _ _ _ v
   exact pG v
  ·intro o u y v
   refine bU fun w=>?_
   obtain ⟨s,o,rfl,F,L⟩:=y
   refine w ?_;try clear w
   refine d3 (e:=fun p=>(∀q∈Bq (t::n) p (r::m) (s::o),r3 c d b q)∧(Bq (t::n) p (r::m) (s::o)).map (·.1)=(t::n).zip (r::m)∧(Bq (t::n) p (r::m) (s::o)).map (·.2.1)=p.map y3∧(Bq (t::n) p (r::m) (s::o)).map (·.2.2)=s::o) u fun q p u=>?_
   refine k7 (a:=fun q=>(∀x∈Bq (t::n) (q::p) (r::m) (s::o),r3 c d b x)∧(Bq (t::n) (q::p) (r::m) (s::o)).map (·.1)=(t::n).zip (r::m)∧(Bq (t::n) (q::p) (r::m) (s::o)).map (·.2.1)=(q::p).map y3∧(Bq (t::n) (q::p) (r::m) (s::o)).map (·.2.2)=s::o) u fun R Q u=>f4 u fun G P=>?_
   refine bU fun w=>?_
   obtain ⟨K,I,A,z⟩:=C P L (mB v)
   refine w ?_;try clear w
   exact ⟨lY.mpr ⟨⟨rb.mp G,F⟩,K⟩,congrArg (_:: ·) I,congrArg (_:: ·) A,congrArg (_:: ·) z⟩
def z6{r t:Type}{p:r→Option t}{b:r→t}:∀{m:List r},(∀o∈m,∀n,p o=O n→n=b o)→(m.filterMap p).length=m.length→m.filterMap p=m.map b:=by
 intro m
 induction m with
 |nil=>
  intro _ _
  exact rfl
 |cons o m w=>
  intro u q
  cases s:p o with
  |some n=>
   rw [L0 s] at q⊢
   (refine bT (w (fun n v=>u n (ia _ v)) (mB q)) ?_;refine bT (u o (fD ..) n s) ?_);rfl
  |none=>
   rw [List.filterMap_cons_none s] at q
   exact absurd (vN p m) (q▸LP _)
end
section
variable{b:Wd}{d:d8}{h:Nat}{i:cK}{k m:dQ}{j:bS}{e:cM}{c:du}{g:Sc}{f:fF}{l:cV}
def Qt:∀{r:List Nat}{a:List ce},fX r f a=ar→∀q∈a,∃o n,q=.Name o n:=by
 intro r
 induction r with
 |nil=>
  intro a p
  refine bT (l0.mp p) ?_;exact fun q t=>absurd t gD
 |cons v r u=>
  intro a p
  exact d3 (e:=fun a=>∀q∈a,∃o n,q=.Name o n) p fun s a p=>k7 (a:=fun s=>∀q∈s::a,∃o n,q=.Name o n) p fun o n p=>lY.mpr ⟨⟨o,n,rfl⟩,u (gq p).2⟩
def z7{y:List Nat}{a n:List ce}{q t:Nat}{p s:cS}(z:fX y f a=ar)(r:(!(n.all (Mn 8))||n.all (Mp 8))=ar):
  vX [.Tuple a q p] (.Tuple n t s) c=ei b1∨vX [.Tuple a q p] (.Tuple n t s) c=ei (O (a.map y3)):=by
 unfold vX
 dsimp only
 split
 ·exact .inl rfl
 split
 ·exact .inl rfl
 split
 ·exact .inl rfl
 split
 ·exact .inl rfl
 rename_i w x
 rw [r5.mpr x,vK] at r
 refine bT (eC r) ?_
 refine .inr ?_
 have o:=(not_or.mp (mt nR.mpr w)).1
 rw [bne_iff_ne,Decidable.not_not] at o
 have:=z6 (b:=y3) (fun C A F v=>?_) o
 ·show (ei (O _):gl (Option (List b4)))=_
  (refine bT this ?_;rfl)
 ·refine bU fun u=>?_
  obtain ⟨I,G,rfl⟩:=Qt z C A
  refine u ?_;try clear u
  exact (dg (eB v).2).symm
def Jy{r:dS}(L:vh b h i r){u:List ce}{C:Nat}{F:cS}(z:ti b.T g f r u=ar)(Q:At b h d k j e c g f l){K:List bZ→bS→Prop}{w:Nat}(P:w≤100000)(I:II ⟨b.T,i⟩ r l j fun a j=>lu (sn a.length w) fun W=>K a j){t:cj→cM→Prop}
  (T:∀v p a o n q,pY k n→ee b n a p→c7 b n o q→q.heap.IsTuple v p.toArray→K a o→t (.ref v) q):Wp b d (fk (.Tuple u C F) c) t e:=
 Mk ((L z Q _ _ I).ms fun p q a o n y s R A=>by
  obtain ⟨G,x⟩:=tj A
  exact ⟨qU (s.cC.symm▸cr G P),T _ p a o n _ y s (R.d0 _) (kb (oz _ rfl)) x⟩)
def F5{n o:Type}{q:n→o}{a:List n}{p:List o}(r:a.map q=p):a.reverse.map q=p.reverse:=List.map_reverse.trans (congrArg List.reverse r)
def Lk{v:List Nat}{W:dS}(al:vh b h i W):lW b h i (.ep v W):=fun {g f aJ d k j e c l} ay r K ak=>by
 apply lq (d:=fun I q x=>lr I fun p=>i9 p fun a x x=>i9 q fun y x x=>fX v f a&&dY v.Nodup&&(!(y.all (Mn 8))||y.all (Mp 8))&&ti b.T g f W y) ay
 intro I q G o
 refine qi (c:=fun I=>Wp b d (f9 (.Assign I q G) c) _ e) o fun p o=>lA (b:=fun p=>Wp b d (f9 (.Assign [p] q G) c) _ e) o fun a u ai o=>lA (b:=fun q=>Wp b d (f9 (.Assign _ q G) c) _ e) o fun y ac aq o=>sA o fun F aB az ae=>?_
 rcases z7 (c:=c) (q:=u) (t:=ac) (p:=ai) (s:=aq) F az with L|L
 ·refine Gz (Jy al ae r (w:=1000) (by decide) ak fun am P an ag ab C s A z w t=>?_) rfl L
  obtain ⟨av,aA⟩:=BZ (b:=c) F
  refine BP.rQ (o:=ag) s (Ml (x1:=u) r.a.f8 w (by (refine gT av ?_;refine bT (oV t) ?_;refine bT iy ?_;refine bT A.cC ?_;rfl)) aA fun R T=>?_)
  exact q7 (z.iO (m:=R) C.toks fun X Q n=>T X Q (kW (nV n)) n) (r.cc s z).E (pF v) F A t
 ·refine bT (show f9 (.Assign [.Tuple a u ai] (.Tuple y ac aq) G) c=_ from exec_Assign_arm ..) ?_
  refine c5 (oy (c5 (m:=Mq _ _ _ _) (fR (c5 (m:=fk _ _) (Jy al ae r (w:=1000) (by decide) ak fun am P an ag ab C s A z w t=>?_)))))
  refine bT L ?_
  refine c5 (fR ?_)
  show Wp b d (do
   rule "assign.swapped-stores"
   let aE ← Mu (.ref am) (a.map y3).length b1
   qF ((a.map y3).reverse.map fun u=>GO c u) aE.reverse
   ei Flow.next:gl Flow) _ C
  have af:=oV t
  refine bU fun ah=>?_
  obtain ⟨aC,aw,aa,Y⟩:=YN (c:=b) (b:=ab) F A af
  refine ah ?_;try clear ah
  have aF:(a.map y3).length=P.toArray.size:=by (refine gT aa ?_;refine bT iy ?_;rw [et]);exact (et ..).symm.trans (congrArg qE Y)
  refine bT aF ?_
  refine c5 (Mv (c5 (wpAny_unpackItems_tuple r.a.f8 w fun R T=>?_)))
  have ao:=Qs (i:=d) (z.iO (m:=R) C.toks fun X Q n=>T X Q (kW (nV n)) n) (r.cc s z).E (m:=(Bq v a an P).reverse) fun p w=>aC p (List.mem_reverse.mp w)
  rw [F5 aw,F5 aa,F5 Y,Qr (by refine bT (Uf (jH af)) ?_;exact of_decide_eq_true aB)] at ao
  refine c5 (Wp.cO ao fun x aI aH=>?_)
  obtain ⟨aL,aK,aG,aD,au,n⟩:=aH
  refine fR (.cc (s.vd.ci aG) aD au ?_)
  refine bT n ?_
  exact Lj t
def Qu{v a s w:ce}{r q:ce}{t o:Nat}{x u p n:cS}:vX [.Tuple [.Subscript v r p,.Subscript a q n] t x] (.Tuple [s,w] o u) c=ei b1:=by
 unfold vX
 dsimp only
 split
 ·rfl
 split
 ·rfl
 rfl
def Ll(al:kc b){w Q T W R u:cv}(aW:e4 b h i w)(aw:e4 b h i Q)(aG:e4 b h i T)(aR:e4 b h i W)(aq:e4 b h i R)(aY:e4 b h i u):lW b h i (.oW w Q T W R u):=fun {g f av d k j e c l} aF s K aZ=>by
 apply lq (d:=fun A n r=>lr A fun z=>i9 z fun p r r=>fO p fun x p=>lr p fun t=>gW x fun L G r=>gW t fun F aD r=>i9 n fun q r r=>fO q fun y q=>lr q fun I=>!jy y&& !jy I&&(mE b.T g f w L&&mE b.T g f Q G&&mE b.T g f T F&&mE b.T g f W aD&&mE b.T g f R y&&mE b.T g f u I)) aF
 intro A n o a
 refine qi (c:=fun A=>Wp b d (f9 (.Assign A n o) c) _ e) a fun z a=>lA (b:=fun z=>Wp b d (f9 (.Assign [z] n o) c) _ e) a fun p v C a=>d3 (e:=fun p=>Wp b d (f9 (.Assign [.Tuple p v C] n o) c) _ e) a fun x p a=>qi (c:=fun p=>Wp b d (f9 (.Assign [.Tuple (x::p) v C] n o) c) _ e) a fun t a=>kS (b:=fun x=>Wp b d (f9 (.Assign [.Tuple [x,t] v C] n o) c) _ e) a fun L G aB a=>kS (b:=fun t=>Wp b d (f9 (.Assign [.Tuple [_,t] v C] n o) c) _ e) a fun aE a5 ay a=>
  lA (b:=fun n=>Wp b d (f9 (.Assign _ n o) c) _ e) a fun q am F a=>d3 (e:=fun q=>Wp b d (f9 (.Assign _ (.Tuple q am F) o) c) _ e) a fun y q a=>qi (c:=fun q=>Wp b d (f9 (.Assign _ (.Tuple (y::q) am F) o) c) _ e) a fun I a=>g7 a fun aH aA a=>Zn a fun an a aN aQ aX aU=>?_
 refine Gz (Mk (jh (eC aH) (((aq aX s).d7 _ aZ).vp fun ae bk bc a9 bj ai aM aJ aO=>jh (eC aA) (((aY aU (s.cc ai aJ)).d7 _ aO).vp fun ab ag bh ao az aa aS aL aV=>G0 ⟨qU (show 2≤100000 by decide),?_⟩)))) rfl Qu
 refine Ml (x1:=v) (items:=[ae,ab].toArray) s.a.f8 ⟨_,oz _ rfl,rfl,0,rfl⟩ rfl rfl fun a4 au=>?_
 have a6:c7 b az ao {ag with heap:=a4,toks:=ag.toks}:=(aL.d0 _).iO _ fun u w ah=>au u w (kW (nV ah)) ah
 refine bU fun ac=>?_
 obtain ⟨av,rfl,aT⟩:=td aV
 obtain ⟨be,rfl,aC⟩:=td aT
 refine ac ?_;try clear ac
 show Wp b d (qF [fun n=>lk (.Subscript L G aB) c n,fun n=>lk (.Subscript aE a5 ay) c n] [ae,ab]) _ _
 rw [qF]
 have af:=ai.ci aa
 refine c5 (iH ((vk al aW aw an a (s.cc af a6) (aM.cO aa) aC).ve fun r bf bg a8 X aK aP=>?_))
 rw [qF]
 have P:=af.ci X
 refine c5 (iH ((vk al aG aR aN aQ (s.cc P aK) (aS.cO X) aP).ve fun r ba bb a7 Y ak aI=>?_))
 exact Mj (.cc (P.ci Y).vd (s.cc (P.ci Y) ak).E ak aI)
end
noncomputable def nF(d:List ce)(a:du):gl Bool:=forIn d ar fun b c=>if c=ar then do let e ← Cq b a (fk b a);ei (zq e) else ei (zq c)
noncomputable def k9(i f:ce)(g:List jV)(d:Nat)(e:cj)(a:du):gl Unit:=g[d+1]?.elim (do let _ ← gg (.builtin "list.append") [e,← fk f a]) fun c=>do
 let b ← fk c.iter a
 qJ c.iter.pos
 let b ← vV c.iter a b
 let h ← pK [b] (kh b)
 let _ ← runOwn (.compStart i (d+1) h e a) a
 ei ()
def Br(a:jV)(d:cj)(c:du)(e g:gl Fin):gl Fin:=do
 qJ a.iter.pos
 match ← pM d with
 |none=>ei (.done .next)
 |some b=>
  vW a.target d b
  lk a.target c b
  let f ← nF a.ifs c
  if f then e else g
section
variable{b:Wd}{e:d8}{m:tZ→cM→Prop}{d:cM}{h:ce}{a:List jV}{k:ji}{j:cS}{f:Nat}{g l:cj}{c:du}{i:jV}
def Lm(r:a[f]? =O i)(q:∀(t:Nat)(o:jV),a[t]? =O o→o.is_async=0):compTurn (.ListComp h a k j) f g l c=Br i g c (do
   k9 (.ListComp h a k j) h a f l c
   again (.compLoop (.ListComp h a k j) f g l c)) (again (.compLoop (.ListComp h a k j) f g l c)):=by
 have p:=q _ _ r
 refine bU fun n=>?_
 obtain ⟨C,z,u,x⟩:=i
 refine n ?_;try clear n
 subst p
 unfold compTurn Br k9
 dsimp only
 refine bT r ?_
 cases s:a[f+1]? with
 |none=>rfl
 |some o=>
  have p:=q _ _ s
  refine bU fun n=>?_
  obtain ⟨y,A,w,v⟩:=o
  refine n ?_;try clear n
  subst p
  simp only [Option.elim_some,LawfulMonad.bind_assoc,LawfulMonad.pure_bind]
  rfl
def Iq{s:cM→Prop}{w:gl Unit}{u:PySem.Code}
  (I:Wp b e (pM g) (fun v n=>v.elim (m (.ok .next) n) fun r=>Wp b e (vW i.target g r) (fun o n=>Wp b e (lk i.target c r) (fun o A=>
   Wp b e (nF i.ifs c) (fun q t=>cond q (Wp b e w (fun o y=>s y) t) (s t)) A) n) n) d):
  Wp b e (Br i g c (do w;again u) (again u)) (fun C z=>(C=.again u∧s z)∨(C=.done .next∧m (.ok .next) z)) d:=by
 unfold Br
 refine c5 (oy (c5 (I.cO fun v n p=>?_)))
 induction v with
 |none=>exact fR (.inr ⟨rfl,p⟩)
 |some r=>
  refine c5 (Wp.cO p fun o n p=>c5 (Wp.cO p fun o A F=>c5 (Wp.cO F fun q t x=>?_)))
  induction q with
  |false=>exact fR (.inl ⟨rfl,x⟩)
  |true=>exact c5 (Wp.cO x fun o y G=>fR (.inl ⟨rfl,G⟩))
def Ln(K:a[f]? =O i)(z:∀(F:Nat)(t:jV),a[F]? =O t→t.is_async=0)(p:Nat→cM→Prop)
  (G:∀o d,p o d→Wp b e (pM g) (fun P r=>P.elim (m (.ok .next) r) fun v=>Wp b e (vW i.target g v) (fun u r=>Wp b e (lk i.target c v) (fun u I=>
   Wp b e (nF i.ifs c) (fun x s=>cond x (Wp b e (k9 (.ListComp h a k j) h a f l c) (fun u y=>∃n,n<o∧p n y) s) (∃n,n<o∧p n s)) I) r) r) d)
  (o:Nat) (C:p o d):mA (i5 b.dP b.w) e (.compLoop (.ListComp h a k j) f g l c) m d:=by
 refine codeAny_loop rfl p (fun o d w=>?_) o C
 show n9 _ e ((compTurn (.ListComp h a k j) f g l c).onRaise (fun q=>do noteFrame q c;theTreesLotGoes q)) _ _ d
 refine bT (Lm K z) ?_
 refine wpAny_noted ((Iq (s:=fun d=>∃n,n<o∧p n d) (G o d w)).mQ fun Q R q=>?_)
 rcases q with ⟨rfl,n,A,L⟩|⟨rfl,q⟩
 ·exact ⟨rfl,n,A,L⟩
 ·exact q
def yx(u:a[f]? =O i)(x:i.is_async=0)
  (q:mA (i5 b.dP b.w) e (.compLoop (.ListComp h a k j) f g l c) m d)
  (v:Wp b e (kh g) (fun n o=>mA (i5 b.dP b.w) e (.compLoop (.ListComp h a k j) f n l c) m o) d):
  mA (i5 b.dP b.w) e (.compStart (.ListComp h a k j) f g l c) m d:=by
 refine codeAny_of_tree ?_
 show n9 _ _ ((compStart (.ListComp h a k j) f g l c).onRaise (fun t=>do noteFrame t c;qJ theWindowsPlace)) _ _ d
 refine wpAny_notedAt ?_
 refine bU fun p=>?_
 obtain ⟨w,n,r,y⟩:=i
 refine p ?_;try clear p
 subst x
 unfold compStart
 refine bT (show (clausesOf (.ListComp h a k j))[f]? =O ⟨w,n,r,0⟩ from u) ?_
 show n9 _ _ (ask>>=_) _ _ d
 refine c5 (wpAny_askSetting (wpAny_ite ?_))
 split
 ·first
   |exact c5 (fR (fR (And.intro rfl q)))
   |exact wpAny_pure (And.intro rfl q)
 ·refine c5 (Mv ?_)
  show n9 _ _ (qJ n.pos>>=_) _ _ d
  exact c5 (oy (c5 (v.mQ fun n o s=>fR (And.intro rfl s))))
end
def Bs(a:Wd)(l:Nat)(m:cK)(h:dS):Prop:=∀{c:Sc}{i:fF}{d:List ce}{k:d8}{b:dQ}{j:bS}{e:cM}{g:du}{f:cV},ti a.T c i h d=ar→At a l k b j e g c i f→∀K:Bool→bS→Prop,mn ⟨a.T,m⟩ h f j K→Wp a k (nF d g) (TP a b K) e
inductive CP(W:Wd)(env:du)(sc:Sc)(e9:fF)(D:cz)(g:dQ)(ρ:cV)(lim:Nat→Prop)(K:KL)(s':cM):Prop
 |mk (acc:List bl) (AO:bS) (g':dQ) (us:List cj) (n:Nat) (le:Le (fun a=>a=env.locals∨a=D) g g') (E:eU W g' env sc e9 ρ) (S:c7 W g' AO s') (hT:g'.T D=O (dl "list" us n)) (r:dB W g'.F acc us) (hl:lim acc.length) (k:K acc AO)
def HA(a:Wd)(n:d8)(o:Nat)(g:du)(l:Sc)(m:fF)(k:cz)(r:List Nat)(j:Bool)(q:cV→bS→List bl→KL→Prop)(p:gl Unit):Prop:=∀{d:dQ}{h:bS}{f:cM}{c:cV}{b:List bl}{i:List cj}{e:Nat}(K:KL),
 At a o n d h f g l m c→d.T k=O (dl "list" i e)→dB a d.F b i→(∀s∈r,c[s]?.join=b1)→(j=ar→b.length≤2000000)→q c h b K→Wp a n p (fun t=>CP a g l m k d c (fun e=>j=ar→e≤b.length+1) K) f
section
variable{b:Wd}{t:d8}{u:Nat}{s:cK}{f v:dQ}{g:bS}{q:cM}{e:du}{o:Sc}{j:fF}{c:cV}{d:cz}
def Lo{a:List ce}{h:Bool→cM→Prop}(n:h b2 q):Wp b t (forIn a b2 fun i k=>if k=ar then do let l ← Cq i e (fk i e);ei (zq l) else ei (zq k)) h q:=by
 induction a with
 |nil=>refine bT Gu ?_;exact fR n
 |cons p a m=>rw [Gs];exact c5 (fR m)
def abj:Bs b u s .N:=fun {o j a t f g q e c} i k K h=>by
 refine iq (c:=fun a=>Wp b t (nF a e) _ q) i ?_
 unfold nF
 refine bT Gu ?_
 exact fR ⟨_,_,.cy _,k.S,h⟩
def N7{r:cv}{k:dS}(I:e4 b u s r)(w:Bs b u s k):Bs b u s (.J r k):=fun {o j i t f g q e c} h n K G=>by
 refine d3 (e:=fun i=>Wp b t (nF i e) _ q) h fun Q i h=>g7 h fun m z C=>?_
 unfold nF
 rw [Gs]
 refine c5 (c5 (((I z n).m4 (fun y g=>pT y (mn ⟨b.T,s⟩ k c g K) (K b2 g)) (fun m m L=>L) G).ve fun F P A x a p l=>fR ?_))
 induction F with
 |false=>exact Lo ⟨A,x,a,p,l⟩
 |true=>exact (w C (n.cc a p) K l).ux a
def Ir(n:c7 b f g q){a:List cj}{m:Nat}(k:f.T d=O (dl "list" a m))(x:a.length≤2000000)(h:cj):
  Wp b t (gg (.builtin "list.append") [.ref d,h]) (fun z w=>∃r,c7 b ⟨f.F,f.T.d6 d (dl "list" (a++[h]) r),f.α⟩ g w) q:=by
 have i:=n.hN _ _ k
 have p:a.toArray.size≤lP:=by refine bT iy ?_;exact cr x (by decide)
 have l:=U6 (h:=q.heap) (l:=d) i (fun y=>y.push h)
 rw [Ub] at l
 exact zh MD ⟨_,i,rfl⟩ UP (UO _ _) (Uo d a.toArray m h p) ⟨i,_,n.QY (r:=q.toks) k (U5 ..) l⟩
def eU.off(i:eU b f e o j c)(k:¬cY e d)(l:ea):eU b ⟨f.F,f.T.d6 d l,f.α⟩ e o j c:=
 i.cO (v:=fun h=>h=d) ⟨k4.cy _,jU _,fun h a=>di.fe _ _ a⟩ fun h a m=>k (a▸m)
def YO{h:cv}(Q:e4 b u s h){x:ce}(F:mE b.T o j h x=ar)(W:¬cY e d){T:List Nat}:HA b t u e o j d T ar (JH (vE ⟨b.T,s⟩ h)) (do let _ ← gg (.builtin "list.append") [.ref d,← fk x e]):=fun {f g q c I n ae} K p z w _ X P=>by
 refine c5 (((Q F p).d7 _ P).vp fun i ab ac L k a A r G=>?_)
 refine bU fun m=>?_
 obtain ⟨Y,rfl,C⟩:=td G
 refine m ?_;try clear m
 refine c5 ((Ir r ((a.T d id).trans z) (w.cC.symm▸X rfl) i).cO fun _ ah ⟨l,y⟩=>fR ?_)
 exact ⟨I++[Y],L,⟨k.F,k.T.d6 d (dl "list" (n++[i]) l),k.α⟩,n++[i],l,a.vd.ci ⟨k4.cy _,jU _,fun ag aa=>di.fe _ _ fun R=>aa (.inr R)⟩,(p.cc a r).E.off W _,y,di.eF _ _ _,(w.cO a.F).NX (.o9 A),fun af=>jH dZ,C⟩
def Jz{K l:cV→Prop}:∀{c:cV}{a:Nat}{h:bZ},wf c a h K→(K (c.set a (O h))→l (c.set a (O h)))→wf c a h l
 |_::_,0,_,k,m=>m k
 |n::i,a+1,h,k,m=>Jz (K:=fun i=>K (n::i)) (l:=fun i=>l (n::i)) (c:=i) (a:=a) k m
def EF{K r:cV→Prop}:∀{k:List Nat}{h:List bl}{c:cV},qL k h c K→(∀l,(∀i,i∉k→l[i]? =c[i]?)→K l→r l)→qL k h c r:=by
 intro k
 induction k with
 |nil=>
  intro h
  rcases h with _|⟨_,_⟩
  ·intro c a n
   exact n c (fun w w=>rfl) a
  ·intro _ a _
   exact a.elim
 |cons y k x=>
  intro h
  rcases h with _|⟨C,h⟩
  ·intro _ a _
   exact a.elim
  ·intro c a n
   exact Jz a fun z=>x z fun l A=>n l fun i p=>(A i fun m=>p (ia _ m)).trans (pi (show y≠i from fun m=>p (m▸fD ..)))
def Tc{K m:cV→Prop}{k:List Nat}{h:bl}(n:∀l,(∀i,i∉k→l[i]? =c[i]?)→K l→m l):∀{p:Bool},jP c k p h K→jP c k p h m
 |true,a=>by
  obtain ⟨r,rfl,a⟩:=Qj a
  exact EF a n
 |false,a=>EF (h:=[h]) a n
def eU.fw{l:cV}(h:eU b f e o j l)(p:∀(k:Nat)(a:bZ),c[k]?.join=O a→l[k]?.join=O a):eU b f e o j c:=
 {h with mT:=fun m n=>(h.mT m n).imp fun w i=>⟨i.1,fun a r=>i.2 a (p _ _ r)⟩}
inductive LI(b:Wd)(t:d8)(u:Nat)(s:cK)(e:du)(o:Sc)(j:fF)(c:cV)(d:cz)(own:cz→Prop)(P:Nat→dQ→Prop)(acz:dQ)(xs:List bl)(el:Bool)(k:List bl→bS→List bl→Prop)(m:Nat)(q:cM):Prop
 |mk (i:Nat) (r:List bl) (f:dQ) (g:bS) (acc:List bl) (us:List cj) (n:Nat) (hr:xs.drop i=r) (hi:i+r.length=xs.length) (hm:m=r.length+1) (l:Le (fun a=>own a∨a=e.locals∨a=d) acz f) (h:At b u t f g q e o j c) (p:P i f) (hT:f.T d=O (dl "list" us n)) (hus:dB b f.F acc us) (ha:el=ar→acc.length≤1000000+i) (k:k r g acc)
def JA{aL:cz}{z:cz→Prop}{ah:Nat→dQ→Prop}{A:Bool}{x:List bl}(aC:It b t aL A x z ah)(bh:x.length≤1000000){P:dQ}(bn:∀a,z a→P.T a=b1)(aq:∀a,z a→¬cY e a)(am:¬z d)(bc:¬cY e d)
  {n:List Nat} {aB:ce} {Y:List jV} {aP:ji} {aF:cS} {X:Nat} {ao:jV} (a4:Y[X]? =O ao) (bw:∀(X:Nat)(v:jV),Y[X]? =O v→v.is_async=0) (ba:nE e (fun a=>a=e.locals) j n) (a8:yZ n A j ao.target=ar)
  {w:dS} (aZ:Bs b u s w) (bv:ti b.T o j w ao.ifs=ar) {y:cV→bS→List bl→KL→Prop} {aK:List Nat} {ag:Bool} (bA:HA b t u e o j d aK ag y (k9 (.ListComp aB Y aP aF) aB Y X (.ref d) e)) (aX:∀h∈n,c[h]?.join=b1) (aJ:∀h∈aK,h∉n∧c[h]?.join=b1) {K:KL}
  {aQ:tZ→cM→Prop} (aY:∀aT,CP b e o j d P c (fun I=>True) K aT→aQ (.ok .next) aT) {f:dQ} {g:bS} {q:cM} {l:List bl} {G:List cj} {W:Nat} (C:At b u t f g q e o j c) (ak:ah 0 f) (ac:Le (fun a=>z a∨a=e.locals∨a=d) P f)
  (ai:f.T d=O (dl "list" G W)) (k:dB b f.F l G) (aa:l.length≤1000000) (al:og (Af (mn ⟨b.T,s⟩ w) y) c n A x g l K):mA (i5 b.dP b.w) t (.compLoop (.ListComp aB Y aP aF) X (.ref aL) (.ref d) e) aQ q:=by
 refine Ln a4 bw (LI b t u s e o j c d z ah P x ag fun k g l=>og (Af (mn ⟨b.T,s⟩ w) y) c n A k g l K) ?_ (x.length+1) ⟨0,x,f,g,l,G,W,rfl,kU _,rfl,ac,C,ak,ai,k,fun I=>aa,al⟩
 rintro aw q ⟨aO,k,f,g,l,G,W,R,aI,rfl,ac,C,ak,ai,av,aa,al⟩
 induction k with
 |nil=>
  obtain rfl:aO=x.length:=aI
  refine (aC.nz ak C.S).cO fun k bE ⟨R,bb⟩=>?_
  subst R
  exact aY _ ⟨l,g,_,G,W,mi bn ac,C.E.h3 aq,bb,(ot am).trans ai,av,trivial,al⟩
 |cons h k=>
  obtain ⟨L,R⟩:=vj R
  have bq:=(fJ.mp L).1
  refine (yw aC aq (fun a i=>.inl i) C ak L ba a8 (Tc (m:=fun aD=>(∀ay,ay∉n→aD[ay]? =c[ay]?)∧Af (mn ⟨b.T,s⟩ w) y aD g l (Vs (og (Af (mn ⟨b.T,s⟩ w) y) c n A k) K)) (fun aD p bC=>⟨p,bC⟩) al)).cO fun bG bE Q=>?_
  refine bU fun r=>?_
  obtain ⟨ae,aV,a7⟩:=Q
  refine r ?_;try clear r
  subst aV
  refine a7.cO fun I bM bg=>bg.cO fun I bI Q=>?_
  refine bU fun r=>?_
  obtain ⟨aR,aH,af,an,bB,aE,bu⟩:=Q
  refine r ?_;try clear r
  have bx:=ac.ci (af.up fun a i=>i.imp id .inl)
  have aM:aR.T d=O (dl "list" G W):=(af.T d fun i=>i.elim am fun i=>bc (.inl i)).trans ai
  have a9:∀(h:Nat)(ae:bZ),c[h]?.join=O ae→aH[h]?.join=O ae:=fun h ae p=>(congrArg Tp (aE h fun i=>by rw [aX h i] at p;exact cG p)).trans p
  have aN:∀{F:dQ}{aA:bS}{az:cM}{au:List bl}{aG:List cj}{bo:Nat},Le (fun a=>a=e.locals∨a=d) aR F→eU b F e o j aH→c7 b F aA az→F.T d=O (dl "list" aG bo)→dB b F.F au aG→(ag=ar→au.length≤l.length+1)→og (Af (mn ⟨b.T,s⟩ w) y) c n A k aA au K→
    ∃aw,aw<(h::k).length+1∧LI b t u s e o j c d z ah P x ag (fun k g l=>og (Af (mn ⟨b.T,s⟩ w) y) c n A k g l K) aw az:=fun m a6 T bD aW be ab=>
   ⟨k.length+1,h9 _,aO+1,k,_,_,_,_,_,R,(y4 ..).trans aI,rfl,bx.ci (m.up fun I=>.inr),C.Bo (a6.fw a9) T,aC.cO bB m fun a aS i=>i.elim (fun i=>aq a aS (.inl i)) fun i=>am (i▸aS),bD,aW,fun p=>cr (be p) (iF (aa p)),ab⟩
  refine (aZ bv an _ bu).ve fun bj az aA F m T ab=>?_
  induction bj with
  |false=>exact aN m.vd (an.cc m T).E T ((m.T d id).trans aM) (av.cO (af.F.ci m.F)) (fun I=>fM _) ab
  |true=>
   refine (bA _ (an.cc m T) ((m.T d id).trans aM) (av.cO (af.F.ci m.F)) (fun h L=>(congrArg Tp (aE h (aJ h L).1)).trans (aJ h L).2) (fun p=>cr (aa p) (jq (cr (iG bq) bh) _)) ab).cO fun I bL Q=>?_
   refine bU fun r=>?_
   obtain ⟨bH,bN,bK,bF,bJ,bk,a5,bp,aU,bz,bf,bm⟩:=Q
   refine r ?_;try clear r
   exact aN (m.vd.ci bk) a5 bp aU bz bf bm
end
def Lp(e:du)(d:Sc)(c:List (b4×cz)):Prop:=(∀a b,c.lookup a=O b→e.cells.lookup a=O b)∧(∀a,(a,pP)∈d→∃b,c.lookup a=O b)
section
variable{d:du}{c:Sc}{a:List (b4×cz)}(b:Lp d c a)
include b
def Lp.fw:∀f e,a.lookup f=O e→d.cells.lookup f=O e:=b.1
def Lp.all:∀e,(e,pP)∈c→∃f,a.lookup e=O f:=b.2
end
def mj(b:ji)(c:Sc):Prop:=(b.kind=.function)∧(∀a∈b.names,a.2≠ .cell)∧(∀a∈b.names,a.2=.local→b.names.lookup a.1=O .local)∧(∀a∈b.names,a.2=.free→c.lookup a.1=O .cell∧b.names.lookup a.1=O .free∧(a.1==("__classdict__":b4))=b2)
section
variable{a:ji}{c:Sc}(b:mj a c)
include b
def mj.dm:a.kind=.function:=b.1
def mj.N8:∀d∈a.names,d.2≠ .cell:=b.2.1
def mj.bW:∀d∈a.names,d.2=.local→a.names.lookup d.1=O .local:=b.2.2.1
def mj.jx:∀d∈a.names,d.2=.free→c.lookup d.1=O .cell∧a.names.lookup d.1=O .free∧(d.1==("__classdict__":b4))=b2:=b.2.2.2
end
def rK{c:Type}{a b:b4}{g:c}{e:List (b4×c)}{d:Option c→Prop}(h:a=b→d (O g))(i:a≠b→d (e.lookup a)):d (((b,g)::e).lookup a):=by
 refine bT Ci ?_
 cases f:a==b with
 |true=>exact h (dr f)
 |false=>exact i (beq_eq_false_iff_ne.mp f)
def V7{a b:tV}{c:Bool}(d:(a !=b||c)=ar)(e:a=b):c=ar:=(nR.mp d).resolve_left (by (refine bT e ?_;rw [bne_self_eq_false]);exact kx)
def Qv{c:ji}{f:Sc}(j:Jo c f=ar):mj c f:=f4 j fun i l=>
 have h:∀b∈c.names,N3 c f b=ar:=lD.mp l
 ⟨dr i,fun b e=>g7 (h b e) fun a d d=>bne_iff_ne.mp a,fun b e g=>g7 (h b e) fun d a d=>dr (V7 a g),fun b e g=>g7 (h b e) fun d d a=>g7 (V7 a g) fun a k c=>⟨dr a,dr k,eC c⟩⟩
def Qw(f:du){v:b4×tV→List (b4×cz)→gl (ForInStep (List (b4×cz)))}(F:∀m d,v m d=if m.2== .free then (do let a ← cellOf f m.1;ei (.yield ((m.1,a)::d))) else ei (.yield d)):
  ∀{h:Sc}{d:List (b4×cz)},(∀g∈h,g.2=.free→∃a,f.cells.lookup g.1=O a)→(∀b a,d.lookup b=O a→f.cells.lookup b=O a)→
   ∃e,forIn h d v=ei e∧(∀b a,e.lookup b=O a→f.cells.lookup b=O a)∧∀b,((b,pP)∈h∨∃a,d.lookup b=O a)→∃a,e.lookup b=O a:=by
 intro h
 induction h with
 |nil=>
  intro d _ l
  exact ⟨d,Gu,l,fun b n=>n.elim (fun c=>absurd c gD) id⟩
 |cons z I u=>
  obtain ⟨g,x⟩:=z
  intro d n l
  have t:∀k∈I,k.2=.free→∃a,f.cells.lookup k.1=O a:=fun k A=>n k (ia _ A)
  rw [Gs,F]
  by_cases o:x=.free
  ·obtain ⟨a,y⟩:=n (g,x) (fD ..) o
   rw [if_pos (beq_iff_eq.mpr o),show cellOf f g=ei a by unfold cellOf;(refine bT y ?_;rfl)]
   refine bU fun i=>?_
   obtain ⟨e,r,q,p⟩:=u (d:=(g,a)::d) t fun b w=>rK (d:=fun s=>s=O w→_) (fun j c=>by (refine bT j ?_;refine bT y ?_);exact c) fun C=>l b w
   refine i ?_;try clear i
   refine ⟨e,r,q,fun b c=>p b ?_⟩
   refine rK (d:=fun s=>_∨∃a,s=O a) (fun C=>.inr ⟨_,rfl⟩) fun G=>c.imp (fun c=>(eP.mp c).elim (fun j=>absurd (congrArg Prod.fst j) G) id) id
  ·refine bT (if_neg fun c=>o (beq_iff_eq.mp c)) ?_
   refine bU fun i=>?_
   obtain ⟨e,r,q,p⟩:=u t l
   refine i ?_;try clear i
   exact ⟨e,r,q,fun b c=>p b (c.imp (fun c=>(eP.mp c).elim (fun j=>absurd (congrArg Prod.snd j).symm o) id) id)⟩
def Iu{a:ji}{b:du}(n:∀d∈a.names,d.2=.free→∃l,b.cells.lookup d.1=O l):∃e,closureFor a b=ei e∧Lp b a.names e:=by
 obtain ⟨e,j,i,k⟩:=Qw b (v:=fun d c=>match d with
  |(h,m)=>if (m==pP)=ar then (do let a ← cellOf b h;ei (zq ((h,a)::c))) else ei (zq c)) (fun p o=>rfl) (d:=[]) n fun g a f=>nomatch (show b1=O a from f)
 refine ⟨e,?_,i,fun g f=>k g (.inl f)⟩
 show (forIn a.names [] _>>=fun c=>ei c)=_
 refine bT j ?_;rfl
def uB{b:du}{h:Sc}{f:b4}:∀{c:tV},h.lookup f=O c→(h.map fun (a,c)=>if (c==pP&&b.scope.kind== .function&&b.kindOf a==O .cell) then (a,zo) else (a,c)).lookup f=O (cond (c==pP&&b.scope.kind== .function&&b.kindOf f==O .cell) .cell c):=by
 induction h with
 |nil=>exact fun d=>e0 d
 |cons l m j=>
  obtain ⟨a,e⟩:=l
  intro c d
  have k:(if (e==pP&&b.scope.kind== .function&&b.kindOf a==O .cell)=ar then (a,zo) else (a,e))=(a,cond (e==pP&&b.scope.kind== .function&&b.kindOf a==O .cell) .cell e):=by split<;>(rename_i g;simp only [g];rfl)
  refine bT Cj ?_
  show List.lookup f ((if (e==pP&&b.scope.kind== .function&&b.kindOf a==O .cell)=ar then (a,zo) else (a,e))::_)=_
  refine bT k ?_
  rw [Ci] at d⊢
  cases g:f==a with
  |true=>
   rw [g] at d
   refine bU fun i=>?_
   obtain rfl:=dr g
   obtain rfl:=dg d
   refine i ?_;try clear i
   rfl
  |false=>
   rw [g] at d
   exact j d
section
variable{g:Wd}{l:d8}{i:Nat}{m:cK}{c j:dQ}{k:bS}{h:cM}{a:du}{f:Sc}{e:fF}{d:cV}{b:cz}
def rL{p:ji}{q:List (b4×cz)}{o:b4}{n:tV}(r:p.names.lookup o=O n)(s:n≠ .free):(qI p q b a).kindOf o=O n:=by
 refine (uB r).trans ?_
 refine bT (beq_eq_false_iff_ne.mpr s) ?_;rfl
def Lr{p:ji}{q:List (b4×cz)}{n:b4}(t:p.names.lookup n=O .free):(qI p q b a).kindOf n=O .cell∨(qI p q b a).kindOf n=O .free:=by
 have s:=uB (b:=a) t
 cases r:(pP==pP&&a.scope.kind== .function&&a.kindOf n==O .cell)
 ·exact .inr (s.trans (congrArg (fun o=>O (cond o zo .free)) r))
 ·exact .inl (s.trans (congrArg (fun o=>O (cond o zo .free)) r))
def Qx(t:eU g c a f e d){v:ji}{C:fF}{L:List (b4×cz)}{G:List Nat}(A:mj v f)(an:C.all (v7 v.names G e)=ar)(P:Bc C=ar)(am:∀ak∈G,d[ak]?.join=b1)(ae:c.T b=b1){w:ea}(Q:jp w fun av=>b1)(s:Lp a v.names L):
  eU g ⟨c.F,c.T.d6 b w,c.α⟩ (qI v L b a) v.names C d:=by
 have z:∀{q o},a.cells.lookup q=O o→o≠b:=fun {q o} n r=>by
  obtain ⟨w,p⟩:=t.Ex q o n
  rw [r,ae] at p;exact cG p
 refine {
  dm:=A.dm
  mR:=t.mR
  m6:=t.m6
  b5:=fun T n=>rL n (fun r=>nomatch r)
  ir:=fun T n=>absurd rfl (A.N8 _ (jg _ n))
  bW:=fun T n=>rL n (fun r=>nomatch r)
  inj:=fun q ac o n af=>t.inj q ac o (s.fw _ _ n) (s.fw _ _ af)
  hF:=fun q o n=>z (s.fw _ _ n)
  Jp:=⟨w,di.eF _ _ _,_,Q⟩
  Ex:=fun q o n=>by obtain ⟨x,p⟩:=t.Ex q o (s.fw _ _ n);exact ⟨x,(di.fe _ _ (z (s.fw _ _ n))).trans p⟩
  Ym:=of_decide_eq_true (gq P).1
  Yn:=of_decide_eq_true (gq P).2
  mT:=fun y al=>?_}
 have u:=lD.mp an y al
 unfold v7 at u
 cases I:G.contains y.1 with
 |true=>
  rw [I] at u
  refine ⟨b1,.bW (rL (dr u) (fun r=>nomatch r)) w _ (di.eF _ _ _) Q rfl,fun aw p=>?_⟩
  rw [am y.1 (rb.mp I)] at p;exact cG p
 |false=>
  rw [I] at u
  have F:=dr (gq u).2
  refine bU fun X=>?_
  obtain ⟨ai,az,aa⟩:=A.jx _ (jg _ F) rfl
  obtain ⟨ab,ah,Y⟩:=t.mT y (rb.mp (gq u).1)
  refine X ?_;try clear X
  refine ⟨ab,?_,Y⟩
  induction ah with
  |bW K x ao p aq n=>rw [(t.ir _ ai).1] at K;cases K
  |ir K au o x W p ag=>
   obtain ⟨ay,R⟩:=s.all _ (jg _ F)
   have:=s.fw _ _ R
   rw [W] at this;obtain rfl:=dg this
   exact .ir (Lr F) aa o x R ((di.fe _ _ (z W)).trans p) ag
def Qy{v:ji}{s:List (b4×cz)}{w:fF}{q t:List Nat}(A:w.all (v7 v.names q e)=ar)(C:∀p∈t,p∈q):nE (qI v s b a) (fun r=>r=b) w t:=fun p y F o r z=>by
 have o:=lD.mp A _ o
 unfold v7 at o
 rw [rb.mpr (C p y)] at o
 have u:=rL (q:=s) (b:=b) (a:=a) (dr o) (fun x=>nomatch x)
 rcases z with ⟨_,n⟩|⟨n|n,_⟩
 ·exact n
 ·rw [u] at n;cases n
 ·rw [u] at n;cases n
end
def wL(b:Wd)(a:Nat)(c:cK):kG→Prop
 |.N=>True
 |.J _ _ f e d=>Lc b a c f∧Bs b a c e∧wL b a c d
def sB(f:rg)(d:Sc)(e:fF)(h:cv)(c:kG)(g:ce)(i:List jV)(a:ji)(b:fF):Prop:=((h5 c).Nodup)∧(mj a d)∧(b.all (v7 a.names (h5 c) e)=ar)∧(Bc b=ar)∧(zH f d e a.names b c i=ar)∧(mE f a.names b h g=ar)
section
variable{g:rg}{e:Sc}{f:fF}{i:cv}{d:kG}{h:ce}{j:List jV}{b:ji}{c:fF}(a:sB g e f i d h j b c)
include a
def sB.nd:(h5 d).Nodup:=a.1
def sB.so:mj b e:=a.2.1
def sB.vo:c.all (v7 b.names (h5 d) f)=ar:=a.2.2.1
def sB.nn:Bc c=ar:=a.2.2.2.1
def sB.WI:zH g e f b.names c d j=ar:=a.2.2.2.2.1
def sB.me:mE g b.names c i h=ar:=a.2.2.2.2.2
end
section
variable{a:Wd}{m:d8}{k:Nat}{h:cK}{j e:dQ}{i:bS}{l:cM}{b:du}{f:Sc}{c:fF}{g:cV}{d:cz}
def CP.rQ{K:KL}{n:Nat}(y:CP a b f c d j g (fun A=>True) K l):CP a b f c d j g (fun w=>b2=ar→w≤n) K l:=by
 obtain ⟨v,s,e,o,n,t,r,x,u,z,_,p⟩:=y
 exact ⟨v,s,e,o,n,t,r,x,u,z,(fun q=>dy q),p⟩
def Td(aJ:¬cY b d){r R:List Nat}{C:Bool}{I:ub}{F:dS}{q:ce}{o:List jV}{Q:ji}{G:cS}{t:Nat}{s:jV}(A:o[t+1]? =O s)(am:∀(aH:Nat)(e:jV),o[aH]? =O e→e.is_async=0)(az:Lc a k h I)(aN:Yl a.T f c I s.iter=ar)
  (aG:nE b (fun p=>p=b.locals) c r) (ay:yZ r C c s.target=ar) (aO:Bs a k h F) (aw:ti a.T f c F s.ifs=ar) {v:cV→bS→List bl→KL→Prop} (aE:(r++R).Nodup) {aC:Bool} (aI:HA a m k b f c d R aC v (k9 (.ListComp q o Q G) q o (t+1) (.ref d) b)):
  HA a m k b f c d (r++R) b2 (fun g i ah K=>Y7 ⟨a.T,h⟩ C I g i (Nn (Af (mn ⟨a.T,h⟩ F) v) g r C ah K)) (k9 (.ListComp q o Q G) q o t (.ref d) b):=fun {j i l g ah aV aU} K x X aQ ac _ t=>by
 unfold k9
 refine bT A ?_
 obtain ⟨aL,aA⟩:=az aN x C _ t
 refine c5 (m:=fk s.iter b) (aA.cO fun aD aW av=>c5 (oy (c5 (GH (aL aD) (c5 (iH (av.cO fun aR aq aK=>?_)))))))
 obtain ⟨aT,aS,e,Y,ai,z,au,W,w,L,ae,T,aa,ak⟩:=aK
 refine bT T ?_
 obtain ⟨aB,W⟩:=tj W
 have an:∀p,ai p→¬cY b p:=fun p P v=>x.E.h8 v (L p P)
 have ab:¬ai d:=fun P=>by
  have:=L d P
  rw [X] at this;exact cG this.symm
 have ao:∀{ag:tZ→cM→Prop},(∀n,CP a b f c d j g (fun aF=>True) K n→ag (.ok .next) n)→mA (i5 a.dP a.w) m (.compLoop (.ListComp q o Q G) _ (.ref Y) (.ref d) b) ag aq:=fun aM=>
  JA aa au L an ab aJ A am aG ay aO aw aI (fun u y=>ac u (ow _ y)) (fun u y=>⟨fun aP=>(zb.mp aE).2.2 u aP u y rfl,ac u (nU _ y)⟩) aM (x.Bo (x.E.cO w an) ae) ak (w.up fun aF=>.inl) ((w.T d ab).trans X) (aQ.cO w.F) aB W
 refine c5 (wpAny_runOwn (yx A (am _ _ A) (ao fun n z=>fR z.rQ) ((aa.iQ (j:=fun af n=>af=.ref Y∧n=aq) ak ae ⟨rfl,rfl⟩).cO fun af n T=>?_)))
 refine bU fun al=>?_
 obtain ⟨rfl,rfl⟩:=T
 refine al ?_;try clear al
 exact ao fun n z=>fR z.rQ
def JB(y:¬cY b d){s:cv}{r:ce}(Q:e4 a k h s)(T:mE a.T f c s r=ar){p:List jV}{G:ji}{z:cS}(F:∀(ai:Nat)(e:jV),p[ai]? =O e→e.is_async=0){L:List Nat}(I:∀A:List Nat,(∀q∈A,q∈L)→nE b (fun ag=>ag=b.locals) c A):
  ∀(n:kG)(o:Nat),wL a k h n→zH a.T f c f c n (p.drop (o+1))=ar→(h5 n).Nodup→(∀q∈h5 n,q∈L)→
   HA a m k b f c d (h5 n) (Yj n) (fun g i v K=>CJ ⟨a.T,h⟩ n (JH (vE ⟨a.T,h⟩ s)) g i v K) (k9 (.ListComp r p G z) r p o (.ref d) b)
 |.N,o,_,u,_,_=>by
  have al:p[o+1]? =b1:=Gl (List.drop_eq_nil_iff.mp (l0.mp u))
  unfold k9
  refine bT al ?_
  exact YO Q T y
 |.J t ak ae W n,o,w,u,C,P=>d3 (e:=fun af=>p.drop (o+1)=af→HA a m k b f c d (t++h5 n) b2 (fun g i v K=>CJ ⟨a.T,h⟩ (.J t ak ae W n) (JH (vE ⟨a.T,h⟩ s)) g i v K) (k9 (.ListComp r p G z) r p o (.ref d) b)) u (fun ao an ac ah=>Dv ac fun am ab aa Y X=>
  have R:=vj ah
  Td y R.1 F w.1 ab (I t fun q x=>P q (ow _ x)) aa w.2.1 Y C (JB y Q T F I n (o+1) w.2.2 (R.2▸X) (zb.mp C).2.1 fun q x=>P q (nU _ x))) rfl
def vm{u:Sc}{v:fF}:∀{w:kG}{n:List jV}{f:Sc}{c:fF},zH a.T f c u v w n=ar→∀(p:Nat)(e:jV),n[p]? =O e→e.is_async=0
 |.N,n,_,_,q,p,e,o=>by rw [l0.mp q] at o;exact e0 o
 |.J z F C y G,n,f,c,q,p,e,o=>by
  refine d3 (e:=fun n=>n[p]? =O e→e.is_async=0) q (fun A n x o=>Dv x fun t r r r s=>?_) o
  induction p with
  |zero=>exact dg o▸of_decide_eq_true t
  |succ p=>exact vm s p e o
def c7.wx(q:c7 a j i l){r:cz}{y:ea}{s:eu}(w:Nat)(z:∀n o,l.heap.get? n=O o→s.get? n=O o)(t:s.get? r=O y)(v:@zs Nat instLENat l.heap.objs.size r):c7 a ⟨j.F,j.T.d6 r y,j.α⟩ i {l with heap:=s,toks:=w}:=by
 refine q.KM (fun x=>False) w (fun x A=>A.elim) (fun n o x t=>z n o t) fun n o p=>?_
 by_cases u:n=r
 ·subst u
  rw [di.eF] at p
  exact ⟨dg p▸t,q.yY v,q.fY v⟩
 ·rw [di.fe _ _ u] at p
  exact ⟨z n o (q.hN n o p),q.qo p⟩
end
section
variable{c:Wd}{g:d8}{j:Nat}{i:cK}{f d:dQ}{o:bS}{m:cM}{e:du}{l:Sc}{n:fF}{h:cV}{b:cz}
def ls(c:Wd)(f:dQ)(K:KL)(b a:cz)(t:cM)(q:List bl)(k:List cj)(u:Nat)(s:ea)(v:b4→Option cj)(p:bS)(d:dQ):Prop:=(Le (fun r=>r=a∨r=b) f d)∧(c7 c d p t)∧(f.T b=b1)∧(f.T a=b1)∧(b≠a)∧(d.T b=O (dl "list" k u))∧(d.T a=O s)∧(jp s v)∧(dB c d.F q k)∧(K q p)
section
variable{x:Wd}{t:dQ}{K:KL}{q s:cz}{z:cM}{w:List bl}{u:List cj}{A:Nat}{y:ea}{C:b4→Option cj}{v:bS}{p:dQ}(a:ls x t K q s z w u A y C v p)
include a
def ls.gm:Le (fun b=>b=s∨b=q) t p:=a.1
def ls.S:c7 x p v z:=a.2.1
def ls.D0:t.T q=b1:=a.2.2.1
def ls.B0:t.T s=b1:=a.2.2.2.1
def ls.ne:q≠s:=a.2.2.2.2.1
def ls.D1:p.T q=O (dl "list" u A):=a.2.2.2.2.2.1
def ls.B1:p.T s=O y:=a.2.2.2.2.2.2.1
def ls.Q0:jp y C:=a.2.2.2.2.2.2.2.1
def ls.r:dB x p.F w u:=a.2.2.2.2.2.2.2.2.1
def ls.k:K w v:=a.2.2.2.2.2.2.2.2.2
end
def Iv{a:jV}{k:List jV}:My (a::k) e=fk a.iter e:=by cases a;rfl
def EG{au:cv}{Q:kG}{Y:ce}{y:List jV}{u:ji}{R:cS}{aI:fF}(bz:e4 c j i au)(aB:wL c j i Q)(s:sB c.T l n au Q Y y u aI)(bx:(!y.isEmpty)=ar)(L:At c j g f o m e l n h)(bJ:Vn h (h5 Q)=ar){K:KL}(bG:CJ ⟨c.T,i⟩ Q (JH (vE ⟨c.T,i⟩ au)) h o [] K)
  {aD:Option (cj→gl Unit)} {az:cj→cM→Prop} (ay:cS) (bv:∀(b p:cz)(A:cM)(aw:List bl)(ah:List cj)(z:Nat)(ao:ea)(a5:b4→Option cj)(aO:bS)(d:dQ),ls c f K b p A aw ah z ao a5 aO d→compPost (i5 c.dP c.w) g (fun F F=>False) aD az (.ref b) p (.ok .next) A):
  Wp c g (comprehension (.ListComp Y y u R) u e ay (newList []) b2 (My y e) aD) az m:=by
 cases y with
 |nil=>exact dy bx
 |cons av y=>
 cases Q with
 |N=>cases s.WI
 |J af bB bQ bM ae=>
 have aA:=vm s.WI
 refine Dv s.WI fun bN bu bE bC aX=>?_
 refine bU fun v=>?_
 obtain ⟨ba,a8⟩:=aB.1 bu L bB _ bG
 have ag:∀r∈af++h5 ae,h[r]?.join=b1:=fun r t=>B4.mp (lD.mp bJ r t)
 obtain ⟨C,bw,aL⟩:=Iu (b:=e) fun r t w=>(L.E.ir _ (s.so.jx r t w).1).2
 refine v ?_;try clear v
 refine wpAny_comprehension_free (cl:=C) (g:=av) (gs:=y) rfl ba bw s.so.dm s.so.bW ?_
 refine bT Iv ?_
 refine a8.cO fun bL bR bc=>bc.cO fun bK q bh=>?_
 refine bU fun v=>?_
 obtain ⟨bO,aO,I,al,X,bP,bm,aC,W,aP,P,w,G,T⟩:=bh
 refine v ?_;try clear v
 refine bT w ?_
 obtain ⟨_,aC⟩:=tj aC
 have aG:∀k,X k→¬cY e k:=fun k x ac=>L.E.h8 ac (aP k x)
 have aH:=L.E.cO W aG
 refine UA (wpAny_newFunctionEnv s.so.N8 (fun F a=>absurd a gD) (fun aN a7 bF=>?_) s.so.dm)
 have aM:=P.Dx (l:={cls:=.type "list",data:=.seq ([] :List cj).toArray}) rfl
 have aF:=dX q.heap.objs.size
 have ab:@Cw Nat instLTNat q.heap.objs.size (q.heap.push {cls:=.type "list",data:=.seq ([] :List cj).toArray}).objs.size:=by rw [GR];exact h9 _
 refine bU fun v=>?_
 obtain ⟨ao,bj,aW⟩:=jp.eI a7
 refine v ?_;try clear v
 have am:X q.heap.objs.size→False:=fun a=>by
  obtain ⟨x,w⟩:=G.y1 T a
  rw [P.pC aF] at w;exact cG w
 have ai:X (q.heap.push {cls:=.type "list",data:=.seq ([] :List cj).toArray}).objs.size→False:=fun a=>by
  obtain ⟨x,w⟩:=G.y1 T a
  rw [P.pC (iG ab)] at w;exact cG w
 have aE:I.T q.heap.objs.size=b1:=P.pC aF
 have a6:I.T (q.heap.push {cls:=.type "list",data:=.seq ([] :List cj).toArray}).objs.size=b1:=P.pC (iG ab)
 have aU:¬cY e q.heap.objs.size:=fun ac=>aH.h8 ac aE
 have bg:=aH.off aU {cls:=.type "list",data:=.seq ([] :List cj).toArray}
 have aq:(q.heap.objs.size:cz)≠(q.heap.push {cls:=.type "list",data:=.seq ([] :List cj).toArray}).objs.size:=kW ab
 have aY:=aM.pC (dX _)
 have aV:=aM.wx (q.toks+([] :List (b4×cj)).length) (fun bk ay aa=>bF.extBut bk ay (kW (nV aa)) (ng _ aa)) bj (dX _)
 have bA:=Qx bg s.so s.vo s.nn ag aY aW aL
 generalize (q.heap.push {cls:=.type "list",data:=.seq ([] :List cj).toArray}).objs.size=p at*
 generalize q.heap.objs.size=b at*
 have bH:f.T b=b1:=(W.T b am).symm.trans aE
 have bp:f.T p=b1:=(W.T p ai).symm.trans a6
 have aK:∀k,cY (qI u C p e) k→k=p∨cY e k:=fun k a=>a.imp id fun ⟨z,a⟩=>.inr ⟨z,aL.fw _ _ a⟩
 have ak:Le (fun k=>k=p∨k=b) I ⟨I.F,(I.T.d6 b (dl "list" [] 0)).d6 p ao,I.α⟩:=⟨k4.cy _,jU _,fun k z=>(di.fe _ _ fun a=>z (.inl a)).trans (di.fe _ _ fun a=>z (.inr a))⟩
 have aT:∀k,X k→¬(k=p∨k=b):=fun k x a=>a.elim (fun a=>ai (a▸x)) fun a=>am (a▸x)
 have aQ:¬cY (qI u C p e) b:=fun a=>(aK b a).elim aq aU
 have aJ:∀an:List Nat,(∀r∈an,r∈af++h5 ae)→nE (qI u C p e) (fun k=>k=p) aI an:=fun an t=>Qy s.vo t
 have aR:mA (i5 c.dP c.w) g (.compLoop (.ListComp Y (av::y) u R) 0 (.ref al) (.ref b) (qI u C p e)) (compPost (i5 c.dP c.w) g (fun F F=>False) aD az (.ref b) p) {q with heap:=aN,toks:=q.toks+([] :List (b4×cj)).length}:=
  JA G bm aP (fun k x a=>(aK k a).elim (fun a=>ai (a▸x)) (aG k x)) am aQ rfl aA (aJ af fun r t=>ow _ t) bE aB.2.1 bC (JB (m:=g) (z:=R) (G:=u) aQ bz s.me aA aJ ae 0 aB.2.2 aX (zb.mp s.nd).2.1 fun r t=>nU _ t) (fun r t=>ag r (ow _ t)) (fun r t=>⟨fun aa=>(zb.mp s.nd).2.2 r aa r t rfl,ag r (nU _ t)⟩)
   (fun A ⟨aw,bq,bf,ah,z,aZ,bb,bn,bI,a4,_,be⟩=>let ⟨x,a9,bo,bD⟩:=bb.Jp;bv b p A aw ah z x bo bq bf ⟨aZ,bn,bH,bp,aq,bI,a9,bD,a4,be⟩)
   ⟨L.a,aV,bA⟩ (G.cO T ak aT) ((W.up fun F=>.inl).ci (ak.up fun F=>.inr)) ((di.fe _ _ aq).trans (di.eF _ _ _)) (l:=[]) (G:=[]) rfl (fy _) aC
 show mA (i5 c.dP c.w) g (.compStart (.ListComp Y (av::y) u R) 0 (.ref al) (.ref b) (qI u C p e)) _ _
 refine yx rfl (aA 0 _ rfl) aR ((G.iQ (j:=fun aS A=>aS=.ref al∧A={q with heap:=aN,toks:=q.toks+([] :List (b4×cj)).length}) (G.cO T ak aT) aV ⟨rfl,rfl⟩).cO fun aS A w=>?_)
 refine bU fun v=>?_
 obtain ⟨rfl,rfl⟩:=w
 refine v ?_;try clear v
 exact aR
end
section
variable{a:Wd}{i:d8}{n:Nat}{l:cK}{g o:dQ}{t:bS}{j:cM}{b:du}{h:Sc}{c:fF}{p:cV}{e f:cz}
variable{K:KE}{fz:Bool}{d:cM}{w:List bl}{u:List cj}{m:Nat}{q:ea}{s:b4→Option cj}{v:bS}
def EH{fz:Bool}{z:cv}{I:kG}{C:ce}{F:ce→Prop}(T:mE a.T h c (.eh fz z I) C=ar)(ab:∀r k x y Y,sB a.T h c z I r k x Y→(!k.isEmpty)=ar→firstAsync k=b2→F (.ListComp r k x y)):F C:=
 Fg T fun r k x y ac=>Zo ac fun Q X W R L A P=>by
  refine ab r k x y _ ⟨of_decide_eq_true X,Qv W,R,L,A,P⟩ Q ?_
  have aa:=vm A
  induction k with
  |nil=>rfl
  |cons K k=>
   have:=aa 0 _ rfl
   refine bU fun G=>?_
   obtain ⟨ae,ah,af,ag⟩:=K
   refine G ?_;try clear G
   subst this
   rfl
def ls.d7(r:ls a g (MS K fz) e f d w u m q s v o){z:eu}(T:t5 f d.heap z):VP a g K (.ref e) {d with heap:=z}:=by
 have F:=r.S.h3 (fun k=>k=f) (p:=z) d.toks (fun k x=>⟨q,x▸r.B1⟩) fun I Q m y=>(T.2 I m).trans y
 have P:=mi (n:=fun k=>k=f) (r:=fun k=>k=e) (fun k x=>x▸r.B0) r.gm
 have A:(o.T.h3 fun k=>k=f) e=O (dl "list" u m):=(ot (c:=fun k=>k=f) r.ne).trans r.D1
 have G:=F.qo A
 have L:=F.h3 (fun k=>k=e) (p:=z) d.toks (fun k x=>⟨_,x▸A⟩) fun I Q m y=>y
 have R:=mi (n:=fun k=>k=e) (r:=fun C=>False) (fun k x=>x▸r.D0) (P.up fun C=>.inl)
 exact (tg L d.toks (fun C C y=>y) G.1 (o8 rfl) G.2 (F.hN _ _ A) r.r r.k).hZ R
def ls.YQ(r:ls a g (MS K fz) e f d w u m q s v o):VP a ⟨o.F,o.T.h3 fun k=>k=e,o.α⟩ K (.ref e) d∧Le (fun k=>k=f) g ⟨o.F,o.T.h3 fun k=>k=e,o.α⟩:=by
 have z:=r.S.qo r.D1
 have A:=r.S.h3 (fun k=>k=e) (p:=d.heap) d.toks (fun k x=>⟨_,x▸r.D1⟩) fun G F m y=>y
 exact ⟨tg A d.toks (fun C C y=>y) z.1 (o8 rfl) z.2 (r.S.hN _ _ r.D1) r.r r.k,mi (n:=fun k=>k=e) (fun k x=>x▸r.D0) (r.gm.up fun k x=>x.symm)⟩
def YR(fz:Bool){y:cv}{x:kG}(R:e4 a n l y)(L:wL a n l x):e4 a n l (.eh fz y x):=fun {h c z i g t j b p} F P=>
 EH (F:=fun z=>rH a i g j z b _) F fun T X Y W aa C I A=>.eI (fun K r=>by
  obtain ⟨G,r⟩:=qT r
  (rewrite [eval_ListComp];refine bT A ?_)
  exact EG R L C I P G r _ fun e f d w u m q s v o k=>⟨s,k.Q0.eH (k.S.hN _ _ k.B1),fun ab Q=>k.d7 Q⟩) rfl
def abk{k:cv}{r:cv→Prop}(z:B2 k=ar)(x:∀fz y A,r (.eh fz y A)):r k:=by
 cases k<;>first|exact x _ _ _|exact dy z
def Fl{ag:Nat}{T:cv}{Y:kG}(aG:e4 a n l T)(aB:wL a n l Y){z:ce}(ao:mE a.T h c (.eh fz T Y) z=ar)(X:At a n i g t j b h c p){k:b4}{x A:cS}(aC:(ag,k)∈c){K:KS}(C:vE ⟨a.T,l⟩ (.eh fz T Y) p t (Wr K p ag)):
  (Cn z (O (.Name k x)) A.line b=ei b2→Wp a i (f9 (.Assign [.Name k x] z A) b) (mV a b h c g K) j)→Wp a i (f9 (.Assign [.Name k x] z A) b) (mV a b h c g K) j:=
 EH (F:=fun z=>(Cn z (O (.Name k x)) A.line b=ei b2→Wp a i (f9 (.Assign [.Name k x] z A) b) (mV a b h c g K) j)→Wp a i (f9 (.Assign [.Name k x] z A) b) (mV a b h c g K) j) ao fun aa G L R aL al az ai aw=>by
  cases ab:(b.blockKind== .function&&b.kindOf k==O .local&&x.line==(Expr.ListComp aa G L R).pos.line&& !(L.names.any fun (m,C)=>m==k&&(C== .local||C== .cell))) with
  |false=>exact aw (congrArg ei ab)
  |true=>
  refine bT (exec_Assign_Name_used _ _ _ _ (congrArg ei ab)) ?_
  refine c5 (oy (c5 ?_))
  show Wp a i (do let _ ← comprehension (.ListComp aa G L R) L b (firstIterPos G R) (newList []) (firstAsync G) (My G b) (O (lk (.Name k x) b))) _ j
  refine bT ai ?_
  obtain ⟨au,C⟩:=qT C
  refine c5 (Wp.cO (EG (az:=fun P d=>mV a b h c g K .next d) aG aB al az X au C _ fun e f d w u m q s v o F=>?_) fun P d aF=>fR (fR aF))
  refine bU fun I=>?_
  obtain ⟨⟨aK,aM,aQ,W,aD,ak,an⟩,ac⟩:=F.YQ
  refine I ?_;try clear I
  have Q:∀r,r=f→¬cY b r:=fun r y av=>X.E.h8 av (y▸F.B0)
  show Wp a i (lk (.Name k x) b (.ref e)) _ d
  refine (sM ak (X.E.cO (ac.ci W.vd) Q) (h:=cY b) (fun r y=>y.h8) aC aD an).cO fun P aq ay=>?_
  refine bU fun I=>?_
  obtain ⟨aA,aP,ae,aH,af,am⟩:=ay
  refine I ?_;try clear I
  have ah:aA.T f=O q:=(ae.T f (Q f rfl)).trans ((W.T f fun y=>y).trans ((ot (c:=fun r=>r=e) F.ne.symm).trans F.B1))
  refine ⟨s,F.Q0.eH (af.hN _ _ ah),fun aO aE=>?_⟩
  exact .cc (mi (n:=fun r=>r=f) (fun r y=>y▸F.B0) (((ac.ci W.vd).up fun P=>.inl).ci (ae.up fun P=>.inr))) (aH.h3 Q) (af.h3 _ aq.toks (fun r y=>⟨q,y▸ah⟩) fun aI aN m aJ=>(aE.2 aI m).trans aJ) am
def Qz{W:Nat}{r:cv}(ao:e4 a n l r)(Q:∀fz y x,r=.eh fz y x→e4 a n l y∧wL a n l x):lW a n l (.ch W r):=fun {h c aa i g t j b p} ai T K P=>by
 apply lq (d:=fun L k ab=>lr L fun G=>r0 G fun F ab=>c.contains (W,F)&&(!mx k||B2 r)&&mE a.T h c r k) ai
 intro L k z C
 refine qi (c:=fun L=>Wp a i (f9 (.Assign L k z) b) _ j) C fun G C=>k7 (a:=fun G=>Wp a i (f9 (.Assign [G] k z) b) _ j) C fun F R C=>g7 C fun ah A I=>?_
 have ae:=rb.mp ah
 have Y:Cn k (O (.Name F R)) z.line b=ei b2→Wp a i (f9 (.Assign [.Name F R] k z) b) (mV a b h c g K) j:=fun an=>
  wpAny_Assign_Name (((ao I T).d7 _ P).vp fun au aq av ay aw X ag ac ak=>q6 ac (T.cc X ac).E ae ag fun aA az am al af=>.cc (X.vd.ci (am.up fun ab aa=>aa.h8)) al af (tK ak)) an
 rcases nR.mp A with A|A
 ·exact Y (x4 (eC A) _ _)
 ·exact abk (r:=fun r=>(∀fz y x,r=.eh fz y x→e4 a n l y∧wL a n l x)→mE a.T h c r k=ar→vE ⟨a.T,l⟩ r p t (Wr K p W)→Wp a i (f9 (.Assign [.Name F R] k z) b) (mV a b h c g K) j) A (fun fz y x Q I P=>Fl (Q _ _ _ rfl).1 (Q _ _ _ rfl).2 I T ae P Y) Q I P
end
def tN(b:Wd)(a:Nat)(c:cK)(d:dS):Prop:=(vh b a c d)∧(v8 b a c d)∧(Dw b a c d)∧(y0 b a c d)∧(∀e,e4 b a c e→y0 b a c (.J e d))∧(Bs b a c d)
section
variable{b:Wd}{a:Nat}{c:cK}{e:dS}(d:tN b a c e)
include d
def tN.Dy:vh b a c e:=d.1
def tN.ev:v8 b a c e:=d.2.1
def tN.hK:Dw b a c e:=d.2.2.1
def tN.kv:y0 b a c e:=d.2.2.2.1
def tN.kv1:∀f,e4 b a c f→y0 b a c (.J f e):=d.2.2.2.2.1
def tN.Kn:Bs b a c e:=d.2.2.2.2.2
end
section
variable{c:Wd}{b:Nat}{d:cK}
def Te:v8 c b d .N:=fun g h=>⟨fun f K e=>e.elim,fun K i e=>e.elim⟩
def YS:Dw c b d .N:=fun g h=>⟨fun f K e=>e.elim,fun K i e=>e.elim⟩
def YT:Bg c b d .N:=fun f g h=>⟨fun K e=>e.elim,fun K i e=>e.elim⟩
variable(a:zL c b d)
include a
theorem Tf{g:cv}(e:e4 c b d g):∀{i:dS},tN c b d i→tN c b d (.J g i)
 |.N,f=>⟨Jq e f.Dy,SW e,Ys e,f.kv1 g e,fun j h=>Jt h e f.kv,N7 e f.Kn⟩
 |.J _ _,f=>⟨Jq e f.Dy,P2 e f.ev,SX e f.hK,f.kv1 g e,fun j h=>Jt h e f.kv,N7 e f.Kn⟩
theorem YU{i:Fo}{g:cv}(e:e4 c b d g):∀{f:se},Bg c b d f→Bg c b d (.J i g f)
 |.N,_=>Yu a.cF e
 |.J _ _ _,h=>SY a.cF e h
def V8(c:Wd)(b:Nat)(d:cK):cv→Prop
 |.cQ f=>tN c b d f
 |.eh _ e g=>e4 c b d e∧wL c b d g
 |_=>True
theorem F6:∀f:cv,e4 c b d f∧V8 c b d f:=@cv.rec (fun f=>e4 c b d f∧V8 c b d f) (tN c b d) (Bg c b d) (wL c b d) (Lc c b d)
 ⟨Yy,trivial⟩ (fun j=>⟨Yz j,trivial⟩) (fun n=>⟨abe n,trivial⟩) (fun q=>⟨abf q,trivial⟩) (fun g=>⟨aa1 g,trivial⟩) (fun l=>⟨Yp a.cF l,trivial⟩)
 (fun fz u e e h j=>⟨aa2 fz u h.1 j.1,trivial⟩) (fun e h=>⟨aa3 h.1,trivial⟩) (fun e h=>⟨aa4 h.1,trivial⟩) (fun e g=>⟨aa8 g.ev,trivial⟩) (fun e g=>⟨acw g.hK,trivial⟩)
 (fun e e h o=>⟨aba h.1 o,trivial⟩) (fun e e e o h j=>⟨aa5 o.1 h.1 j.1,trivial⟩) (fun fz e e r g=>⟨YB a fz r.1 g.Dy,trivial⟩) (fun e m e i g=>⟨YC a m i.1 g.Dy,trivial⟩)
 (fun e m i=>⟨Yq a.cF m i.1,trivial⟩) (fun e e i n=>⟨abb a.cF i.1 n.1,trivial⟩) (fun fz e e e i t v=>⟨SZ fz i.1 t.1 v.1,trivial⟩) (fun e g=>⟨abc g.Dy,g⟩) (fun fz e g=>⟨Yw fz g.Dy,trivial⟩)
 (fun e e g k=>⟨Yx g.1 k.1,trivial⟩) (fun e g=>⟨YF a.cF g.kv,trivial⟩) (fun fz e e f l=>⟨YR fz f.1 l,f.1,l⟩) (fun e f=>⟨aa6 f.1,trivial⟩) ⟨abd,trivial⟩
 ⟨Yr,Te,YS,YD,fun e e=>YE,abj⟩ (fun e e f k=>Tf a f.1 k) YT (fun e e e f k=>YU a f.1 k) trivial (fun e e e e e s p k=>⟨s,p.Kn,k⟩)
 (fun e f=>Qd f.1) (fun e f=>Qf a.cF f.1) (fun e f=>S7 a.cF f.1) fun e e h j=>YH a.cF h.1 j.1
theorem xo(e:cv):e4 c b d e:=(F6 a e).1
def acA(e:dS):tN c b d e:=(F6 a (.cQ e)).2
def gok(e:kG):wL c b d e:=(F6 a (.eh ar .bX e)).2.2
def iok(e:ub):Lc c b d e:=(gok a (.J [] ar e .N .N)).1
def acB:∀e:cW,tL c b d e:=@cW.rec (lW c b d) (tL c b d)
 (fun f=>YK (xo a f)) (fun w f=>Qz (xo a f) fun fz p s v=>⟨xo a p,gok a s⟩) (fun l r=>Lk (acA a r).Dy) (fun l f=>Qo (xo a f)) (fun j h f=>Qp a.cF (xo a j) (xo a h) (xo a f))
 (fun j h o q k e=>Ll a.cF (xo a j) (xo a h) (xo a o) (xo a q) (xo a k) (xo a e)) (fun f=>abh (xo a f)) (fun i g g k e=>abi (xo a i) k e) (fun u i g e=>Qm (xo a i) e) (fun l x n g e=>YM (iok a n) e)
 YJ (fun g e=>Tb e) abg YL fun g g m t=>Ta m t
end
def EI:∀{e:List b4}{d:List cj}{f:b4},e.length≤d.length→f∈e→((e.zip d).lookup f).isNone=b2:=by
 intro e
 induction e with
 |nil=>
  intro d
  rcases d with _|⟨_,_⟩
  ·intro b c a
   first|exact cG a|exact dy a|exact oa a|exact pG a|(cases a;done)|exact cG c|exact Bool.noConfusion c|exact False.elim c|exact Nat.noConfusion c|(cases c;done)|exact cG b|exact Bool.noConfusion b|exact False.elim b|exact Nat.noConfusion b|(cases b;done)
  ·intro b c a
   first|exact cG a|exact dy a|exact oa a|exact pG a|(cases a;done)|exact cG c|exact Bool.noConfusion c|exact False.elim c|exact Nat.noConfusion c|(cases c;done)|exact cG b|exact Bool.noConfusion b|exact False.elim b|exact Nat.noConfusion b|(cases b;done)
 |cons l e i=>
  intro d
  rcases d with _|⟨n,d⟩
  ·intro b c a
   first|exact cG a|exact dy a|exact oa a|exact pG a|(cases a;done)|exact cG c|exact dy c|exact oa c|exact pG c|(cases c;done)|exact cG b|exact Bool.noConfusion b|exact False.elim b|exact Nat.noConfusion b|(cases b;done)
  ·intro f k g
   exact rK (d:=fun h=>h.isNone=b2) (fun m=>rfl) fun j=>i (yz k) ((eP.mp g).resolve_left j)
def Ls{c:Type}{a d:b4}{f:c}{b:List (b4×c)}(e:a≠d):((d,f)::b).lookup a=b.lookup a:=by (refine bT Ci ?_;refine bT (beq_eq_false_iff_ne.mpr e) ?_;rfl)
def Fm{d:b4}{f:cj}{c:List (b4×cj)}:∀{a:List b4},d∉a→a.filterMap (fun b=>(((d,f)::c).lookup b).map (b,·))=a.filterMap fun b=>(c.lookup b).map (b,·):=by
 intro a
 induction a with
 |nil=>
  intro _
  exact rfl
 |cons b a g=>
  intro h
  obtain ⟨e,i⟩:=not_or.mp (mt eP.mpr h)
  (refine bT Ce ?_;refine bT Ce ?_;refine bT (g i) ?_;refine bT (Ls (Cv e)) ?_;rfl)
def Iw:∀{a:List b4}{b:List cj},a.Nodup→a.length≤b.length→a.filterMap (fun e=>((a.zip b).lookup e).map (e,·))=a.zip b:=by
 intro a
 induction a with
 |nil=>
  intro b
  rcases b with _|⟨_,_⟩
  ·intro _ _
   exact rfl
  ·intro _ _
   exact rfl
 |cons k a g=>
  intro b
  rcases b with _|⟨l,b⟩
  ·intro c d
   first|exact cG d|exact absurd d (tP _)|exact Bool.noConfusion d|exact False.elim d|exact cG c|exact nomatch c|exact Bool.noConfusion c|exact False.elim c
  ·intro h i
   obtain ⟨f,j⟩:=vU.mp h
   (refine bT List.zip_cons_cons ?_;refine bT Ce ?_;refine bT List.lookup_cons_self ?_;refine bT (Fm f) ?_;refine bT (g j (yz i)) ?_)
   rfl
def Ix{e c:Type}{f:e→c→gl (ForInStep c)}(b:c):∀{a:List e},(∀d∈a,f d b=ei (.yield b))→forIn a b f=ei b:=by
 intro a
 induction a with
 |nil=>
  intro _
  exact Gu
 |cons d a i=>
  intro g
  (rewrite [Gs];refine bT (g d (fD ..)) ?_)
  exact i fun j h=>g j (ia _ h)
structure iw(p:Mz)(names:List b4):Prop where
 v2:p.posonlyargs=[]
 mT:p.vararg=b1
 kwo:p.kwonlyargs=[]
 acJ:p.kwarg=b1
 nms:p.args.map (·.arg)=names
 nd:names.Nodup
def N9{b d:Type}(a:b)(c:b→Sem d):(pure a>>=c)=c a:=rfl
def Lu{d:nL}{g:List b4}(u:iw d.params g){b:List cj}(c:b.length=g.length):
  GP d ⟨b,[]⟩=(do let _ ← GJ d.defaults;ei (g.zip b)):=by
 refine bU fun p=>?_
 obtain ⟨P,X,⟨w,h,A,x,W,C,I⟩,K,z,Y,F,T,Q,G,R,f,m,y,e⟩:=d
 obtain ⟨i,n,l,j,k,s⟩:=u
 refine p ?_;try clear p
 dsimp only at i n l j k
 subst i n l j k
 unfold GP
 dsimp only [List.forIn_nil,N9]
 refine bind_congr fun L=>?_
 have v:¬b.length >(h.map (·.arg)).length:=jI.mpr (jH c)
 refine (if_neg fun a=>v (of_decide_eq_true (iX.mp a).1)).trans ?_
 have q:∀f,((h.map (·.arg)).take f).filter (fun e=>(((h.map (·.arg)).zip b).lookup e).isNone)=[] :=fun f=>
  TY.mpr fun e r=>by refine bT (EI (jH c.symm) (L3 r)) ?_;exact kx
 refine (if_neg fun a=>kx ((congrArg (fun m=>!List.isEmpty m) (q _)).symm.trans a)).trans ?_
 refine (congrArg (· >>=_) (Ix _ fun o t=>?_)).trans ?_
 ·exact if_neg fun a=>kx ((EI (jH c.symm) (T5 (Ui (show (o.1,o.2)∈_ from t)).1)).symm.trans a)
 ·refine congrArg (ei:_→gl (List (b4×cj))) (Eq.trans ?_ (Iw s (jH c.symm)))
  show Uk _ (_++[])=_
  rw [kX]
  rfl
def Lv{a:nL}(k:iw a.params ["code","outer"]){h b:cj}:∃c,GP a ⟨[h],[]⟩=GJ a.defaults>>=c∧c (O #[b])=ei [(("code":b4),h),(("outer":b4),b)] :=by
 refine bU fun j=>?_
 obtain ⟨w,G,⟨l,C,o,m,F,p,t⟩,u,b,I,r,A,y,s,z,c,v,n,q⟩:=a
 obtain ⟨d,i,g,e,f,x⟩:=k
 refine j ?_;try clear j
 dsimp only at d i g e f
 subst d i g e
 unfold GP
 dsimp only [List.forIn_nil,N9]
 refine ⟨_,rfl,?_⟩
 refine bT f ?_
 rfl
def hG(b:Sc)(c:List b4)(e:Nat)(d:fF):Prop:=((d.map (·.1)).Nodup)∧((d.map (·.2)).Nodup)∧(∀a∈d,c[a.1]? =O a.2)∧(∀a∈d,b.lookup a.2=O .local∨(b.lookup a.2=O .cell∧(a.2==("__classdict__":b4))=b2))∧(∀f∈c.take e,b.lookup f=O .local∨b.lookup f=O .cell)∧((c.take e).Nodup)∧(e≤c.length)
section
variable{b:Sc}{c:List b4}{e:Nat}{d:fF}(a:hG b c e d)
include a
def hG.Ym:(d.map (·.1)).Nodup:=a.1
def hG.Yn:(d.map (·.2)).Nodup:=a.2.1
def hG.eH:∀f∈d,c[f.1]? =O f.2:=a.2.2.1
def hG.abl:∀f∈d,b.lookup f.2=O .local∨(b.lookup f.2=O .cell∧(f.2==("__classdict__":b4))=b2):=a.2.2.2.1
def hG.par:∀f∈c.take e,b.lookup f=O .local∨b.lookup f=O .cell:=a.2.2.2.2.1
def hG.ndp:(c.take e).Nodup:=a.2.2.2.2.2.1
def hG.cC:e≤c.length:=a.2.2.2.2.2.2
end
abbrev HB:=b4→Option cj
section
variable{f:List (b4×cj)→HB→HB}{b:b4}(i:∀a,f [] a b=a b)(j:∀c d a,∃e,f ((b,c)::d) a=f d e∧e b=O c)(h:∀g c d a,g≠b→∃e,f ((g,c)::d) a=f d e∧e b=a b)
include i h
def Iy:∀{k:List (b4×cj)}{a:HB},b∉k.map (·.1)→f k a b=a b:=by
 intro k
 induction k with
 |nil=>
  intro a _
  exact i a
 |cons m d o=>
  obtain ⟨g,c⟩:=m
  intro a p
  obtain ⟨n,r⟩:=not_or.mp (mt eP.mpr p)
  obtain ⟨e,q,l⟩:=h g c d a (Cv n)
  (refine bT q ?_;refine bT (o r) ?_;refine bT l ?_;rfl)
include j
def EJ{c:cj}:∀{k:List (b4×cj)}{a:HB},(k.map (·.1)).Nodup→(b,c)∈k→f k a b=O c:=by
 intro k
 induction k with
 |nil=>
  intro n o m
  first|exact cG m|exact absurd m gD|exact Bool.noConfusion m|exact False.elim m|exact cG o|exact nomatch o|exact Bool.noConfusion o|exact False.elim o|exact cG n|exact nomatch n|exact Bool.noConfusion n|exact False.elim n
 |cons t d u=>
  obtain ⟨g,x⟩:=t
  intro a w p
  obtain ⟨r,y⟩:=vU.mp w
  rcases eP.mp p with z|p
  ·refine bU fun l=>?_
   obtain ⟨rfl,rfl⟩:=Vb z
   obtain ⟨e,q,s⟩:=j c d a
   refine l ?_;try clear l
   (refine bT q ?_;refine bT (Iy i h r) ?_;refine bT s ?_;rfl)
  ·refine bU fun l=>?_
   obtain ⟨e,q,_⟩:=h g x d a fun v=>r (v▸Cf (f:=(·.1)) p)
   refine l ?_;try clear l
   (refine bT q ?_;refine bT (u y p) ?_;rfl)
end
def Lw{c:b4→Option tV}{b:b4}{a:cj}(g:c b=O .local){d:List (b4×cj)}{e:HB}:(d.map (·.1)).Nodup→(b,a)∈d→bindL c d e b=O a:=
 EJ (f:=bindL c) (fun i=>rfl) (fun a h e=>⟨_,rfl,by refine bT (if_pos g) ?_;exact if_pos rfl⟩) fun j a h e f=>⟨_,rfl,by
  split
  ·exact if_neg f.symm
  ·rfl⟩
def Lx{c:b4→Option tV}{b:b4}{a:cj}(g:¬c b=O .local){d:List (b4×cj)}{e:HB}:(d.map (·.1)).Nodup→(b,a)∈d→bindC c d e b=O a:=
 EJ (f:=bindC c) (fun i=>rfl) (fun a h e=>⟨_,rfl,by refine bT (if_neg g) ?_;exact if_pos rfl⟩) fun j a h e f=>⟨_,rfl,by
  split
  ·rfl
  ·exact if_neg f.symm⟩
def Bt{f:b4}:∀{d:Sc}{g:Nat}{c:List (b4×cz)},((f,zo)∈d∨∃b,c.lookup f=O b)→∃b,(MA g d c).lookup f=O b:=by
 intro d
 induction d with
 |nil=>
  intro g c e
  exact e.elim (fun a=>absurd a gD) id
 |cons j q i=>
  obtain ⟨p,n⟩:=j
  intro g c e
  unfold MA
  split
  ·refine i (rK (d:=fun k=>_∨∃b,k=O b) (fun o=>.inr ⟨_,rfl⟩) fun l=>e.imp (fun a=>(eP.mp a).elim (fun h=>absurd (congrArg Prod.fst h) l) id) id)
  ·rename_i m
   exact i (e.imp (fun a=>(eP.mp a).elim (fun h=>absurd (beq_iff_eq.mpr (congrArg Prod.snd h).symm) m) id) id)
section
variable{c:Wd}{j:d8}{h:Nat}{k:cK}{b i:dQ}{e:bS}{f g:cM}{a:du}{d:fF}
def c7.YV(o:c7 c b e f)(s:cz→Prop){r:eu}(t:Nat)(v:∀p m,f.heap.get? p=O m→r.get? p=O m)(w:∀l,s l→@zs Nat instLENat f.heap.objs.size l):c7 c ⟨b.F,b.T.iu s r,b.α⟩ e {f with heap:=r,toks:=t}:=by
 refine o.KM (fun u=>False) t (fun u x=>x.elim) (fun p m u=>v p m) fun l m n=>?_
 by_cases q:s l
 ·rw [nD q] at n
  exact ⟨n,o.yY (w l q),o.fY (w l q)⟩
 ·rw [ou q] at n
  exact ⟨v l m (o.hN l m n),o.qo n⟩
def jF(c:Wd)(b:dQ)(e:bS)(a:du)(p:Sc)(d:fF)(q:List cj)(r:cV)(l:dQ)(g:cM):Prop:=(c7 c l e g)∧(eU c l a p d r)∧(Le (cY a) b l)∧(∀n,cY a n→b.T n=b1)∧(∀o∈d,∀m,q[o.1]? =O m→oq a l.T o.2 (O m))
section
variable{p:Wd}{o:dQ}{u:bS}{m:du}{r:Sc}{q:fF}{s:List cj}{t:cV}{n:dQ}{v:cM}(l:jF p o u m r q s t n v)
include l
def jF.S:c7 p n u v:=l.1
def jF.E:eU p n m r q t:=l.2.1
def jF.gm:Le (cY m) o n:=l.2.2.1
def jF.mN:∀a,cY m a→o.T a=b1:=l.2.2.2.1
def jF.mT:∀b∈q,∀a,s[b.1]? =O a→oq m n.T b.2 (O a):=l.2.2.2.2
end
def Ly(af:c7 c b e f){P:Sc}{F:List b4}{x:Nat}{q:List cj}{Q:List (Option bZ)}(aI:a.scope.names=P)(L:hG P F x d)(aL:a.scope.kind=.function)(aJ:a.globals=pJ)(az:a.builtins=qH){o:Nat}
  (aD:a.cells=MA o P []) (w:InCallC f a.locals (bindL a.kindOf ((F.take x).zip q) fun aB=>b1) a.cells (bindC a.kindOf ((F.take x).zip q) fun aB=>b1) g) (ay:q.length=Q.length) (aK:∀(ag:Nat)(A:cj)(Y:bZ),q[ag]? =O A→Q[ag]? =O (O Y)→dU c b Y A) (ab:q.length=x) {aA:Nat}:
  ∃av,jF c b e a P d q (Q++ky aA b1) av g:=by
 subst aI
 refine bU fun u=>?_
 obtain ⟨C,aH,rfl,au⟩:=w.done
 have al:=w.toInCall.fresh
 have aq:∀{o p},a.cells.lookup o=O p→@Cw Nat instLTNat a.locals p:=fun l=>w.above _ _ (Mr l)
 have ah:∀r,cY a r→@zs Nat instLENat f.heap.objs.size r:=fun r l=>l.elim (fun s=>s▸al) fun ⟨o,l⟩=>cr al (iG (aq l))
 have aG:=af.YV (cY a) aH au ah
 have R:∀{r},cY a r→b.T.iu (cY a) C r=C.get? r:=fun l=>nD l
 obtain ⟨ac,aF,am⟩:=jp.eI w.toInCall.ns
 refine u ?_;try clear u
 have an:=(R (.inl rfl)).trans aF
 have aM:(F.take x).length≤q.length:=ab.symm▸Ch _ _
 have ai:(((F.take x).zip q).map (·.1)).Nodup:=by refine bT (Uf aM) ?_;exact L.ndp
 have aa:∀m∈d,∀n,q[m.1]? =O n→(m.2,n)∈(F.take x).zip q:=fun m t n v=>
  gj (i:=m.1) (TU.mpr ⟨(Gi (ab▸(fJ.mp v).1)).trans (L.eH m t),v⟩)
 have G:∀{K},a.scope.names.lookup K=O .cell→∃p,a.cells.lookup K=O p:=fun l=>by refine bT aD ?_;exact Bt (.inl (jg _ l))
 have ae:∀m∈d,∃I,oq a (b.T.iu (cY a) C) m.2 I∧∀n,q[m.1]? =O n→I=O n:=fun m t=>by
  rcases L.abl m t with z|⟨z,aC⟩
  ·exact ⟨_,.bW z ac _ an am rfl,fun n v=>Lw z ai (aa m t n v)⟩
  ·refine bU fun u=>?_
   obtain ⟨p,G⟩:=G z
   obtain ⟨y,s,aE⟩:=w.cell m.2 p G
   refine u ?_;try clear u
   exact ⟨_,.ir (.inl z) aC p y G ((R (.inr ⟨_,G⟩)).trans s) aE,fun n v=>Lx (fun ak=>by rw [show a.kindOf m.2=O .cell from z] at ak;cases ak) ai (aa m t n v)⟩
 refine ⟨⟨b.F,b.T.iu (cY a) C,b.α⟩,aG,?_,⟨k4.cy _,jU _,fun r o=>ou o⟩,fun r l=>af.pC (ah r l),fun m t n v=>by obtain ⟨I,T,W⟩:=ae m t;exact W n v▸T⟩
 refine {
  dm:=aL
  mR:=aJ
  m6:=az
  b5:=fun K l=>l
  ir:=fun K l=>⟨l,G l⟩
  bW:=fun K l=>l
  inj:=fun o aN p l C=>name_of_addr w.apart (Mr l) (Mr C)
  hF:=fun o p l=>(kW (aq l)).symm
  Jp:=⟨ac,an,_,am⟩
  Ex:=fun o p l=>by obtain ⟨y,s,_⟩:=w.cell o p l;exact ⟨y,(R (.inr ⟨o,l⟩)).trans s⟩
  Ym:=L.Ym
  Yn:=L.Yn
  mT:=fun m t=>?_}
 refine bU fun u=>?_
 obtain ⟨I,T,W⟩:=ae m t
 refine u ?_;try clear u
 refine ⟨I,T,fun A s=>?_⟩
 by_cases X:m.1<Q.length
 ·rw [ph X] at s
  have ao:=gS (ay.symm▸X)
  exact ⟨_,W _ ao,aK _ _ _ ao (EK s)⟩
 ·rw [la (ra X)] at s
  have:=List.eq_of_mem_replicate (gj (EK s))
  exact cG this.symm
where
 EK {y:Option (Option bZ)} {A:bZ} (l:y.join=O A):y=O (O A):=match y,l with
  |some (O w),l=>congrArg (fun aw=>O (O aw)) (dg l)
end
end
section
open PySem PySem.W PySem.Spec PyProof.Rows PySem.Calls SeqAt
set_option backward.match.sparseCases true
noncomputable def abm:Flow→cj
 |.ret a=>a
 |_=>.none
def xq(b:Wd)(f:nL)(a:List bl):Prop:=(f.defaults=.none∧a=[])∨∃(e:cz)(c:ea)(d:Array cj)(g:Nat),f.defaults=.ref e∧b.eG.get? e=O c∧c.data=.seq d g∧(a≠ [] →dB b b.eG.get? a d.toList)
def nr(c:Wd)(f:Nat)(b:dz)(d:ea)(a:nL)(e:List dn):Prop:=(c.eG.get? (c.jT f)=O d)∧(d.data=.func a)∧(a.scope.isCoroutine=b2)∧(a.scope.isGenerator=b2)∧(a.scope.kind=.function)∧(a.body=.stmts e)∧(a.closure=[])∧(a.globals=pJ)∧(a.builtins=qH)∧(c.eG.CodeRec a.code a.qualname)∧(xq c a b.c3)∧(b.c3≠ [] →b.b9=2∧b.c3.length=1∧b.cn.take 2=[("code":b4),("outer":b4)])
section
variable{d:Wd}{g:Nat}{c:dz}{e:ea}{b:nL}{f:List dn}(a:nr d g c e b f)
include a
def nr.gJ:d.eG.get? (d.jT g)=O e:=a.1
def nr.Oa:e.data=.func b:=a.2.1
def nr.co:b.scope.isCoroutine=b2:=a.2.2.1
def nr.gen:b.scope.isGenerator=b2:=a.2.2.2.1
def nr.dm:b.scope.kind=.function:=a.2.2.2.2.1
def nr.cA:b.body=.stmts f:=a.2.2.2.2.2.1
def nr.clo:b.closure=[] :=a.2.2.2.2.2.2.1
def nr.pS:b.globals=pJ:=a.2.2.2.2.2.2.2.1
def nr.YW:b.builtins=qH:=a.2.2.2.2.2.2.2.2.1
def nr.jv:d.eG.CodeRec b.code b.qualname:=a.2.2.2.2.2.2.2.2.2.1
def nr.c3:xq d b c.c3:=a.2.2.2.2.2.2.2.2.2.2.1
def nr.abn:c.c3≠ [] →c.b9=2∧c.c3.length=1∧c.cn.take 2=[("code":b4),("outer":b4)] :=a.2.2.2.2.2.2.2.2.2.2.2
end
def Q1(d:Wd)(f:Nat)(a:dz)(h:cW):Prop:=∃g b c e,nr d f a g b c∧iw b.params (a.cn.take a.b9)∧hG b.scope.names a.cn a.b9 e∧xn d.T b.scope.names e h c=ar
def Bu(b:Wd)(o:d8)(e:dQ)(n:bS)(f:Sc)(m:fF)(g:List cj)(j:cV)(d:List dn)(i:tZ→cM→Prop):Prop:=∀a l c,jF b e n a f m g j l c→Wp b (o.deeper a) (execs d a) (fun k h=>i (.ok (.ret (abm k))) h) c
section
variable{a:Wd}{g:d8}{q:Nat}{s:cK}{b r:dQ}{n:bS}{h:cM}{j:Nat}{c:dz}{l:ea}{d:nL}{k:List dn}{i:Nat}{o:fF}{m:tZ→cM→Prop}{e:List cj}{p:List (Option bZ)}
def xi.QA(f:xi g (q+1))(t:du):xi (g.deeper t) q:=⟨f.f8,by have:=f.dG;show g.depth+1+4*q<_;exact WQ this,WR f.BT⟩
def Bv(Y:a.eG.NoLimit)(f:nr a j c l d k)(F:hG d.scope.names c.cn i o)(z:c7 a b n h)(Q:e.length=p.length)(ae:∀(A:Nat)(C:cj)(x:bZ),e[A]? =O C→p[A]? =O (O x)→dU a b x C)(R:e.length=i)
  (u:Bu a g b n d.scope.names o e (p++ky (c.cn.length-i) b1) k m):
  n9 (i5 a.dP a.w) g.in1 (newFunctionEnv d.scope d.globals d.closure ((c.cn.take i).zip e) (d.qualname++".<locals>.") (O (a.jT j)) d.code b1 d.builtins)
   (fun v I=>I.heap.NoLimit∧mA (i5 a.dP a.w) g (.func k v) m I) (fun w G=>m (.error w) G) h:=by
 refine bT f.clo ?_
 refine wpAny_newFunctionEnv_cells f.dm (fun y L=>(F.par _ (Ui (show (y.1,y.2)∈_ from L)).1).imp id fun u=>⟨u,F7.mpr (Bt (.inl (jg _ u)))⟩) fun v t af K=>?_
 have aa:h.heap.NoLimit:=by obtain ⟨W,T,X⟩:=Y;exact ⟨W,T.keeps fun ah l w=>z.kR w,X⟩
 obtain ⟨P,ab⟩:=Ly (aA:=c.cn.length-i) z (by refine bT t ?_;rfl) F (by refine bT t ?_;exact f.dm) (by refine bT t ?_;exact f.pS) (by refine bT t ?_;exact f.YW) (by refine bT t ?_;rfl) K Q ae R
 exact ⟨aa.keeps K.toInCall.keep,codeAny_func ((u v P af ab).mQ fun ag G ac=>ac)⟩
def Fn{I:Model}{F:cj→cM→Prop}{t:List bl}(A:xq a d t)(z:c7 a b n h){w:Option (Array cj)→cM→Prop}(y:∀x,(t≠ [] →∃f,x=O f∧dB a b.F t f.toList)→w x h):n9 I g (GJ d.defaults) w F h:=by
 rcases A with ⟨v,rfl⟩|⟨L,l,f,P,v,K,G,C⟩
 ·refine bT v ?_
  exact GH (show GJ Value.none=ei b1 from rfl) (y b1 fun u=>absurd rfl u)
 ·refine bT v ?_
  exact wpAny_seqItems (z.kR K) G (y _ fun u=>⟨f,rfl,(C u).cO z.kQ⟩)
def Bw(F:a.eG.NoLimit)(A:g.depth<zf)(f:nr a j c l d k)(C:iw d.params (c.cn.take i))(y:hG d.scope.names c.cn i o)(t:c7 a b n h)(z:e.length=p.length)
  (G:∀(x:Nat)(v:cj)(w:bZ),e[x]? =O v→p[x]? =O (O w)→dU a b w v) (u:e.length=i) (I:Bu a g b n d.scope.names o e (p++ky (c.cn.length-i) b1) k m):mA (i5 a.dP a.w) g (.call (.ref (a.jT j)) ⟨e,[]⟩) m h:=by
 refine Ur A (t.kR f.gJ) f.Oa f.co f.gen f.cA (f.jv.keeps fun Q l K=>t.kR K) ?_
 rw [Lu C (by (refine bT zd ?_;refine bT (y6 y.cC) ?_;refine bT u ?_;rfl))]
 exact c5 (Fn f.c3 t fun P L=>fR (Bv F f y t z G u I))
def ee.xh{w:bZ}{x:List bZ}{v:List cj}{u:List cj→Prop}(z:ee a b (w::x) v)(j:∀t f,dU a b w t→ee a b x f→u (t::f)):u v:=by
 obtain ⟨t,f,rfl,y,A⟩:=z
 exact j t f y A
def ee.oU{x:List bZ}:∀{v:List cj},ee a b x v→∀(f:Nat)(t:cj)(u:bZ),v[f]? =O t→(x.map O)[f]? =O (O u)→dU a b u t:=by
 induction x with
 |nil=>exact fun w w w w w L=>cG L
 |cons F G C=>
  intro v I f t u
  refine I.xh (u:=fun v=>v[f]? =O t→((F::G).map O)[f]? =O (O u)→dU a b u t) fun Q P A K y z=>?_
  induction f with
  |zero=>exact dg (dg z)▸dg y▸A
  |succ f=>exact C K f t u y z
def ee.NX{v:List bZ}{u:List cj}(x:ee a b v u){t:List bZ}:∀{f:List cj},ee a b t f→ee a b (t++v) (f++u):=by
 induction t with
 |nil=>intro f G;refine bT (show f=[] from G) ?_;exact x
 |cons z t y=>exact fun C=>C.xh (u:=fun f=>ee a b (z::(t++v)) (f++u)) fun w f A F=>⟨w,_,rfl,A,y F⟩
def Iz(ae:a.eG.NoLimit)(ah:g.depth<zf)(f:nr a j c l d k)(F:iw d.params (c.cn.take c.b9))(ag:hG d.scope.names c.cn c.b9 o)(u:c7 a b n h){v:List bZ}(Q:ee a b v e)(C:c.c3≠ [])(z:v.length+c.c3.length=c.b9)
  (af:∀W,Bu a g b n d.scope.names o W ((v++c.c3.map bZ.f).map O++ky (c.cn.length-c.b9) b1) k m):mA (i5 a.dP a.w) g (.call (.ref (a.jT j)) ⟨e,[]⟩) m h:=by
 refine Ur ah (u.kR f.gJ) f.Oa f.co f.gen f.cA (f.jv.keeps fun aq l al=>u.kR al) ?_
 refine bU fun x=>?_
 obtain ⟨y,G,P⟩:=f.abn C
 rw [y] at F z
 have T:e.length=1:=by refine bT Q.cC ?_;rw [G] at z;exact mB z
 obtain ⟨w,rfl⟩:=T0.mp T
 refine x ?_;try clear x
 rw [P] at F
 rcases f.c3 with ⟨_,ab⟩|⟨ao,am,A,an,ai,ak,R,aa⟩
 ·exact absurd ab C
 have I:=(aa C).cO u.kQ
 refine bU fun x=>?_
 obtain ⟨A⟩:=A
 obtain ⟨t,Y⟩:=T0.mp (I.cC.trans G)
 obtain rfl:A=[t] :=Y
 obtain ⟨K,X,ac⟩:=Lv (h:=w) (b:=t) F
 refine x ?_;try clear x
 (refine bT X ?_;refine bT ai ?_)
 refine c5 (wpAny_seqItems (u.kR ak) R ?_)
 refine bT ac ?_
 refine fR ?_
 have L:ee a b (v++c.c3.map bZ.f) ([w] ++[t]):=I.Zf.NX Q
 have:=Bv (e:=[w,t]) (p:=(v++c.c3.map bZ.f).map O) ae f ag u (by rw [et];exact L.cC) (ee.oU (v:=[w,t]) L) y.symm (af [w,t])
 rw [y,P] at this
 exact this
end
def V9(a:cj→cM→Prop)(d:tZ)(b:cM):Prop:=match d with
 |.ok (.ret c)=>a c b
 |.ok _=>False
 |.error e=>False
section
variable{a:Wd}{k:d8}{q:Nat}{o:cK}{d c:dQ}{g:bS}{m:cM}{b:Nat}{e:dz}{j:cW}{p:Sc}{n:fF}{r:List dn}{i:cV}{l:List cj}{h:KE}
def QB:∀{f:Nat}{K:cV→Prop},Wo f K→K (ky f b1):=by
 intro f
 induction f with
 |zero=>
  intro _ b
  exact b
 |succ f s=>
  intro K b
  exact s (K:=fun i=>K (b1::i)) b
def x5{s:Nat}:∀{f:List bZ}{K:cV→Prop},QP f s K→K (f.map O++ky s b1):=by
 intro f
 induction f with
 |nil=>
  intro _ b
  exact QB b
 |cons t v u=>
  intro K b
  exact u (K:=fun i=>K (O t::i)) b
def Tg{f w:List bZ}{u:List bZ→Prop}(s:l5 e f=O w)(y:f.length=e.b9→u f)(A:e.c3≠ [] →f.length+e.c3.length=e.b9→u (f++e.c3.map .f)):u w:=by
 unfold l5 at s
 by_cases t:f.length=e.b9
 ·rw [if_pos t] at s
  exact dg s▸y t
 ·rw [if_neg t] at s
  obtain ⟨v,z⟩:=eB s
  exact dg z▸A (fun x=>t (by rw [x] at v;exact v)) v
def jF.acC{f:du}{z:dQ}{L t:cM}{x:bS}{P:cV}(y:jF a d g f p n l i z L)(A:Le (cY f) z c)(w:eU a c f p n P)(K:c7 a c x t):pY d ⟨c.F,c.T.h3 (cY f),c.α⟩∧c7 a ⟨c.F,c.T.h3 (cY f),c.α⟩ x t:=
 ⟨mi (n:=cY f) (r:=fun s=>False) y.mN ((y.gm.ci A).up fun s=>.inl),K.h3 (cY f) t.toks (fun G v=>v.elim (fun u=>let ⟨F,C,_⟩:=w.Jp;⟨F,u▸C⟩) fun ⟨I,v⟩=>w.Ex I G v) fun s s s u=>u⟩
def c7.Zt{t:bS}(v:c7 a c t m)(f:pY d c){s:Nat}(u:d.α.length=s):c7 a ⟨c.F,c.T,d.α⟩ (t.take s) m∧pY d ⟨c.F,c.T,d.α⟩:=by
 obtain ⟨x,w⟩:=f.α
 have:=v.x6 s
 rw [← w,← u,ze] at this
 exact ⟨u▸this,f.F,jU _,f.T⟩
def JC(W:tL a q o j)(K:xn a.T p n j r=ar)(L:xi k (q+1)){A:Bool}(I:d.α.length=g.length)(b:fG ⟨a.T,o⟩ j i g (lG A g.length h)):Bu a k d g p n l i r (V9 (VP a d h)):=fun F X ab v=>
 (W K _ ⟨L.QA F,v.S,v.E⟩ b).xp fun P aa G ac t c R T s Q b=>by
  refine bU fun f=>?_
  obtain ⟨x,y⟩:=v.acC R T Q
  obtain ⟨C,z⟩:=y.Zt x I
  refine f ?_;try clear f
  induction G with
  |cc=>
   refine bT (show P=.next from s) ?_
   exact ⟨.f .bX,_,_,z,(rfl:g5 a c.F .bX .none),C,b⟩
  |gX=>exact b.elim
  |cw w=>
   refine bU fun f=>?_
   obtain ⟨Y,rfl,s⟩:=s
   refine f ?_;try clear f
   induction A with
   |true=>
    have b:h w t:=b
    exact ⟨w,t,_,x,s.cO (Le.h3 _),y,b⟩
   |false=>
    refine bU fun f=>?_
    obtain ⟨u,rfl,b⟩:=td (K:=fun u=>h (.f u) (t.take g.length)) b
    refine f ?_;try clear f
    exact ⟨.f u,_,_,z,s,C,b⟩
def Th(z:a.eG.NoLimit)(L:Q1 a b e j)(K:tL a q o j)(v:xi k (q+1))(t:c7 a d g m){y s:List bZ}(u:ee a d y l)(Q:l5 e y=O s)(f:Ag ⟨a.T,o⟩ e j s g h):Wp a k (gg (.ref (a.jT b)) l) (VP a d h) m:=by
 refine bU fun I=>?_
 obtain ⟨W,T,r,n,F,G,A,x⟩:=L
 refine I ?_;try clear I
 have C:k.depth<zf:=kT (fg _ _) v.dG
 refine wpAny_call (Tg (u:=fun s=>Ag ⟨a.T,o⟩ e j s g h→mA (i5 a.dP a.w) k (.call (.ref (a.jT b)) ⟨l,[]⟩) (V9 (VP a d h)) m) Q (fun w f=>?_) (fun P w f=>?_) f)
 ·exact Bw z C F G A t (by (rewrite [et];refine bT u.cC ?_;rfl)) u.oU (u.cC.trans w) (JC K x v t.cC (x5 f))
 ·exact Iz z C F G A t u P w fun R=>JC K x v t.cC (x5 f)
end
end
section
open PySem PySem.W PySem.Spec PyProof.Rows PySem.Calls SeqAt Builtin Builtin.ObjectAttr
set_option backward.match.sparseCases true
def ke(c:ea)(d:b4→Option cj):Prop:=∃a e,c.data=.dict a e∧StrKeys a∧UniqKeys a∧∀b,tX a b=d b
def ke.Q0{a:ea}{b:b4→Option cj}(e:ke a b):jp a b:=by obtain ⟨c,h,d,f,_,g⟩:=e;exact ⟨c,h,d,f,g⟩
def ke.eH{d:eu}{b:cz}{a:ea}{c:b4→Option cj}(g:ke a c)(i:d.get? b=O a):d.Ns1 b c:=by obtain ⟨f,h,e⟩:=g;exact ⟨a,f,h,i,e⟩
def ke.eI{d:eu}{b:cz}{c:b4→Option cj}(g:d.Ns1 b c):∃a,d.get? b=O a∧ke a c:=by obtain ⟨a,f,h,i,e⟩:=g;exact ⟨a,i,f,h,e⟩
def ke.abo:ke t7 fun c=>b1:=⟨#[],_,rfl,fun b a=>absurd a (Array.not_mem_empty b),by unfold UniqKeys;exact .nil,fun c=>rfl⟩
inductive abp(W:Wd)(g:dQ)(dx:cz)(m:b4→Option cj)(ns:List b4)(K:List bZ→bS→Prop)(s':cM):Prop
 |mk (ms:List bZ) (us:List cj) (AO:bS) (g':dQ) (od:ea) (m':b4→Option cj) (le:Le (fun a=>a=dx) g g') (S:c7 W g' AO s') (D1:g'.T dx=O od) (hns:ke od m') (r:ee W g' ms us) (hl:ms.length=ns.length) (no:∀nm,nm∉ns→m' nm=m nm) (at_:∀(j:Nat)(nm:b4)(v:cj),ns[j]? =O nm→us[j]? =O v→m' nm=O v) (k:K ms AO)
section
variable{b:Wd}{f:d8}{k:Nat}{l:cK}{e m:dQ}{g:bS}{c:cM}{d:du}{i:Sc}{h:fF}{j:cV}
def Lz{w o n:cz}{q:b4}{v:cj}{t:b4→Option cj}{u:ea}{A:List b4}{C:Unit→cM→Prop}(r:b.K.In c.heap)(G:c.heap.get? w=O (ki n o))(F:c.heap.get? o=O u)(L:ke u t)
  (af:GW b.K n=ar) (T:jj b.K (.ref n) q=O b1) (aa:GV b.K n=ar) (ag:jj b.K (.ref n) "__setattr__"=O (O (.builtin "object.__setattr__"))) (ah:Within t A) (Q:A.length≤1000)
  (ac:∀p s ab,t5 o c.heap p→p.get? o=O s→ke s (fun z=>if z=q then O v else t z)→C () {c with heap:=p,toks:=ab}):Wp b f (setAttr (.ref w) q v) C c:=by
 refine bU fun a=>?_
 obtain ⟨I,e,av,ak,an⟩:=c
 refine a ?_;try clear a
 have r:b.K.In I:=r
 have x:PySem.W.InstAt I w (ki n o) n (O u):=⟨G,rfl,rfl,F⟩
 refine set_plain r x ag (osa_open r x af (show takerIn b.K n q=O b1 by unfold takerIn;refine bT T ?_;rfl) fun au=>?_)
 refine bU fun a=>?_
 obtain ⟨aq,W,R⟩:=any_some (show (clsIn b.K n).any (·.hasDict)=ar from aa)
 refine a ?_;try clear a
 refine c5 (fR (c5 (c5 (wpAny_loadPart G (c5 ((looks_clsIn r W).here ?_))))))
 refine bT R ?_
 refine fR (a:=O o) (c5 (fR (c5 (wpAny_nsSet1 (L.eH F) fun p y K=>?_))))
 refine bU fun a=>?_
 obtain ⟨am,al,ao,P,ai,X⟩:=y.count (Within.cons q v ah)
 refine a ?_;try clear a
 refine c5 (wpAny_lookBehind P (by refine bT ai ?_;exact pastItsLine_dict (cr X (cr (iF Q) (by decide)))) ?_)
 refine bU fun a=>?_
 obtain ⟨s,Y,ae⟩:=ke.eI y
 refine a ?_;try clear a
 exact fR (ac p s _ K Y ae)
def IA(q:c7 b e g c)(o:eU b e d i h j){s:b4}{v:cj}{t:cj→cM→Prop}(A:oq d e.T s (O v))(r:t v c):Wp b f (loadName d s) t c:=by
 induction A with
 |bW a p C n z x=>exact Us o.dm a (z.eH (q.hN _ _ n)) x r
 |ir a y F p w n u=>
  rcases a with a|a
  ·exact Ut o.dm a w ⟨p,q.hN _ _ n,u⟩ r
  ·exact Uu o.dm a w ⟨p,q.hN _ _ n,u⟩ r y
def QC(bw:∀x,e4 b k l x){A q:cz}{ai:Nat}{y:lb}(P:kn b ai y)(bA:b.K.In b.eG)(ag:¬cY d q)(aO:A≠q)(aL:y.dj.length≤1000):∀{s:List (b4×cv)}{r:List dn},Dg b.T i h s r=ar→
  ∀{e:dQ}{g:bS}{c:cM}{u:b4→Option cj}{G:ea}{K:List bZ→bS→Prop},At b k f e g c d i h j→(∀a,(0,a)∈h→oq d e.T a (O (.ref A)))→e.T A=O (ki (b.eS ai) q)→e.T q=O G→ke G u→Within u y.dj→
  (s.map (·.1)).Nodup→(∀a∈s.map (·.1),a∈y.dj)→G6 ⟨b.T,l⟩ s j g K→Wp b f (execs r d) (fun aJ bz=>aJ=.next∧abp b e q u (s.map (·.1)) K bz) c:=by
 intro s
 induction s with
 |nil=>
  intro r C e g c u G K z _ _ Y ab _ _ _ af
  exact iq (c:=fun r=>Wp b f (execs r d) _ c) C (Cl ⟨rfl,[],[],g,e,G,u,.cy _,z.S,Y,ab,rfl,rfl,fun aA aA=>rfl,fun W a v n T=>e0 n,af⟩)
 |cons I bD aE=>
  intro r C e g c u G K z be aP Y ab aB bq aq af
  obtain ⟨bp,aD⟩:=vU.mp bq
  have aC:=aq I.1 (fD ..)
  refine d3 (e:=fun r=>Wp b f (execs r d) _ c) C fun L r C=>f4 C fun aW aF=>UD ?_
  refine lq (b:=fun L=>Wp b f (f9 L d) _ c) aW fun au v X t=>qi (c:=fun au=>Wp b f (f9 (.Assign au v X) d) _ c) t fun ao t=>p1 (b:=fun ao=>Wp b f (f9 (.Assign [ao] v X) d) _ c) t fun ae n an t=>k7 (a:=fun ae=>Wp b f (f9 (.Assign [.Attribute ae n an] v X) d) _ c) t fun a aR t=>Dv t fun a9 bb bm bk aG=>?_
  obtain rfl:=dr bk
  refine Gz (((bw I.2 aG z).d7 _ af).vp fun Q bB a7 aU p aa a8 w ba=>?_) (B3 (eC bm) _ _) rfl
  show Wp b f (lk (.Attribute (.Name a aR) I.1 an) d Q) _ bB
  rw [arm_assign_Attribute]
  have ay:=z.cc aa w
  have ac:∀n,p.T n=e.T n:=fun n=>aa.T n fun o=>o
  have az:∀a,(0,a)∈h→oq d p.T a (O (.ref A)):=fun a o=>(be a o).BV fun n aA=>ac n
  have L:=(ac A).trans aP
  have al:=(ac q).trans Y
  refine c5 (iH (wpAny_Name (IA w ay.E (az a (rb.mp a9)) (c5 (oy (c5 (iH ?_))))) (eC bb)))
  refine Lz (b:=b) (A:=y.dj) (bA.keeps fun T ae x=>w.kR x) (w.hN _ _ L) (w.hN _ _ al) ab P.cE (P.dj _ aC) P.A3 P.SQ aB aL fun bF R a4 bf aQ aV=>GF ?_
  have bh:∀n,cY d n→(p.T.d6 q R) n=p.T n:=fun n aK=>di.fe _ _ fun o=>ag (o▸aK)
  have bu:Within (fun F=>if F=I.1 then O Q else u F) y.dj:=fun F bg=>by
   by_cases x:F=I.1
   ·refine bT x ?_;exact aC
   ·exact aB F fun o=>bg ((if_neg x).trans o)
  refine (aE aF (⟨z.a,w.QY (r:=a4) al bf aQ,ay.E.off ag R⟩:At b k f ⟨p.F,p.T.d6 q R,p.α⟩ aU _ d i h j) (fun a o=>(az a o).BV bh) ((di.fe _ _ aO).trans L) (di.eF _ _ _) aV bu aD (fun a o=>aq a (ia _ o)) ba).cO fun bE bC aT=>?_
  refine bU fun am=>?_
  obtain ⟨bo,aZ,av,aM,bv,a6,aN,aw,bx,aI,bc,a5,aX,ah,aH,bj⟩:=aT
  refine am ?_;try clear am
  have ak:Le (fun n=>n=q) p ⟨p.F,p.T.d6 q R,p.α⟩:=⟨k4.cy _,jU _,fun n bn=>di.fe _ _ bn⟩
  refine ⟨bo,a7::aZ,Q::av,aM,bv,a6,aN,aa.vd.ci (ak.ci aw),bx,aI,bc,⟨Q,av,rfl,a8.cO (ak.ci aw),a5⟩,congrArg pI aX,fun a o=>?_,fun W a v n T=>?_,bj⟩
  ·obtain ⟨aS,aY⟩:=not_or.mp (mt eP.mpr o)
   exact (ah a aY).trans (if_neg aS)
  ·induction W with
   |zero=>
    (refine gT (dg n) ?_;refine gT (dg T) ?_)
    exact (ah _ bp).trans (if_pos rfl)
   |succ W=>exact aH W a v n T
end
end
section
open PySem PySem.W PySem.Spec PyProof.Rows PySem.Calls SeqAt
set_option backward.match.sparseCases true
def Bx(d:Wd)(f:Nat)(a:dz)(h:List (b4×cv)):Prop:=∃g b c e,nr d f a g b c∧iw b.params (a.cn.take (a.b9+1))∧hG b.scope.names a.cn (a.b9+1) e∧a.cn.length=a.b9+1∧Dg d.T b.scope.names e h c=ar
section
variable{a:Wd}{e:d8}{j:Nat}{l:cK}{c b:dQ}{h:bS}{i:cM}{d:du}{n:Sc}{m:fF}{o:cV}{g:List cj}{k:KE}
def Ti{q:Nat}{s:lb}(aF:a.T.e7[q]? =O s){w:cz→Prop}{p f:cz}{r:ea}{C:b4→Option cj}{z:List bZ}{u:List cj}{Y:Nat}{fz:Bool}(av:∀y,w y→c.T y=b1)(aw:Le w c b)(t:c7 a b h i)(am:∀y,w y→∃aA,b.T y=O aA)(ah:w p)(aB:w f)(ab:p≠f)
  (L:b.T p=O (ki (a.eS q) f)) (W:b.T f=O r) (au:jp r C) (aG:ee a b z u) (X:z.length=s.dj.length) (aE:∀x,x∉s.dj→C x=b1) (aC:∀(ag:Nat)(x:b4)(ac:cj),s.dj[ag]? =O x→u[ag]? =O ac→C x=O ac) (ay:c.α.length=Y) (F:Ws fz q Y k z h):VP a c k (.ref p) i:=by
 have aD:=t.h3 w i.toks am fun v v v aH=>aH
 have an:=mi (r:=fun v=>False) av (aw.up fun v=>.inl)
 have aa:=t.qo W
 have P:=t.qo L
 refine bU fun A=>?_
 obtain ⟨al,af⟩:=aD.uw (t.hN _ _ W) aa.1 (o8 aB) fun aq Q=>absurd (gj Q) aa.2
 obtain ⟨ai,ak⟩:=al.uw (t.hN _ _ L) ((di.fe _ _ ab).trans P.1) (o8 ah) fun aq Q=>absurd (gj Q) P.2
 refine A ?_;try clear A
 have R:v6 a ((b.F.d6 f r).d6 p (ki (a.eS q) f)) p q s u:=⟨aF,f,r,C,di.eF _ _ _,(di.fe _ _ ab.symm).trans (di.eF _ _ _),au,aC,aE⟩
 have ae:=an.ci (af.ci ak)
 have K:ee a ⟨(b.F.d6 f r).d6 p (ki (a.eS q) f),(b.F.d6 f r).d6 p (ki (a.eS q) f),b.α⟩ z u:=aG.cO (j:=fun v=>True) (b:=b) (f:=⟨(b.F.d6 f r).d6 p (ki (a.eS q) f),(b.F.d6 f r).d6 p (ki (a.eS q) f),b.α⟩) ⟨(af.ci ak).F,jU _,fun v az=>(az trivial).elim⟩
 induction fz with
 |true=>
  refine bU fun A=>?_
  obtain ⟨ao,T,F⟩:=K.uP F
  obtain ⟨G,I⟩:=ai.Zt ae ay
  refine A ?_;try clear A
  exact ⟨.f (.gJ q ao),_,_,I,⟨p,s,u,rfl,R,T.cC.symm.trans (K.cC.trans X),T⟩,G,F⟩
 |false=>
  obtain ⟨G,I⟩:=ai.FZ (q:=.jW q z) P.2 (o8 ah) ⟨_,t.hN _ _ L⟩ ⟨s,u,R,X,K⟩
  exact ⟨.fK h.length,_,_,ae.ci I,⟨p,rfl,by refine gT t.cC ?_;exact TQ⟩,G,F⟩
def QD{e f:d8}{j:Nat}(p:xi e (j+1))(u:f.handled=e.handled)(r:f.depth=e.depth+1)(v:f.units≤e.units+4)(d:du):f.depth<zf∧xi (f.deeper d) j:=by
 have s:=p.f8
 have q:=p.dG
 have t:=p.BT
 exact ⟨Oh r q,u.trans s,IF r q,IE v t⟩
def Tj{q:Nat}{w:lb}{I:dz}{F:List (b4×cv)}(ac:kc a)(aL:a.eG.NoLimit)(av:a.T.e7[q]? =O w)(aO:Bx a w.gv I F)(aX:∀z,e4 a j l z)(aI:xi e (j+1))(x:c7 a c h i){C:List bZ}(X:ee a c C g)(az:C.length=I.b9)(T:F.map (·.1)=w.dj)(aA:w.dj.length≤1000)
  (A:Y8 ⟨a.T,l⟩ w q F C h k):Wp a e (gg (.ref (a.eS q)) g) (VP a c k) i:=by
 refine bU fun t=>?_
 obtain ⟨ao,a4,a5,m,aD,aU,Y,aE,aH⟩:=aO
 refine t ?_;try clear t
 have y:=ac.e7 q w av
 have ae:=x.F0 ac
 have A:=x5 A
 refine wpAny_call ?_
 refine bU fun t=>?_
 obtain ⟨p,bc,ba,aF,a7⟩:=i
 refine t ?_;try clear t
 refine make_core (makes_of ae y.aaZ) (looks_findIn ae y.gv) (fun aR=>bind_fn ae aR y.X8) (.inl rfl) ?_
 have aB:=dX p.objs.size
 have K:(p.objs.size+1:Nat)≠p.objs.size:=Nat.succ_ne_self _
 have ak:((p.push t7).objs.size:Nat)=p.objs.size+1:=GR ..
 have aM:=x.Dx (l:=t7) rfl
 have aP:=aM.wx (r:=p.objs.size+1) (y:=ki (a.eS q) p.objs.size) (s:=(p.push t7).push (ki (a.eS q) p.objs.size)) aF (fun L L z=>ng _ z) (ak▸oz _ rfl) (jH ak)
 have aN:c.T p.objs.size=b1:=x.pC aB
 have aT:c.T (p.objs.size+1)=b1:=x.pC (fM _)
 have ah:((c.T.d6 p.objs.size t7).d6 (p.objs.size+1) (ki (a.eS q) p.objs.size)) p.objs.size=O t7:=(di.fe _ _ K.symm).trans (di.eF _ _ _)
 have Q:((c.T.d6 p.objs.size t7).d6 (p.objs.size+1) (ki (a.eS q) p.objs.size)) (p.objs.size+1)=O (ki (a.eS q) p.objs.size):=di.eF _ _ _
 have R:Le (fun r=>r=p.objs.size∨r=p.objs.size+1) c ⟨c.F,(c.T.d6 p.objs.size t7).d6 (p.objs.size+1) (ki (a.eS q) p.objs.size),c.α⟩:=⟨k4.cy _,jU _,fun r P=>(di.fe _ _ fun f=>P (.inr f)).trans (di.fe _ _ fun f=>P (.inl f))⟩
 have ai:∀d,(e.under (.builtin "type.__call__" ⟨.ref (a.eS q)::g,[]⟩)).depth<zf∧xi ((e.under (.builtin "type.__call__" ⟨.ref (a.eS q)::g,[]⟩)).deeper d) j:=fun d=>QD (f:=e.under (.builtin "type.__call__" ⟨.ref (a.eS q)::g,[]⟩)) aI rfl rfl (jq (show (PySem.Code.builtin "type.__call__" ⟨.ref (a.eS q)::g,[]⟩).cUnits≤4 from (by decide:1≤4)) _) d
 have A:G6 ⟨a.T,l⟩ F ((b1::C.map O)++ky (I.cn.length-(I.b9+1)) b1) h (Ws w.ey q h.length k):=by (refine bT aE ?_;rw [pg]);exact A
 generalize p.objs.size=v at*
 refine Bw aL (ai default).1 aD aU Y aP (e:=.ref (v+1)::g) (p:=b1::C.map O) (congrArg pI (by rw [et];exact X.cC)) (fun ab aK aQ ay al=>?_) (congrArg pI (X.cC.trans az)) fun d be bh s=>?_
 ·induction ab with
  |zero=>cases al
  |succ ab=>exact (X.oU ab aK aQ ay al).cO R
 have G:¬cY d v:=fun f=>by
  have:=ah.symm.trans (s.mN v f)
  exact cG this.symm
 have W:¬cY d (v+1):=fun f=>by
  have:=Q.symm.trans (s.mN _ f)
  exact cG this.symm
 refine (QC aX y ac.F0 G K aA aH ⟨(ai d).2,s.S,s.E⟩ (fun aw f=>s.mT _ f _ rfl) ((s.gm.T _ W).trans Q) ((s.gm.T _ G).trans ah) ke.abo (fun u aV=>absurd rfl aV) (T▸y.pZ) (fun aw f=>T▸f) A).cO fun aZ a9 aJ=>?_
 refine bU fun t=>?_
 obtain ⟨Y,a8,a6,bb,b,bf,bg,aa,aY,af,aG,aS,ag,am,aq,aW⟩:=aJ
 refine t ?_;try clear t
 subst Y
 have au:b.T (v+1)=O (ki (a.eS q) v):=(aa.T _ K).trans ((s.gm.T _ W).trans Q)
 have an:=s.E.cO aa fun r f=>f▸G
 rw [T] at ag am aq
 exact ⟨rfl,Ti (w:=fun r=>cY d r∨r=v∨r=v+1) av (fun r f=>f.elim (fun f=>(R.T r fun u=>u.elim (fun u=>G (u▸f)) fun u=>W (u▸f)).symm.trans (s.mN r f)) fun f=>f.elim (fun f=>f▸aN) fun f=>f▸aT) ((R.up fun L=>.inr).ci ((s.gm.up fun L=>.inl).ci (aa.up fun L f=>.inr (.inl f)))) aY
  (fun r f=>f.elim (fun f=>f.elim (fun z=>let ⟨ao,u,_⟩:=an.Jp;⟨ao,z▸u⟩) fun ⟨P,aC⟩=>an.Ex P r aC) fun f=>f.elim (fun f=>⟨_,f▸af⟩) fun f=>⟨_,f▸au⟩) (.inr (.inr rfl)) (.inr (.inl rfl)) K au af aG.Q0 aS ag am aq x.cC aW⟩
end
def p3(a:Wd):Prop:=(kc a)∧(a.yo=p0)∧(a.eG.NoLimit)∧(∀(b:Nat)(c:dz)(g:cW),a.T.p9[b]? =O c→c.cN=.cA g→Q1 a b c g)∧(∀b,(a.T.p9[b]?).isSome=ar→lR a.K (.ref (a.jT b))=ar)∧(∀b,(a.T.p9[b]?).isSome=ar→jJ b 1000=ar)∧(∀(e:Nat)(b:lb),a.T.e7[e]? =O b→∀h∈b.kH,lR a.K (.ref (a.jT h.2))=ar)∧(∀(e:Nat)(d:lb)(c:dz)(f:List (b4×cv)),a.T.e7[e]? =O d→a.T.p9[d.gv]? =O c→c.cN=.tu e f→Bx a d.gv c f∧d.dj.length≤1000)
section
variable{a:Wd}(b:p3 a)
include b
def p3.cF:kc a:=b.1
def p3.bi:a.yo=p0:=b.2.1
def p3.JD:a.eG.NoLimit:=b.2.2.1
def p3.p9:∀(e:Nat)(c:dz)(d:cW),a.T.p9[e]? =O c→c.cN=.cA d→Q1 a e c d:=b.2.2.2.1
def p3.cR:∀c,(a.T.p9[c]?).isSome=ar→lR a.K (.ref (a.jT c))=ar:=b.2.2.2.2.1
def p3.C1:∀c,(a.T.p9[c]?).isSome=ar→jJ c 1000=ar:=b.2.2.2.2.2.1
def p3.Nd:∀(d:Nat)(c:lb),a.T.e7[d]? =O c→∀e∈c.kH,lR a.K (.ref (a.jT e.2))=ar:=b.2.2.2.2.2.2.1
def p3.abq:∀(e:Nat)(c:lb)(d:dz)(f:List (b4×cv)),a.T.e7[e]? =O c→a.T.p9[c.gv]? =O d→d.cN=.tu e f→Bx a c.gv d f∧c.dj.length≤1000:=b.2.2.2.2.2.2.2
end
def QE{g:Wd}(c:p3 g):∀d,BW g d (vC g.T d):=by
 intro d
 induction d with
 |zero=>
  exact fun h w v z a=>a.elim
 |succ d r=>
  exact fun h w v z a R L P T k l q=>by
   have o:zL g d (vC g.T d):=⟨c.cF,c.bi,c.cR,c.C1,c.Nd,r⟩
   have a:pT (jJ h 1000) _ _:=a
   unfold o7
   cases p:jJ h 1000 with
   |true=>
    rw [p] at a
    refine bU fun b=>?_
    obtain ⟨f,i,a⟩:=fj a
    refine b ?_;try clear b
    cases e:f.cN with
    |tu x m=>rw [e] at a;exact a.elim
    |cA j=>
    rw [e] at a
    refine bU fun b=>?_
    obtain ⟨K,u,a⟩:=fj a
    refine b ?_;try clear b
    exact Th c.JD (c.p9 h f j i e) (acB o j) k l q u a
   |false=>
    rw [p] at a
    generalize h-1000=Q at a⊢
    refine bU fun b=>?_
    obtain ⟨s,n,a⟩:=fj a
    obtain ⟨f,i,a⟩:=fj a
    refine b ?_;try clear b
    cases e:f.cN with
    |cA j=>rw [e] at a;exact a.elim
    |tu x m=>
    rw [e] at a
    refine bU fun b=>?_
    obtain ⟨A,t⟩:=qT a
    obtain ⟨I,y,C⟩:=of_decide_eq_true A
    subst I
    obtain ⟨F,G⟩:=c.abq _ s f m n i e
    refine b ?_;try clear b
    exact Tj c.cF c.JD n F (xo o) k l q y C G t
def dD{b:List Bool}(d:b.all id=ar)(c:Nat){a:Bool}(e:b[c]? =O a):a=ar:=lD.mp d a (gj e)
structure qj where
 fn:List cz
 sk:List cz
 kE:List cz
 eg:List cz
noncomputable def qj.jT(b:qj)(a:Nat):cz:=if a<900 then b.fn.getD a 0 else b.sk.getD (a-900) 0
noncomputable def qj.eS(b:qj)(a:Nat):cz:=b.kE.getD a 0
noncomputable def qj.kP(a:qj)(b:Nat):cz:=a.eg.getD b 0
def qp(d:r9)(b:t3)(K:gI)(e:eu)(c:Co)(f:rg)(a:qj):Wd:=⟨d,b,K,e,c,f,a.jT,a.eS,a.kP,p0⟩
noncomputable def acD:(b:cj)→Option {a:Int×kD // b=.int a.1 a.2}
 |.int c d=>O ⟨(c,d),rfl⟩
 |_=>b1
noncomputable def Q2:(b:cj)→Option {a:b4×kD // b=.str a.1 a.2}
 |.str c d=>O ⟨(c,d),rfl⟩
 |_=>b1
noncomputable def acE:(b:cj)→Option {a:cz // b=.ref a}
 |.ref a=>O ⟨a,rfl⟩
 |_=>b1
noncomputable def WJ:(c:Data)→Option {a:Array cj×Nat // c=.seq a.1 a.2}
 |.seq d b=>O ⟨(d,b),rfl⟩
 |_=>b1
noncomputable def Wa:(c:Data)→Option {a:Array nJ×Nat // c=.dict a.1 a.2}
 |.dict d b=>O ⟨(d,b),rfl⟩
 |_=>b1
noncomputable def abr:(b:Data)→Option {a:nL // b=.func a}
 |.func a=>O ⟨a,rfl⟩
 |_=>b1
noncomputable def YX:(b:FuncBody)→Option {a:List dn // b=.stmts a}
 |.stmts a=>O ⟨a,rfl⟩
 |_=>b1
noncomputable def Nh(a:ea)(b:String):Bool:=a.cls== .type b&&a.dict.isNone&&a.slots.toList.isEmpty
def JE{a:ea}{b:String}(h:Nh a b=ar):a={cls:=.type b,data:=a.data}:=g7 h fun e j f=>by
 refine bU fun c=>?_
 obtain ⟨i,g,k,⟨d⟩⟩:=a
 obtain rfl:i=.type b:=dr e
 obtain rfl:g=b1:=B4.mp j
 obtain rfl:d=[] :=l0.mp f
 refine c ?_;try clear c
 rfl
def Q3(K:gI)(b:cj)(c:cz→ea→Bool):Bool:=(acE b).any fun a=>(K.lookup a.1).any (c a.1)
def WK(K:gI)(d:String)(b:cj)(c:List cj→Bool):Bool:=Q3 K b fun f a=>Nh a d&&(WJ a.data).any fun e=>c e.1.1.toList
mutual
def LA(K:gI)(L:qj):bl→cj→Bool
 |.bX,v=>v== .none
 |.b3 b,v=>v== .bool b
 |.Z i,v=>(acD v).any fun p=>p.1.1==i
 |.ad x,v=>(Q2 v).any fun p=>p.1.1==x
 |.cQ xs,v=>WK K "tuple" v (zI K L xs)
 |.a3 xs,v=>WK K "list" v (zI K L xs)
 |.gJ _ _,_=>b2
 |.fn k,v=>v== .ref (L.jT k)
 |.kE c,v=>v== .ref (L.eS c)
 |.bi k,v=>v==p0 k
 |.ob d,v=>v== .ref (L.kP d)
def zI(K:gI)(L:qj):List bl→List cj→Bool
 |[],vs=>vs.isEmpty
 |x::xs,vs=>fO vs fun v vs=>LA K L x v&&zI K L xs vs
end
section
variable{h:r9}{f:t3}{K:gI}{d:eu}{g:Co}{j:rg}{c:qj}
def Ob{e:cj}{l:cz→ea→Bool}{i:cj→Prop}(k:Q3 K e l=ar)(m:∀a b,K.lookup a=O b→l a b=ar→i (.ref a)):i e:=
 d2 (g:=i e) k fun a o k=>by obtain ⟨b,n,p⟩:=jC k;exact o▸m a b n p
def Oc(q:K.In d){m:String}{i:cj}{l:List cj→Bool}(e:WK K m i l=ar):∃a b k,i=.ref a∧d.get? a=O (dl m b k)∧l b=ar:=
 Ob (i:=fun i=>∃a b k,i=.ref a∧d.get? a=O (dl m b k)∧l b=ar) e fun a p r e=>f4 e fun t o=>d2 o fun n s e=>by
  refine ⟨a,n.1.toList,n.2,rfl,(q a p r).trans (congrArg O ((JE t).trans ?_)),e⟩
  refine bT s ?_;rfl
mutual
def wM(X:K.In d):∀(x:bl){v:cj},LA K c x v=ar→g5 (qp h f K d g j c) d.get? x v
 |.bX,_,e=>dr e
 |.b3 b,_,e=>dr e
 |.Z i,_,e=>d2 (g:=g5 (qp h f K d g j c) d.get? (.Z i) _) e fun p q e=>⟨p.2,dr e▸q⟩
 |.ad i,_,e=>d2 (g:=g5 (qp h f K d g j c) d.get? (.ad i) _) e fun p q e=>⟨p.2,dr e▸q⟩
 |.cQ xs,_,e=>by obtain ⟨a,vs,n,e1,e2,e3⟩:=Oc X e;exact ⟨a,vs,n,e1,e2,tO X xs e3⟩
 |.a3 xs,_,e=>by obtain ⟨a,vs,n,e1,e2,e3⟩:=Oc X e;exact ⟨a,vs,n,e1,e2,tO X xs e3⟩
 |.gJ _ _,_,e=>dy e
 |.fn _,_,e=>dr e
 |.kE _,_,e=>dr e
 |.bi _,_,e=>dr e
 |.ob _,_,e=>dr e
def tO(X:K.In d):∀(xs:List bl){vs:List cj},zI K c xs vs=ar→dB (qp h f K d g j c) d.get? xs vs
 |[],_,e=>l0.mp e
 |x::xs,_,e=>d3 (e:=fun vs=>dB (qp h f K d g j c) d.get? (x::xs) vs) e fun v vs e=>f4 e fun e1 e2=>⟨v,vs,rfl,wM X x e1,tO X xs e2⟩
end
def YY(a:nJ):Bool:=(Q2 a.key).isSome
def Zu(K:gI)(e:cz):Option (Array nJ):=(K.lookup e).bind fun b=>(Wa b.data).bind fun a=>if a.1.1.toList.all YY then O a.1.1 else b1
def Od(n:K.In d){e:cz}{b:Array nJ}(a:Zu K e=O b):d.Ns e (fun q=>tX b q):=by
 refine bU fun i=>?_
 obtain ⟨m,o,a⟩:=cH a
 obtain ⟨⟨k,r⟩,_,a⟩:=cH a
 obtain ⟨t,a⟩:=eB a
 obtain rfl:=dg a
 refine i ?_;try clear i
 refine ⟨m,k.1,k.2,n _ _ o,r,fun s p=>?_,fun u=>rfl⟩
 obtain ⟨l,_⟩:=k8 (lD.mp t s (UY.mpr p))
 exact ⟨_,_,l.2⟩
def Wb(K:gI)(c:qj)(b:Array nJ)(a:b4×bl):Bool:=(tX b a.1).elim ((Ms a.1).any fun e=>LA K c a.2 e&& !(a.1==("__name__":b4))) (LA K c a.2)
noncomputable def abs(b:Array nJ)(a:String):Bool:=tX b (oA a)==b1&&Ms (oA a)==O (.type a)&& !(oA a==("__name__":b4))
def Wc(K:gI)(c:qj)(e:Nat)(b:lb)(a:b4×Nat):Bool:=[jj K (.ref (c.eS e)) a.1==O (O (.ref (c.jT a.2))),!b.dj.contains a.1,zp K (.ref (c.jT a.2))==O (.type "function"),dY (a.2<1000),lR K (.ref (c.jT a.2))].all id
def Zv(K:gI)(c:qj)(a:Nat)(b:lb):Bool:=
 [jj K (.ref (c.eS a)) "__getattribute__"==O (O (.builtin "object.__getattribute__")),jj K (.ref (c.eS a)) "__getattr__"==O b1,GV K (c.eS a),b.dj.all fun e=>jj K (.ref (c.eS a)) e==O b1,
 jj K (.ref (c.eS a)) "__setattr__"==O (O (.builtin "object.__setattr__")),GW K (c.eS a),makesIn K (c.eS a),jj K (.ref (c.eS a)) "__init__"==O (O (.ref (c.jT b.gv))),zp K (.ref (c.jT b.gv))==O (.type "function"),
 b.kH.all (Wc K c a b),lR K (.ref (c.eS a)),dY b.dj.Nodup,dY (b.dj.length≤1000)].all id
def Tk{l:Nat}{i:lb}(a:Zv K c l i=ar):kn (qp h f K d g j c) l i:=by
 have k:∀b∈i.kH,Wc K c l i b=ar:=fun b e=>lD.mp (dD a 9 rfl) b e
 exact ⟨dr (dD a 0 rfl),dr (dD a 1 rfl),dD a 2 rfl,fun m n=>dr (lD.mp (dD a 3 rfl) m n),dr (dD a 4 rfl),dD a 5 rfl,dD a 6 rfl,dr (dD a 7 rfl),dr (dD a 8 rfl),
  fun b e=>⟨dr (dD (k b e) 0 rfl),fun o=>kx ((eC (dD (k b e) 1 rfl)).symm.trans (rb.mpr o)),dr (dD (k b e) 2 rfl)⟩,fun b e=>of_decide_eq_true (dD (k b e) 3 rfl),dD a 10 rfl,of_decide_eq_true (dD a 11 rfl)⟩
end
def HC(K:gI)(b:cz):Option (Array nJ):=(K.lookup b).bind fun a=>if Nh a "dict"=ar then (Wa a.data).map fun c=>c.1.1 else b1
def Q4(K:gI)(b:qj):List nJ→List (b4×bl)→Bool
 |[],a=>a.isEmpty
 |c::e,a=>fO a fun d a=>(Q2 c.key).any (fun f=>f.1.1==d.1)&&LA K b d.2 c.val&&Q4 K b e a
def We(a:cj):b4:=(Q2 a).elim ⟨#[]⟩ fun b=>b.1.1
def HashOk(b:t0)(a:List nJ):Prop:=a.map (·.hash)=a.map fun c=>U8 b (We c.key)
def YZ(K:gI)(a:qj)(b:Nat)(d:List (b4×bl)):Bool:=(HC K (a.kP b)).any fun c=>Q4 K a c.toList d&& !(a.kP b==qG)
def entsOf(K:gI)(a:cz):List nJ:=(HC K a).elim [] MH
section
variable{e:r9}{c:t3}{K:gI}{a:eu}{d:Co}{f:rg}{b:qj}
def QF{j:cz}{h:Array nJ}(g:HC K j=O h):∃o,K.lookup j=O ⟨.type "dict",b1,.dict h o,#[]⟩:=by
 refine bU fun k=>?_
 obtain ⟨m,n,g⟩:=cH g
 obtain ⟨p,g⟩:=eB g
 obtain ⟨⟨l,i⟩,_,g⟩:=dC g
 refine k ?_;try clear k
 have i:m.data=.dict h l.2:=g▸i
 exact ⟨l.2,n.trans (congrArg O ((JE p).trans (by (refine bT i ?_;rfl))))⟩
def IB{h:t0}:∀{g:List nJ}{i:List (b4×bl)},Q4 K b g i=ar→HashOk h g→KeysLit h g:=by
 intro g
 induction g with
 |nil=>
  intro _ _ _
  exact trivial
 |cons m g q=>
  intro i a n
  obtain ⟨o,r⟩:=GY n
  refine d3 (e:=fun k=>KeysLit h (m::g)) a fun t i a=>g7 a fun p k s=>d2 p fun l j k=>⟨⟨l.1,l.2,j,o.trans ?_⟩,q s r⟩
  show U8 h (We m.key)=_
  refine bT j ?_;rfl
def QG(v:K.In a)(h:b4):∀{j:List nJ}{i:List (b4×bl)},Q4 K b j i=ar→
  (i.lookup h=b1→(j.find? fun g=>zr h g.key).map (·.val)=b1)∧∀k,i.lookup h=O k→∃m,(j.find? fun g=>zr h g.key).map (·.val)=O m∧g5 (qp e c K a d f b) a.get? k m:=by
 intro j
 induction j with
 |nil=>
  intro i g
  refine bT (l0.mp g) ?_
  exact ⟨fun x=>rfl,fun k l=>e0 l⟩
 |cons g j q=>
  intro i o
  exact d3 (e:=fun i=>(i.lookup h=b1→((g::j).find? fun g=>zr h g.key).map (·.val)=b1)∧∀k,i.lookup h=O k→∃m,((g::j).find? fun g=>zr h g.key).map (·.val)=O m∧g5 (qp e c K a d f b) a.get? k m) o fun p i o=>g7 o fun n w s=>d2 n fun y l n=>by
   obtain ⟨u,t⟩:=q s
   have r:zr h g.key=(h==p.1):=by (refine bT l ?_;refine gT (dr n) ?_);exact MK
   (refine bT Ci ?_;rewrite [tT];refine bT r ?_)
   cases h==p.1 with
   |true=>exact ⟨fun l=>e0 l.symm,fun k l=>⟨g.val,rfl,dg l▸wM v _ w⟩⟩
   |false=>exact ⟨u,t⟩
end
def Zw(K:gI)(c:cz)(d:nL→List dn→Bool):Bool:=(K.lookup c).any fun b=>(abr b.data).any fun a=>(YX a.1.body).any fun e=>[!a.1.scope.isCoroutine,!a.1.scope.isGenerator,a.1.scope.kind== .function,a.1.closure.isEmpty,dY (a.1.globals=pJ),dY (a.1.builtins=qH),codeIn K a.1.code a.1.qualname,d a.1 e.1].all id
def Ni(K:gI)(d:qj)(b:cj)(a:List bl):Bool:=cond (b== .none) a.isEmpty (Q3 K b fun f c=>(WJ c.data).any fun e=>a.isEmpty||zI K d a e.1.1.toList)
noncomputable def JF(a:Mz)(b:List b4):Bool:=[a.posonlyargs.isEmpty,a.vararg.isNone,a.kwonlyargs.isEmpty,a.kwarg.isNone,dY (a.args.map (·.arg)=b),dY b.Nodup].all id
noncomputable def wN(b:Sc)(a:b4):Bool:=b.lookup a==O .local||(b.lookup a==O .cell&& !(a==("__classdict__":b4)))
def sC(c:Sc)(b:List b4):fF:=(b.zipIdx.filter fun a=>b.idxOf a.1==a.2&&wN c a.1).map fun a=>(a.2,a.1)
def Oe(c:Sc)(a:List b4)(b:Nat):Bool:=[dY (a.take b).Nodup,dY (b≤a.length),(a.take b).all (wN c),dY ((sC c a).map (·.1)).Nodup,dY ((sC c a).map (·.2)).Nodup].all id
noncomputable def Y0(a:dz):Bool:=a.c3.isEmpty||decide (a.b9=2∧a.c3.length=1∧a.cn.take 2=[("code":b4),("outer":b4)])
def WM(K:gI)(d:qj)(a:dz)(c:Nat)(b:nL)(e:Bool):Bool:=[Ni K d b.defaults a.c3,Y0 a,JF b.params (a.cn.take c),Oe b.scope.names a.cn c,e].all id
def abt(K:gI)(e:rg)(d:qj)(a:dz):Ve→nL→List dn→Bool
 |.cA g,b,c=>WM K d a a.b9 b (xn e b.scope.names (sC b.scope.names a.cn) g c)
 |.tu _ f,b,c=>WM K d a (a.b9+1) b (dY (a.cn.length=a.b9+1)&&Dg e b.scope.names (sC b.scope.names a.cn) f c)
def fnK(K:gI)(d:rg)(a:qj)(b:Nat)(c:dz):Bool:=lR K (.ref (a.jT b))&&Zw K (a.jT b) (abt K d a c c.cN)
noncomputable def zJ{b:Type}(c:Nat→b→Bool):Nat→List b→Bool
 |_,[] =>ar
 |a,d::e=>c a d&&zJ c (a+1) e
noncomputable def acF(K:gI)(a:cz):Bool:=(K.lookup a).isSome&&dY (qG<a)
def WN(K:gI)(a:rg)(b:qj):Bool:=[(Zu K pJ).any fun c=>a.pS.all (Wb K b c)&& ["range","enumerate","zip"].all (abs c),zJ (Zv K b) 0 a.e7,zJ (YZ K b) 0 a.ll,zJ (fnK K a b) 0 a.p9,acF K (b.jT 0),dY (a.p9.length≤1000)].all id
section
variable{f:r9}{d:t3}{K:gI}{a:eu}{e:Co}{c:rg}{b:qj}
def yy{h:Sc}{g:b4}(a:wN h g=ar):h.lookup g=O .local∨(h.lookup g=O .cell∧(g==("__classdict__":b4))=b2):=
 (nR.mp a).imp dr fun a=>f4 a fun i j=>⟨dr i,eC j⟩
def LB{h:Sc}{i:List b4}{l:Nat}(a:Oe h i l=ar):hG h i l (sC h i):=by
 have m:∀g∈sC h i,i[g.1]? =O g.2∧wN h g.2=ar:=fun g j=>by
  obtain ⟨q,k,rfl⟩:=hJ.mp j
  obtain ⟨k,p⟩:=l3.mp k
  exact ⟨List.mem_zipIdx_iff_getElem?.mp k,(gq p).2⟩
 exact ⟨of_decide_eq_true (dD a 3 rfl),of_decide_eq_true (dD a 4 rfl),fun g j=>(m g j).1,fun g j=>yy (m g j).2,fun o n=>(yy (lD.mp (dD a 2 rfl) o n)).imp id (·.1),of_decide_eq_true (dD a 0 rfl),of_decide_eq_true (dD a 1 rfl)⟩
def IC{h:Mz}{g:List b4}(a:JF h g=ar):iw h g:=
 ⟨l0.mp (dD a 0 rfl),B4.mp (dD a 1 rfl),l0.mp (dD a 2 rfl),B4.mp (dD a 3 rfl),of_decide_eq_true (dD a 4 rfl),of_decide_eq_true (dD a 5 rfl)⟩
def QH(o:K.In a){n:nL}{h:List bl}(g:Ni K b n.defaults h=ar):xq (qp f d K a e c b) n h:=by
 unfold Ni at g
 unfold xq
 generalize n.defaults=j at g⊢
 cases k:j== .none with
 |true=>
  rw [k] at g
  exact .inl ⟨dr k,l0.mp g⟩
 |false=>
  rw [k] at g
  have g:Q3 K j (fun u i=>(WJ i.data).any fun m=>h.isEmpty||zI K b h m.1.1.toList)=ar:=g
  refine Ob (i:=fun j=>(j=.none∧h=[])∨∃(l:cz)(i:ea)(p:Array cj)(s:Nat),j=.ref l∧a.get? l=O i∧i.data=.seq p s∧(h≠ [] →dB (qp f d K a e c b) a.get? h p.toList)) g fun l i t g=>d2 g fun m k g=>.inr ⟨l,i,m.1,m.2,rfl,o _ _ t,k,fun q=>?_⟩
  exact tO o _ ((nR.mp g).resolve_left fun r=>q (l0.mp r))
def Wf(n:K.In a){p:Nat}{j:dz}{o:nL→List dn→Bool}{q:Prop}{l:Nat}{r:nL→List dn→Bool}(w:∀h i,o h i=ar→WM K b j l h (r h i)=ar)(g:Zw K (b.jT p) o=ar)
  (y:∀m h i,nr (qp f d K a e c b) p j m h i→iw h.params (j.cn.take l)→hG h.scope.names j.cn l (sC h.scope.names j.cn)→r h i=ar→q):q:=by
 obtain ⟨m,s,g⟩:=jC g
 refine d2 g fun h v g=>d2 g fun i t g=>?_
 have k:=w _ _ (dD g 7 rfl)
 refine y m h i ⟨n _ _ s,v,eC (dD g 0 rfl),eC (dD g 1 rfl),dr (dD g 2 rfl),t,l0.mp (dD g 3 rfl),of_decide_eq_true (dD g 4 rfl),of_decide_eq_true (dD g 5 rfl),codeRec_of n (dD g 6 rfl),QH n (dD k 0 rfl),fun x=>?_⟩ (IC (dD k 2 rfl)) (LB (dD k 3 rfl)) (dD k 4 rfl)
 exact of_decide_eq_true ((nR.mp (dD k 1 rfl)).resolve_left fun u=>x (l0.mp u))
def abu(o:K.In a){l:Nat}{g:dz}{h:cW}(m:g.cN=.cA h)(k:fnK K c b l g=ar):Q1 (qp f d K a e c b) l g h:=
 Wf o (l:=g.b9) (r:=fun i j=>xn c i.scope.names (sC i.scope.names g.cn) h j) (fun i j k=>by rw [m] at k;exact k) (gq k).2 fun n i j p h r q=>⟨n,i,j,_,p,h,r,q⟩
def abv(q:K.In a){m l:Nat}{g:dz}{k:List (b4×cv)}(n:g.cN=.tu l k)(j:fnK K c b m g=ar):Bx (qp f d K a e c b) m g k:=
 Wf q (l:=g.b9+1) (r:=fun h i=>dY (g.cn.length=g.b9+1)&&Dg c h.scope.names (sC h.scope.names g.cn) k i) (fun h i j=>by rw [n] at j;exact j) (gq j).2 fun p h i s r l t=>f4 t fun o u=>⟨p,h,i,_,s,r,l,of_decide_eq_true o,u⟩
def LC{k:Type}{m:Nat→k→Bool}:∀{h:List k}{i g:Nat}{j:k},zJ m i h=ar→h[g]? =O j→m (i+g) j=ar:=by
 intro h
 induction h with
 |nil=>
  intro _ g
  rcases g with _|_
  ·intro _ _ a
   exact e0 a
  ·intro _ _ a
   exact e0 a
 |cons p o n=>
  intro i g
  rcases g with _|g
  ·intro j l a
   exact dg a▸(gq l).1
  ·intro j l a
   exact y4 i g▸n (gq l).2 a
def r4{g:Type}{k:Nat→g→Bool}{i:List g}{h:Nat}{j:g}(l:zJ k 0 i=ar)(a:i[h]? =O j):k h j=ar:=kU h▸LC l a
def Of{g:cj→Prop}[DecidablePred g](a:∀i∈A8,g i)(j:g (.type "tuple"))(h:Nat):g (p0 h):=EB a j h
def Nj(h:t0)(K:gI)(b:qj)(c:rg):Prop:=∀i<c.ll.length,∀g,HC K (b.kP i)=O g→HashOk h g.toList
def Tl(i:K.In a)(n:WN K c b=ar)(ao:Nj d.params K b c){r:b4→Option cj}(I:a.Ns qH r)(P:∀p:b4,p≠"__name__"→r p=Ms p)(al:a.NoLimit):p3 (qp f d K a e c b):=by
 refine bU fun g=>?_
 obtain ⟨aq,an,C⟩:=jC (dD n 0 rfl)
 refine g ?_;try clear g
 have w:=dD n 1 rfl
 have T:=dD n 2 rfl
 have x:=dD n 3 rfl
 have A:=Od i an
 have ac:∀h,(c.p9[h]?).isSome=ar→jJ h 1000=ar:=fun h l=>by
  obtain ⟨u,k⟩:=k8 l
  exact LY.mpr (hH (fJ.mp k).1 (of_decide_eq_true (dD n 5 rfl)))
 refine ⟨⟨i,?_,fun h=>Of (g:=fun q=>q≠ .none) (by decide) (by decide) h,fun aA t q j=>?_,fun t am=>?_,fun h=>Of (g:=fun q=>Cs q=ar) (lD.mp (show A8.all Cs=ar from rfl)) rfl h,fun G h l=>Tk (r4 w l),fun W av L=>?_⟩,rfl,al,
  fun h u aB k z=>abu i z (r4 x k),fun h l=>by obtain ⟨u,k⟩:=k8 l;exact (gq (r4 x k)).1,ac,fun G h l ag ae=>dD (lD.mp (dD (r4 w l) 9 rfl) ag ae) 4 rfl,
  fun G aw u az ah k z=>⟨abv i z (r4 x k),of_decide_eq_true (dD (r4 w ah) 12 rfl)⟩⟩
 ·refine bU fun g=>?_
  obtain ⟨o,m⟩:=gq (dD n 4 rfl)
  obtain ⟨ak,aa⟩:=k8 o
  refine g ?_;try clear g
  exact ⟨_,ak,i _ _ aa,of_decide_eq_true m⟩
 ·have j:=lD.mp (gq C).1 _ (gj j)
  unfold Wb at j
  cases s:tX aq t with
  |some v=>
   rw [s] at j
   exact ⟨_,v,A,wM i _ j,.inl s⟩
  |none=>
   rw [s] at j
   refine bU fun g=>?_
   obtain ⟨v,ab,j⟩:=jC j
   refine g ?_;try clear g
   refine f4 j fun o m=>⟨_,v,A,wM i _ o,.inr ⟨s,r,I,(P _ fun y=>?_).trans ab⟩⟩
   rw [y] at m
   exact dy m
 ·have au:=lD.mp (gq C).2 t am
  refine g7 au fun o m F=>⟨_,r,A,dr o,I,(P _ fun y=>?_).trans (dr m)⟩
  rw [y] at F
  exact dy F
 ·refine bU fun g=>?_
  obtain ⟨ai,Q,X⟩:=jC (r4 T L)
  obtain ⟨R,af⟩:=gq X
  obtain ⟨ay,Y⟩:=QF Q
  refine g ?_;try clear g
  refine ⟨_,mapOf_K i Y (IB R (ao W (fJ.mp L).1 ai Q)),eC af,fun p=>?_⟩
  have:=QG (e:=f) (c:=d) (a:=a) (d:=e) (f:=c) i p R
  rw [UZ] at this
  exact this
end
def Tn{e:eu}{d:cz}{a b:b4→Option cj}(n:e.Ns d a)(j:e.Ns d b):a=b:=by
 refine bU fun g=>?_
 obtain ⟨r,s,p,k,i,_,m⟩:=n
 obtain ⟨q,t,o,f,h,_,l⟩:=j
 refine g ?_;try clear g
 rw [k] at f;obtain rfl:=dg f
 rw [i] at h;cases h
 exact funext fun c=>(m c).symm.trans (l c)
noncomputable def acG(a:t8):Option Int:=match a with
 |.int b=>O b
 |_=>b1
noncomputable def abw(a:t8):Option (List t8):=match a with
 |.list b=>O b
 |_=>b1
def To{e:t0}{g:eu}{a:cj}{b:t8}{c:Int}(f:Well e g a b)(d:acG b=O c):∃h,a=.int c h:=by
 cases f<;>first|exact cG d|(obtain rfl:=dg d;exact ⟨_,rfl⟩)
def QI{c:t0}{a:eu}{b:cj}{f:t8}{g:List t8}(k:Well c a b f)(h:abw f=O g):∃d e,b=.ref d∧a.get? d=O {cls:=.type "list",data:=.seq (e:List cj).toArray}∧WellAll c a e g:=by
 cases k with
 |list i j=>obtain rfl:=dg h;exact ⟨_,_,rfl,i,j⟩
 |_=>exact cG h
def LD{m:Wd}{g:di}{i:t0}{l:eu}{a:List Int}:∀{b:List cj},WellAll i l b (a.map .int)→dB m g (a.map .Z) b:=by
 induction a with
 |nil=>intro b c;cases c;rfl
 |cons q a j=>
  intro b c
  refine bU fun d=>?_
  obtain ⟨h,f,o,k,n⟩:=wellAll_cons_inv c
  obtain ⟨p,e⟩:=To k rfl
  refine d ?_;try clear d
  exact ⟨h,f,o,⟨p,e⟩,j n⟩
def QJ{a:Nat}{b:List t8}{d:WRecords}(c:(WTm.not (.lt (.lit (.int a)) (.len (.arg 0)))).holds d {args:=[.list b]}=ar):b.length≤a:=by
 have g:WTm.value d (WTm.not (.lt (.lit (.int a)) (.len (.arg 0)))) {args:=[.list b]}=O (.bool (!dY ((a:Int)<(b.length:Int)))):=by rfl
 unfold WTm.holds at c
 rw [g] at c
 cases e:dY ((a:Int)<(b.length:Int)) with
 |false=>exact jI.mp fun f=>of_decide_eq_false e (kY.mpr f)
 |true=>rw [e] at c;exact dy c
def QK{b:OpenLaw}(a:List t8):b.row.toRowW.claim.post a (.bool ar) a=ar:=
 postW_of (r:=b.row.toRowW) (d:=.bool ar) (X:=ar) rfl (show WTm.value _ (.eq .res (.lit (.bool ar))) _=_ by wtm_val) (by simp [PySem.W.same])
set_option tactic.hygienic true in
def QL{l:OpenLaw}{q:Program}{loose:List Str}{XP:(Str→Option Value)→Heap→Prop}{K:Params→Frag}{as:List Addr}{he:∀P,as=(K P).map (·.1)}{d:DefRec}{kwd:List (Str×PySem.Expr)}{T:rg}{L:qj}{k AS:Nat}
  (hk:Nat.blt k 1000=true) (acK:AS≤100) (abx:l.most=some 63) (top:∀P,WN (K P) T L=true) (hash:∀P,Nj P (K P) L T) (main:∀P,(Zu (K P) mainGlobals).bind (fun es=>nsFind es d.name)=some (.ref (L.jT k)))
  (law:∀is:List Int,is.length≤63→vC T AS k [.f (.a3 (is.map .Z))] [] fun v q9=>v=.f (.b3 true)):
  WalkO q loose XP (kHook K as he).says l.row.toRowW d kwd fun f vs=>PySem.call f vs:=by
 intro w s₀ s₁ mg mb G Y fa o pm cd doc dV kV ho hd hcd hD hmg hg args vals as' acH acL hrd hwl hlo
 have KX:(K w.params).In s₁.heap:=kIn_of Y
 refine bU fun kz=>?_
 obtain ⟨hsh,aby⟩:=pre_splitW acH
 obtain ⟨x,r,rfl,hx,hr⟩:=hasAllW_cons hsh
 obtain rfl:r=[] :=by cases r with
  |nil=>rfl
  |cons a b=>simp [WShape.hasAll] at hr
 obtain ⟨xs,rfl,hit⟩:=hasW_list hx
 obtain ⟨ns,rfl⟩:=items_int hit
 have hlen:ns.length≤63:=by
  have h0:l.pre.holds [] {args:=[.list (ns.map .int)]}=true:=aby
  unfold OpenLaw.pre at h0
  rw [abx] at h0
  have:=QJ (a:=63) (holds_andW h0).1
  rw [List.length_map] at this
  exact this
 have hT:=Tl (f:=l.row.toRowW.prog) (d:=w) (e:=s₁.os) (c:=T) (b:=L) KX (top _) (hash _) G.T.b G.T.builtins G.T.nolimit
 obtain ⟨es,h1,h2⟩:=cH (main w.params)
 have:mg d.name=nsFind es d.name:=congrFun (Tn G.T.g (Od KX h1)) d.name
 rw [hmg,h2] at this
 obtain rfl:fa=L.jT k:=by cases this;rfl
 refine kz ?_;try clear kz
 refine bU fun kz=>?_
 obtain ⟨v,us,rfl,hw1,hw2⟩:=wellAll_cons_inv hwl
 obtain rfl:us=[] :=by cases hw2;rfl
 obtain ⟨a,vs,rfl,g,hwi⟩:=QI hw1 rfl
 refine kz ?_;try clear kz
 have S:c7 (qp l.row.toRowW.prog w (K w.params) s₁.heap s₁.os T L) ⟨s₁.heap.get?,fun q9=>none,[]⟩ [] s₁:={
  cC:=rfl
  pZ:=.nil
  uv:=fun a h=>absurd h List.not_mem_nil
  kQ:=k4.cy _
  ey:=fun a o e=>e
  hN:=fun a o e=>cG e
  hF:=fun a o e=>rfl
  jx:=fun a h=>absurd h List.not_mem_nil
  nB:=fun i a mo h=>cG h
  qg:=hg
  A1:=rfl}
 have hA:xi callerA AS:=⟨rfl,by show 1+claimMargin+4*AS<recursionLimit;simp [claimMargin,recursionLimit];lia,by show 4+20*AS+20<cLine;simp [cLine];lia⟩
 have:=QE hT AS k _ _ _ (law ns hlen) _ s₁ [.ref a] callerA hA S ⟨.ref a,[],rfl,⟨a,vs,_,rfl,g,LD hwi⟩,rfl⟩
 unfold o7 at this
 rw [hk] at this
 refine this.mQ fun u s' hz=>?_
 obtain ⟨m,AO,g',l',ru,S',e⟩:=hz
 refine GoodW.toG ⟨.inl ⟨u,.bool true,[],rfl,fun cls=>rfl,?_,QK _,fun q9=>⟨.nil,fun a h=>absurd h List.not_mem_nil⟩⟩,fun b o e=>S'.ey b o (l'.F _ _ e),S'.A1,S'.qg⟩
 subst e
 obtain rfl:u=.bool true:=ru
 exact .bool true
def QM{c:t0}{K:gI}{b:qj}{d:rg}(g:∀a<d.ll.length,HashOk c (entsOf K (b.kP a))):Nj c K b d:=fun a f h e=>by
 have:=g a f
 unfold entsOf at this
 rw [e] at this
 exact this
noncomputable def Zx:qj:=⟨[77,84,105,112,133,147,303,313,334,341,355,369,374,381,388,395,400,407,421,431,438,445,450,457,464,471,476,483,490,497,504,511,518,525,539,546,551,558,563,578,585,592,599,606,613,620,627,634,641,648,655,660,665,670,675,680,687,694,701,706,713,718,725,732,737],[52,39,21,224,231,161,320,327,182,168,196,238,203,189,175,217,210],[87,115,150,410],[239,304]⟩
def law_here{e:OpenLaw}{q:r9}{l:List b4}{j:(b4→Option cj)→eu→Prop}{K:t0→gI}{d:List cz}{r:∀a,d=(K a).map (·.1)}{b:DefRec}{o:List (b4×ce)}
  (g:e.most=O 63) (f:∀a,WN (K a) cq Zx=ar) (k:∀a,HashOk a (entsOf (K a) 239)) (h:∀a,HashOk a (entsOf (K a) 304)) (n:∀a,(Zu (K a) pJ).bind (fun p=>tX p b.name)=O (.ref (Zx.jT MQ))):
  WalkO q l j (kHook K d r).says e.row.toRowW b o fun i m=>gg i m:=
 QL (T:=cq) (L:=Zx) (k:=MQ) (AS:=40) rfl (by decide) g f (fun a=>QM fun b c=>by
  have c:b<2:=c
  exact oB (b:=fun b=>HashOk a (entsOf (K a) (Zx.kP b))) (k a) (oB (h a) Wg) b c) n SM
end
end Mine
end
namespace Mine.all
def tw17053130121481772103:=True
def tw10168888151487559394:=True
def tw6147308635103535561:=True
def tw10793401674749092046:=True
def tw16949009020806574942:=True
def tw12926644002878227130:=True
def tw3347175955162335329:=True
def tw16223638597430114740:=True
def tw4631590275013254457:=True
def tw13455461431897201640:=True
def tw16400751074865733910:=True
def tw10156424416328317940:=True
def tw15158558636265767147:=True
def tw13900070722340429276:=True
def tw8616835277999145119:=True
def tw11433317345382964763:=True
def tw17800948086707717751:=True
def tw5247617807198155932:=True
def tw397829171339713761:=True
def tw4818641064637329869:=True
def tw6742200501135914891:=True
def tw16644902639655322133:=True
def tw14057782590025463129:=True
def tw18441473437031201941:=True
def tw17393663094203119047:=True
def tw10407399669362838719:=True
def tw3357559941945735724:=True
def tw11223482586740685078:=True
def tw16424727738075169484:=True
def tw6686757251022233349:=True
def tw9385597778382524922:=True
def tw13505173894226300209:=True
def tw16382669320497122081:=True
def tw14549113301119539810:=True
def tw5002070824922625533:=True
def tw9807931448117422837:=True
def tw12512054102949984058:=True
def tw6360596673044215761:=True
def tw10971250334911043752:=True
def tw4244794441018138637:=True
def tw9600454056292803967:=True
def tw1750280776747563624:=True
def tw13282074430368766303:=True
def tw17360653242477243975:=True
def tw13492775673106092688:=True
def tw12248520049373816357:=True
def tw7546461858588002845:=True
def tw14229981574245695772:=True
def tw5044639097624668846:=True
def tw13233751423148406618:=True
def tw2995925781233325151:=True
def tw2362829445674453831:=True
def tw17523770736405063376:=True
def tw7317653850160689691:=True
def tw6946980451890315270:=True
def tw15612066896164977022:=True
def tw16183010546200382306:=True
def tw16526751206710464603:=True
def tw8486705261324164726:=True
def tw15618092478124507917:=True
def tw9301309066579124778:=True
def tw409914518651768084:=True
def tw8968355716326206664:=True
def tw13280447903547772812:=True
def tw1081408078033650336:=True
def tw15242674970999812785:=True
def tw2863937026978368667:=True
def tw3630066180865283129:=True
def tw18422150028754028023:=True
def tw11051373392699811023:=True
def tw3282140407130366615:=True
def tw5718967094426423161:=True
def tw15248031165874397040:=True
def tw17069222317715477625:=True
def tw6896591704953265671:=True
def tw10923070005692675132:=True
def tw4613487602407358717:=True
def tw4214497047443048748:=True
def tw4215066571649420964:=True
def tw2494268533263957097:=True
def tw13320810954380615167:=True
def tw6000898611042668290:=True
def tw16296590348105434372:=True
def tw11158953913317867288:=True
def tw9186790425516483314:=True
def tw16665526110328478529:=True
def tw17424916104665291489:=True
def tw4831860214510110302:=True
def tw16700318575013349798:=True
def tw14242173848286271349:=True
def tw6495733333828780514:=True
def tw5004987881651496831:=True
def tw3905375630023619888:=True
def tw3339628229899013760:=True
def tw10677670038743541358:=True
def tw17846619120630023766:=True
def tw10371379177274702309:=True
def tw3586251380002802234:=True
def tw9379264858417805688:=True
def tw13717024376598296668:=True
def tw888978351763286717:=True
def tw18058516629519361111:=True
def tw2997595627926355555:=True
def tw11925040711228000680:=True
def tw12381699962588209086:=True
def tw8076105961534405009:=True
def tw15849158762323818722:=True
def tw10912467617979834864:=True
def tw29985565223642888:=True
def tw5191467471856622273:=True
def tw9960083256741680508:=True
def tw4463848349969469772:=True
def tw11102767992079720913:=True
def tw10649901628825759099:=True
def tw14832718209330476552:=True
def tw1768962640154500726:=True
def tw14771985120617686802:=True
def tw14615947125993099273:=True
def tw16740921855470316824:=True
def tw1832691508475867565:=True
def tw9111709882147129655:=True
def tw10696458614491829572:=True
def tw6836359950869179439:=True
def tw1326175403826912198:=True
def tw16592893570014863828:=True
def tw16176830815697697194:=True
def tw9833964599435250050:=True
def tw11961059351148515626:=True
def tw13423135486485445016:=True
def tw8711421783369662179:=True
def tw8661065196793792047:=True
def tw13376464931078446103:=True
def tw16785538882571980543:=True
def tw11951307492845570281:=True
def tw16857469709051444266:=True
def tw7385006340035058783:=True
def tw5675193095830314289:=True
def tw10393596885623623503:=True
def tw5727973534668710794:=True
def tw12994552909553032409:=True
def tw8678582069086723682:=True
def tw2531900633515307401:=True
def tw5815207240830897808:=True
def tw10289937546816008636:=True
def tw14044709251442629906:=True
def tw11489409643829403841:=True
def tw4240545211757986076:=True
def tw7660858615051961871:=True
def tw11686026206685797588:=True
def tw8223707996358447380:=True
def tw13057232943065969744:=True
def tw201708328148552895:=True
def tw4302931102428780990:=True
def tw16339503202031470875:=True
def tw10307609814444822809:=True
def tw8749193726656077916:=True
def tw10389294372677164839:=True
def tw4338314545742005754:=True
def tw18120535436291149196:=True
def tw9496632788025766839:=True
def tw15585509438621463966:=True
def tw9609096358927944886:=True
def tw17818293817903590521:=True
def tw13509908655624090359:=True
def tw898707613593260451:=True
def tw3578222212851893600:=True
def tw12428716410969305734:=True
def tw11113120797386210373:=True
def tw17468886310826310451:=True
def tw9762715593372247759:=True
def tw11736780227944870738:=True
def tw3898467250045930460:=True
def tw225468126006155290:=True
def tw10131221437080536637:=True
def tw11230645906715702508:=True
def tw4719354141242184269:=True
def tw2638793534194840904:=True
def tw1172340538976468734:=True
def tw15651733941924773997:=True
def tw5463181917568680212:=True
def tw10127320685908719325:=True
def tw5362506446432344171:=True
def tw11091474679367250208:=True
def tw12447178028490564450:=True
def tw4950485280699123642:=True
def tw11877403491279123046:=True
def tw5439016543574858206:=True
def tw17447734377096445370:=True
def tw2842816785644039571:=True
def tw18107075240765231021:=True
def tw2000609977361463965:=True
def tw14721843458392949018:=True
def tw14832659646925512398:=True
def tw9642480246203547912:=True
def tw4154878040674242839:=True
def tw4765306392115962693:=True
def tw11931918283646908614:=True
def tw9397017562490477109:=True
def tw16739844878667351699:=True
def tw9107108562952019494:=True
def tw15059917014629022394:=True
def tw1752733083305661762:=True
def tw10479794009275464340:=True
def tw9570754706468278650:=True
def tw5657931515703916248:=True
def tw1095929389519559783:=True
def tw7205895575636617080:=True
def tw13135058765949404771:=True
def tw15968848678202421516:=True
def tw6651456455751515877:=True
def tw1088589479996732829:=True
def tw9022205114861038860:=True
def tw9764797518255496921:=True
def tw8316665608867782698:=True
def tw18048758015052009589:=True
def tw17408919567675379883:=True
def tw11051709101105081487:=True
def tw17711910997332876922:=True
def tw1323426155142419162:=True
def tw13370487131934946175:=True
def tw2557191316624668217:=True
def tw14421808642430287336:=True
def tw14940032972901115816:=True
def tw9327985806830046984:=True
def tw9285670843845949155:=True
def tw16171933092410999983:=True
def tw1885294564261713141:=True
def tw12724949091593755947:=True
def tw5884965284304258897:=True
def tw14003663102062188800:=True
def tw13663018214320142090:=True
def tw11084693905056812178:=True
def tw15670805634923389295:=True
def tw328508388705569248:=True
def tw4195489330254351329:=True
def tw15014361466247048854:=True
def tw4498182102138418894:=True
def tw9133701021851612117:=True
def tw525001674005675781:=True
def tw5377772837010204750:=True
def tw8111057081096800836:=True
def tw13172091369480311280:=True
def tw18168848097628341329:=True
def tw8474492796817999161:=True
def tw6853843781069519680:=True
def tw9441028803360468251:=True
def tw17411639873488161413:=True
def tw15389465554420088467:=True
def tw1352723322627576488:=True
def tw4982120401116994425:=True
def tw8700193116743927733:=True
def tw16573077582942348641:=True
def tw18291108133853008933:=True
def tw7957553974722075628:=True
def tw8108845850537571710:=True
def tw14076077854437140390:=True
def tw2412950195513398651:=True
def tw13431290835526063760:=True
def tw14822214895437561417:=True
def tw1644255569911684797:=True
def tw1238725946784135233:=True
def tw8203446524507428889:=True
def tw18369841484834026144:=True
def tw14883968960377749705:=True
def tw15145278206449419223:=True
def tw9448091282758670523:=True
def tw1734884918528286522:=True
def tw2597219025779639433:=True
def tw8706731066875689191:=True
def tw13283931332471535325:=True
def tw10600613889749566790:=True
def tw15575253945988166476:=True
def tw6223034424235540279:=True
def tw5747321363474778693:=True
def tw17740860788197283744:=True
def tw890751993682150155:=True
def tw4965207536615798822:=True
def tw5558808128744370633:=True
def tw12267468486907949403:=True
def tw3140866203998610647:=True
def tw5601264028959731896:=True
def tw8013882960148741844:=True
def tw4722931859811370693:=True
def tw4814944892674192296:=True
def tw9952970006915852218:=True
def tw1717485560449817402:=True
def tw12885334096101347146:=True
def tw7867681300357518899:=True
def tw4005113011885737416:=True
def tw7918374967389245632:=True
def tw8630030210275731936:=True
def tw7657994479303150727:=True
def tw9543871751676338751:=True
def tw3108443244893856389:=True
def tw3185962312253278316:=True
def tw3390864358609898268:=True
def tw1585303152785439333:=True
def tw15902913901339227234:=True
def tw17260577670642009320:=True
def tw16876236935048986776:=True
def tw9241353231930656577:=True
def tw3832104259330054055:=True
def tw11120492362615346026:=True
def tw5646740079091317433:=True
def tw16926426053830025025:=True
def tw14478419276589960357:=True
def tw11446199593928302625:=True
def tw9405301459192476718:=True
def tw1142058581544160548:=True
def tw9843424985483213050:=True
def tw14151137839513740329:=True
def tw4613981591765525805:=True
def tw6271033356711949733:=True
def tw11045270430615452010:=True
def tw15054863418237798948:=True
def tw4645612490112672357:=True
def tw335442867052375821:=True
def tw3702781205502781313:=True
def tw7492772011675989385:=True
def tw5715779271170130959:=True
def tw6635096433462372448:=True
def tw11273133048781285286:=True
def tw7848317997028865603:=True
def tw18111398738982083773:=True
def tw8096221689764760052:=True
def tw1075291646940621582:=True
def tw13132907815185506690:=True
def tw6347893289988391699:=True
def tw6189357195160471388:=True
def tw561872325786274548:=True
def tw12304872625307995750:=True
def tw8398887430952950212:=True
def tw15198316981687975854:=True
def tw11242623580682996947:=True
def tw7778630667622746703:=True
def tw8621771247159374411:=True
def tw4049413732980777947:=True
def tw9700507354520375304:=True
def tw12985212532813657682:=True
def tw7946034326556018432:=True
def tw14099800850047386279:=True
def tw8166991320080258738:=True
def tw9900696922168193843:=True
def tw6176105912117767087:=True
def tw11777086365064915542:=True
def tw14274756557212989909:=True
def tw8728704332973717658:=True
def tw2114198189418970486:=True
def tw4438364104728389296:=True
def tw4874642235004048027:=True
def tw14365998534574843411:=True
def tw17368901067910498557:=True
def tw6178583632892115015:=True
def tw5440085390276978291:=True
def tw16069983636010489082:=True
def tw2972125363121769464:=True
def tw14523845485542788104:=True
def tw5061037604254504937:=True
def tw15541118713287057729:=True
def tw7347661181068853997:=True
def tw6169999212503205497:=True
def tw5870148494974776200:=True
def tw9090173269774583996:=True
def tw4382491568596388571:=True
def tw8401958774316805891:=True
def tw18003279642469066050:=True
def tw2020152571437148077:=True
def tw10175558820241607032:=True
def tw7686242042924871683:=True
def tw13467292715098799918:=True
def tw5248012151768918434:=True
def tw8146785798897364014:=True
def tw1215526528800860966:=True
def tw3780143478300131934:=True
def tw12899656968702213925:=True
def tw13966652886959378514:=True
def tw6717767316833874322:=True
def tw6860577389561355601:=True
def tw785864177541677141:=True
def tw4786962568827011835:=True
def tw6846761488900895589:=True
def tw13723625003827874073:=True
def tw13220695134330190930:=True
def tw4350801690150286559:=True
def tw15519761934197397234:=True
def tw7255959162708018199:=True
def tw2406872565856053176:=True
def tw16877496141331604692:=True
def tw2627396739876165418:=True
def tw3138800457800853586:=True
def tw16149317719023688252:=True
def tw8121427672614705931:=True
def tw3443626597506986169:=True
def tw16985871876413990642:=True
def tw9976896545867408452:=True
def tw8670540905479144303:=True
def tw15471726915170369524:=True
def tw16188822405700688499:=True
def tw1758426702102747128:=True
def tw8419203004499243131:=True
def tw17026743227940831712:=True
def tw1226283177544027977:=True
def tw12540455083557110006:=True
def tw13358604424828501309:=True
def tw13185015893256467352:=True
def tw6674347012523051200:=True
def tw1291087626157917732:=True
def tw5217560924200664910:=True
def tw6888782338466086140:=True
def tw14201790961670687459:=True
def tw11744878476890876738:=True
def tw17084071853196174921:=True
def tw7779009951696393383:=True
def tw14504465163362997928:=True
def tw6794366774042380578:=True
def tw5689438673786977140:=True
def tw14648276583578725374:=True
def tw7785168158365692624:=True
def tw3737605839529819480:=True
def tw13042374122123996364:=True
def tw17371863055441782679:=True
def tw5476340991381562312:=True
def tw10130366669087276332:=True
def tw6849123771955923804:=True
def tw5761313309558253367:=True
def tw12784588452913835247:=True
def tw12981892083367582941:=True
def tw13960862262899742394:=True
def tw13133649945303734352:=True
def tw1859658367360657537:=True
def tw1298631472846954095:=True
def tw10681620039792923934:=True
def tw1963270939698246839:=True
def tw18433669859833586122:=True
def tw14648097213134440425:=True
def tw2750322548573693319:=True
def tw14661163797125724070:=True
def tw5615934883764171431:=True
def tw16457593375850944212:=True
def tw8312510263607220780:=True
def tw17914837950057056417:=True
def tw10576110018494610262:=True
def tw16788233547135642414:=True
def tw17112464921883037887:=True
def tw2442836877315861853:=True
def tw16567661231398824811:=True
def tw7442053078452299063:=True
def tw18074533905802821072:=True
def tw3448833343719912132:=True
def tw11784725038316003381:=True
def tw7654578318931278690:=True
def tw583233376362171505:=True
def tw3477183460249832127:=True
def tw10277526245819850656:=True
def tw15284455985751111415:=True
def tw9592678889267232940:=True
def tw6721464258858852875:=True
def tw5103420120806187630:=True
def tw17740187900682377756:=True
def tw10942295900298899174:=True
def tw17106608494224303150:=True
def tw282076826160197541:=True
def tw5162543521180666497:=True
def tw14849280956162755979:=True
def tw6280451789465376435:=True
def tw3153289441736887298:=True
def tw11448872678469705673:=True
def tw766856551031688912:=True
def tw16232008947845578158:=True
def tw11563076530477234726:=True
def tw17899929404969355535:=True
def tw596421839371371174:=True
def tw15305453227285626446:=True
def tw9069304868558884969:=True
def tw13186973799741327244:=True
def tw12819504698909858696:=True
def tw2316775634158704177:=True
def tw14204109254541194217:=True
def tw17717444079117462278:=True
def tw2792250951161479536:=True
def tw12180536567876656950:=True
def tw14066901625076523032:=True
def tw7779866328928976063:=True
def tw18074999733426924212:=True
def tw4547723090059260100:=True
def tw14539000326390715668:=True
def tw7062720368445256129:=True
def tw3849640880644552707:=True
def tw18118164260907729349:=True
def tw13492395982464255480:=True
def tw14647661154017913664:=True
def tw8486076525276431931:=True
def tw18343157571677020557:=True
def tw5646013916729498261:=True
def tw4801688742562958406:=True
def tw7238125184777875665:=True
def tw2235618017368140517:=True
def tw14310873030558110092:=True
def tw4835796080096327916:=True
def tw15906484144062456574:=True
def tw549974085012918235:=True
def tw14899674885815798178:=True
def tw17394647144938102915:=True
def tw5553432485147669529:=True
def tw12254430714555821875:=True
def tw7824222052329908659:=True
def tw6873541528101158377:=True
def tw8838840417862019655:=True
def tw1446525512094189494:=True
def tw7000523462626781010:=True
def tw2543849888741498996:=True
def tw76700771618905059:=True
def tw2013830700403712203:=True
def tw1985402699469526011:=True
def tw9163178095015654352:=True
def tw14984247238865676675:=True
def tw3165661143165402847:=True
def tw13607757164722159089:=True
def tw13874455239767017017:=True
def tw17485024515217194642:=True
def tw16987476370533704557:=True
def tw15076152544538823220:=True
def tw14200518018382609147:=True
def tw15363977820855282535:=True
def tw3530542369196619228:=True
def tw4156143147478942181:=True
def tw7619113539625694710:=True
def tw8865166961438382494:=True
def tw3855190133869164905:=True
def tw8026366407565007962:=True
def tw15331906349341453337:=True
def tw13930999109560414629:=True
def tw8397605616207071183:=True
def tw5543487718492105064:=True
def tw125183967897747985:=True
def tw12267322187703008927:=True
def tw6656463916972431421:=True
def tw4907521953547317329:=True
def tw7130465076275759521:=True
def tw10034031380863371641:=True
def tw7091565871241343341:=True
def tw9455471141526271117:=True
def tw3527972740633252992:=True
def tw14420213329864412023:=True
def tw12803817524326497440:=True
def tw14511287757244466272:=True
def tw18094267598192979275:=True
def tw6900727353157573822:=True
def tw9131408386013701786:=True
def tw11330118131623060689:=True
def tw2366535826993118143:=True
def tw18068929663759586442:=True
def tw5931688323066260514:=True
def tw17314943208353570444:=True
def tw11639333894188339638:=True
def tw17133528431856770972:=True
def tw17772726858579744284:=True
def tw14106571916235994328:=True
def tw5103548895888603802:=True
def tw1163122323300966013:=True
def tw11038128598146805730:=True
def tw7272270352196073673:=True
def tw281770217567036725:=True
def tw8901488873923373992:=True
def tw7525655301032184626:=True
def tw247909236438806434:=True
def tw4899250830898163692:=True
def tw10227051316576381974:=True
def tw8219367837509555709:=True
def tw15176617289070330970:=True
def tw2711446468545577505:=True
def tw12394350090093965224:=True
def tw8183209053709734173:=True
def tw5555718599999811639:=True
def tw5221675337516389627:=True
def tw14124840197023413450:=True
def tw10252965763247687682:=True
def tw4544264296663088324:=True
def tw11333907896045031016:=True
def tw12926333453430215753:=True
def tw10640348836240559591:=True
def tw200202858802481044:=True
def tw3468823194966119755:=True
def tw16084742875079473383:=True
def tw16773635481313006432:=True
def tw741329169588805604:=True
def tw12028550053918628185:=True
def tw14847532645272441617:=True
def tw3783704252341326843:=True
def tw14288127532215574351:=True
def tw11692948248621729924:=True
def tw12563031120210811263:=True
def tw15414233836422861205:=True
def tw10856765595117590405:=True
def tw3020832510069240704:=True
def tw2496985677507960046:=True
def tw8593244855664925795:=True
def tw4014216774688872946:=True
def tw7514489123796633772:=True
def tw16576222957257545530:=True
def tw4258606087713283508:=True
def tw5750698986362780913:=True
def tw14848961488311411958:=True
def tw4128963183011607505:=True
def tw15888951733556516598:=True
def tw6648324312943424196:=True
def tw16447172759540358135:=True
def tw8948736912299370593:=True
def tw3482175957882590323:=True
def tw13434531468450553753:=True
def tw15105651507014581045:=True
def tw433751870149770472:=True
def tw9386671084012761886:=True
def tw16433278489552267077:=True
def tw2891402810631288588:=True
def tw3835962111665225711:=True
def tw9743695723290020096:=True
def tw4716985721665009587:=True
def tw3082626142003458053:=True
def tw15451204947285891726:=True
def tw14929683446248860828:=True
def tw15393178847056368160:=True
def tw306535358961565008:=True
def tw1973140245219671491:=True
def tw1586037315452845605:=True
def tw9514876090768664877:=True
def tw15766547542915688834:=True
def tw1604050991321148793:=True
def tw10634939071730365363:=True
def tw13928513891281363954:=True
def tw4610591934557721198:=True
def tw6635522753158126860:=True
def tw755134328155928439:=True
def tw5919330448614353153:=True
def tw10312239555926195531:=True
def tw8322597137079436277:=True
def tw10081088541268293599:=True
def tw7852760074147458260:=True
def tw15926794790568321017:=True
def tw5781126440621211168:=True
def tw1694654335647164047:=True
def tw9196661522157602471:=True
def tw7193976414177721783:=True
def tw13027540482245733427:=True
def tw8373720323635723369:=True
def tw884644925536651315:=True
def tw17408048037380319038:=True
def tw10316705163991428254:=True
def tw10640303290150162726:=True
def tw5657447785659697480:=True
def tw8734355875116408662:=True
def tw4634341240264483431:=True
def tw15151187641303801864:=True
def tw9099960808112739735:=True
def tw17259241986408110582:=True
def tw497388943360791162:=True
def tw13912068318134460016:=True
def tw15097909243742831393:=True
def tw13134017275888359689:=True
def tw9351078540693612215:=True
def tw5927061715728957476:=True
def tw10787622589932112302:=True
def tw14331890051309236264:=True
def tw7347299435816893626:=True
def tw13100642850353945058:=True
def tw11441816438227186863:=True
def tw6516363680345034613:=True
def tw17933553581876595578:=True
def tw15354443143932468990:=True
def tw1639981616727947583:=True
def tw16444899576201249432:=True
def tw16739083755425606968:=True
def tw13887551421349579326:=True
def tw8909644736058714228:=True
def tw10416409784342031977:=True
def tw17558465517493045558:=True
def tw13752750167953387420:=True
def tw8315046463243809389:=True
def tw17711473739705145481:=True
def tw8820459466428253018:=True
def tw11093295523969242068:=True
def tw18433079168191953831:=True
def tw4198835854440487071:=True
def tw12071712058454129317:=True
def tw14074921412963316263:=True
def tw8689057759390064058:=True
def tw44263415142174766:=True
def tw14068239771850734003:=True
def tw11169558830825096451:=True
def tw10773934983489079739:=True
def tw4847766330237268548:=True
def tw7234240908195146063:=True
def tw2121406354128448821:=True
def tw10379842876597259683:=True
end Mine.all
section
open PySem PySem.W PyProof.Rows
set_option Elab.async true
set_option maxRecDepth 100000 in
set_option maxHeartbeats 0 in
theorem Mine.all : PySem.Challenge.rw_sm0024_01.Holds := by
  w_on; o_law; k_head; (case hw => w_witness2)
  refine Mine.law_here rfl (fun P => ?_) (fun P => ?_) (fun P => ?_) (fun P => ?_)
  · kernel_rfl
  · unfold Mine.HashOk; kernel_rfl
  · unfold Mine.HashOk; kernel_rfl
  · kernel_rfl
end
theorem PySem.Challenge.cw_sm0024_01_holds : PySem.Challenge.rw_sm0024_01.Holds :=
  Mine.all
