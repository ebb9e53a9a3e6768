import PyProof.Rows.All
import Wide.All
import OpenK.AllK
import Wide.FinOn
import Lean
import PySem.Challenge.RW_pq1443_01
set_option maxRecDepth 100000
set_option maxHeartbeats 1000000
set_option Elab.async false
set_option linter.all false
set_option compiler.extract_closed false
set_option tactic.hygienic false
set_option genCtorIdx false
set_option genSizeOf false
set_option genInjectivity false
noncomputable section
open PySem.Str renaming ofString→No,empty→QE,length_append→Sb,ofString_eq_toList→Te
open Nat renaming le_trans→Np,le_of_ble_eq_true→NJ,le_of_eq→NL,le_add_right→NS,lt_of_le_of_lt→NV,ne_of_lt→N1,lt_of_lt_of_le→N2,ne_of_gt→N6,add_le_add_right→Ob,le_refl→Oe,zero_le→Ol,zero_add→Ot,add_le_add_left→Oz,eq_of_beq_eq_true→OG,le_of_lt→OI,add_assoc→OU,add_le_add→O4,add_comm→O6,beq→O8,succ_ne_zero→Pu,le_of_not_lt→Pv,casesAuxOn→Pw,pos_of_ne_zero→Pz,le_succ→PC,le_succ_of_le→PH,add_sub_cancel'→PQ,lt_of_succ_lt_succ→P4,ble_eq_true_of_le→Qc,le_max_right→Qd,add_right_comm→Qu,blt→Qx,le_of_lt_succ→QF,lt_irrefl→QN,succ_ne_self→QW,succ_le_succ→QX,lt_succ_self→QY,le_max_left→Rl,le_add_left→Rm,mod_lt→R8,succ_pos→Sf,max_eq_right→So,max_eq_left→Sy,le_antisymm→Sz,ble→S2,pos_of_lt_add_right→S8,lt_add_of_pos_right→S9,le_of_succ_le_succ→Tg,beq_refl→Tj,mul_le_mul_left→TK,cast→TX,sub_add_eq_max→TY,sub_add_cancel→TZ,lt_of_le_of_ne→T0,eq_zero_or_pos→T1,sub_pos_of_lt→Ug
open List renaming length_map→Nq,append_nil→Nr,append_cons→ND,length_append→NH,getElem?_eq_getElem→NI,lookup_cons→NK,replicate→NM,mem_cons→NQ,map_cons→NT,map_append→N8,map_map→Oc,length_replicate→Od,map_congr_left→Oj,append_assoc→Om,not_mem_nil→Oo,nodup_cons→Op,range→Ou,contains_cons→Ox,any_cons→OA,lookup→OB,length_range→OC,isEmpty_iff→OO,mem_of_getElem?→OP,length_cons→OY,getElem_mem→OZ,filterMap_cons→O2,getElem?_map→Pd,filter_cons→Pf,getElem?_eq_none→Pi,foldl→Pm,nil_append→Pn,map_nil→Pp,getElem_of_mem→Pq,map_replicate→Py,reverse_cons→PE,getElem?_append_left→PK,cons_ne_nil→PN,map→PU,tail_eq_of_cons_eq→PX,head_eq_of_cons_eq→PY,filter_cons_of_pos→PZ,filter_cons_of_neg→P0,length_set→Qi,find?_cons→Qj,replicate_succ→Qk,getElem?_append_right→Qn,all_map→Qo,nodup_nil→Qt,length_filterMap_le→QD,range'→QK,findIdx?→QL,forIn_cons→Q9,foldl_cons→Ra,range_eq_range'→Rv,mem_of_mem_drop→Rx,map_take→RN,all_cons→RO,flatten_replicate_singleton→RX,any_map→Sa,map_reverse→Si,drop_length→Sj,eq_nil_of_length_eq_zero→Sk,drop_left→SK,eq_of_mem_replicate→SS,pairwise_singleton→SY,getElem?_set_self→Tb,length_take_le'→Tn,getElem?_set_ne→Tp,getElem?_append→Tq,findIdx?_append→Tr,length→Tt,length_reverse→Tv,zip_cons_cons→TL,map_singleton→TM,length_range'→TN,findIdx?_cons→TP,filterMap_nil→TQ,size_toArray→T2,range'_succ→Uh,length_drop→Uj
open Bool renaming false_ne_true→Nt,noConfusion→NG,and_eq_true→NY,not_eq_true'→Oi,or_eq_false_iff→OS,not_eq_false'→O7,or_false→O9,or_true→PA,or_eq_true→PB,false_eq_true→Qq,false_or→QM,decide_or→RB,and_false→SL,or_assoc→SV,and_true→SW
open PySem renaming Expr→Nu,wpAny_bind→Nv,wpAny_pure→NP,wpAny_loadPart'→N7,NameKind→Ov,wpAny_holding→Oy,wpAny_standAt→OH,wpAny_mono→OJ,mainGlobals→OW,Stmt→O0,bindName→Pa,wpAny_richCompare_same_room→Pg,Operator→Ph,sizeLine_eq→Po,DictEntry→Pr,wpAny_loadPart_at→Ps,wpAny_newObj_type→PL,codeAmong→PT,excClassObj→P1,Arguments→P5,Comprehension→P7,cellsFrom→Qf,wpAny_newFunctionEnv→Ql,ExceptHandler→Qp,call_meets→Qr,wpAny_field→Qy,wpAny_isSubtype_exc→QA,list_getitem_lookup→QC,sizeLine→QH,wpAny_mkText→QI,call_meetsIn→QJ,compareOp→Q0,sysModules→Q3,builtinsNs→Q4,assignEach→Q5,wpAny_dictEntries→Q6,arm_eval_Constant→Q7,valueAt→Rc,codeAny→Re,GenState→Rg,wpAny_forIn_list→Ru,OsState→RH,bootBuiltins→RL,codeAny_builtin→RM,wpAny_letTemporaryGo→RU,wpAny_setField→R1,wpAny_loadPart→R2,recursionLimit→R3,letTemporaryGo→R4,Program→R6,assignInOrder→Sl,arm_execs_nil→Sm,newFields→Sn,standAt→Sv,getMethod_builtin→Sx,codeAny_mono→SI,strKind→SP,loadName→SU,evalPairs→S3,TriplesOk→S5,getitemInPython→S6,arm_execs_cons→Ti,wpAt_of_wpAny→Tl,wpAny_call→Ts,wpAny_getItem_list_slice→Tu,MeetsIn→TD,swappedStores→TF,plainId_quiet→TG,arm_eval_Name→TH,slicePick→T8,seqIndex?→T9,pairTrees→Ua,wpAny_storeName_local→Uc,codeAny_call_function→Ud,wpAt_bind→Ue,dropValue→Uf
open _root_ renaming congrArg→Nw,of_decide_eq_true→Nx,decide_eq_false→Ny,decide_eq_true→NF,beq_self_eq_true→Oh,of_decide_eq_false→Pb,decide_eq_true_eq→PM,beq_false_of_ne→Qz,decide_false→RK,if_true→TC,if_false→TE
open Exists renaming elim→Nz
open Int renaming natCast_nonneg→NB,le_trans→NC,lt_of_lt_of_le→OD,lt_of_le_of_lt→OE,le_of_lt→OM,lt_trans→Pc,toNat_of_nonneg→Pt,sub_nonneg_of_le→PJ,sub_le_self→P2,emod_nonneg→P3,natAbs_of_nonneg→Qe,ne_of_gt→Qs,emod_lt_of_pos→Qw,neg_nonpos_of_nonneg→QG,toNat_sub→QO,eq_ofNat_of_zero_le→QT,toNat_lt→Ri,sub_one_lt_of_le→RC,le_sub_one_of_lt→RE,add_comm→Sg,ediv_nonneg→SA,ofNat_natAbs_of_nonpos→SM,le_add_of_nonneg_right→SN,sub_le_sub→SQ,neg_nonneg_of_nonpos→S0,lt_irrefl→S7,sub_zero→Tk,sub_le_sub_right→Tw,add_one_le_of_lt→Tz,add_le_add_right→TA,le_refl→TI,add_lt_add_left→TS,add_sub_cancel→T4
open Option renaming some_ne_none→NN,bind→N0,map→Os,isNone_iff_eq_none→Pj,map_some→PS,or_none→Rk,isSome_map→RP
open And renaming elim→NO
open PySem.Heap renaming get?_push_of_some→NR,get?_none_of_le→NX,get?_push_size→N9,get?_update_self→OL,SameBut→OT,lt_size→O5,get?_update_other→Px,DictOf→Qg,DictAt→Ss,get?_update_ne→TB,get?_push_at→T5
open Array renaming getElem?_eq_getElem→Oq,length_toList→Pe,getElem?_toList→Qa,getElem?_eq_none→QU,toList_append→RG,any_toList→Sd,toList_push→TU,getElem_mem→TV
open PySem.Heap.SameBut renaming update→OQ,refl→PP
open Ne renaming symm→Pk
open PySem.Value renaming noConfusion→PD
open PySem.PyData renaming keyHash→PI
open PySem.Obj renaming putName→P6,isFreed_of_fields→Rn,mapFields→RT,data_mapFields→RV
open PySem.Builtin.Int renaming intBits→P9
open PySem.Txt renaming slice→Qb,item→S4,join→TW,rjustF→Ub
open Std.Legacy.Range renaming forIn_eq_forIn_range'→Qm
open PySem.W renaming hasDictIn→QZ,plainGet→Rf,looks_findIn→SH,instObj→S1
open PySem.Builtin.Tuple renaming tupleCompareSizes→Q8
open PySem.Around renaming under_plainId→Rb
open PySem.Builtin.Dict renaming dictSlotArgs→RS,samePairs→Se
open PySem.Builtin.Range renaming rangeSize→RY,small→Sq
open PySem.Builtin.List renaming listTooLong→RZ
open Eq renaming trans→R0
open PySem.Heap.IsSliceOf renaming new→Sp
open PySem.AutoSeq1 renaming sub_tuple_tuple→Sr,sub_list_list→SG
open PySem.Builtin.Str renaming tooLong→SD
open PySem.SeqAt renaming EqAt→SJ
open Char renaming toNat→SO
open PySem.F renaming slot_int_rmul→SR,slot_dict_eq→SX,slot_list_reverse→Uk
open PySem.Manifest renaming canonical→Ta
open PySem.BindsTo renaming of_defaults→Tc,of_eq→Um
open PySem.SeqAt.EqAt renaming same→Tf
open PyProof.Rows renaming joinParts_cons→Th
open False renaming elim→TJ
open PySem.Code renaming quiet_builtin→TT
open Function renaming comp→T6
namespace Mine.Internal
open PySem PySem.W PyProof.Rows PySem.Calls
universe uu
@[elab_as_elim] theorem MC{α:Sort uu}{a b:α}{P:α→Prop}(h:a=b)(e:P b):P a:=h▸e
@[elab_as_elim] theorem MD{α:Sort uu}{a b:α}{P:α→Prop}(h:a=b)(e:P a):P b:=h▸e
@[elab_as_elim] theorem MB{α:Sort uu}{a b:α}{P:α→Prop}(h:a=b)(d:∀Q:α→Prop,Q b→Q a)(e:P b):P a:=h▸e
@[elab_as_elim] theorem MA{α:Sort uu}{a b:α}{P:α→Prop}(h:a=b)(d:∀Q:α→Prop,Q b→Q a)(e:P a):P b:=h▸e
local macro_rules
  | `(tactic| repeat1' $t:tacticSeq) => `(tactic| (refine (?f : (?A = ?N) → ?N → ?A) ?e ?h; (case e => $t); (case f => exact fun _ h => h)))
  | `(tactic| rewrite [$h:term]) => `(tactic| first | (repeat1' refine MB ($h ..) (fun _ z => z) ?_; exact rfl) | refine MC ($h ..) ?_ | fail)
  | `(tactic| rewrite [← $h:term]) => `(tactic| first | (repeat1' refine MA ($h ..) (fun _ z => z) ?_; exact rfl) | refine MD ($h ..) ?_ | fail)
  | `(tactic| rewrite [$r:rwRule, $rs,*]) => `(tactic| (rewrite [$r]; rewrite [$rs,*]))
  | `(tactic| show $t:term) => `(tactic| refine (?_ : $t))
  | `(tactic| unfold $i:ident) => `(tactic| first | (repeat1' conv => (lhs; unfold $i:ident)) | fail)
local macro_rules | `(tactic| ac_rfl) => `(tactic| kernel_rfl)
local macro_rules | `(tactic| symm) => `(tactic| walk_at "m")
local macro_rules | `(tactic| exists $t:term) => `(tactic| (refine $t; walk_at "m"))
section
set_option genCtorIdx true in
set_option genInjectivity true in
inductive V where
 | none | bool (b:Bool) | int (i:Int) | str (s:Str) | ref (a:Addr) | ty (n:String) | bi (id:String) | oth
 deriving DecidableEq
noncomputable def er:Value→V
 | .none=>.none
 | .bool b=>.bool b
 | .int i _=>.int i
 | .str s _=>.str s
 | .ref a=>.ref a
 | .type n=>.ty n
 | .builtin id=>.bi id
 | _=>.oth
theorem ac{α:Type}{a:α}{P:Prop}(h:none=some a):P:=nomatch h
inductive oC{α β:Type}(o:Option α)(f:α→Option β)(b:β):Prop
 | mk(a:α)(h:o=some a)(h':f a=some b)
theorem oC.el{α β:Type}{o:Option α}{f:α→Option β}{b:β}{P_:Prop}(h_:oC o f b)(k_:∀(a:α) (h:o=some a) (h':f a=some b),P_):P_:=oC.rec (motive:=fun ζ=>P_) k_ h_
theorem aR{α β:Type}{o:Option α}{f:α→Option β}{b:β}(h:o.bind f=some b):oC o f b:=by
 induction o with
 | none=>exact ac h
 | some a=>exact ⟨a,rfl,h⟩
theorem gD{v:Value}(h:er v=.none):v=.none:=by induction v using PySem.Value.casesOn<;>first | rfl | exact V.noConfusion h
theorem mj{v:Value}{b}(h:er v=.bool b):v=.bool b:=by induction v using PySem.Value.casesOn<;>first | exact Nw _ (V.bool.inj h) | exact V.noConfusion h
theorem fM{v:Value}{i}(h:er v=.int i):∃t,v=.int i t:=by induction v using PySem.Value.casesOn<;>first | exact ⟨_,Nw (Value.int · _) (V.int.inj h)⟩ | exact V.noConfusion h
theorem jE{v:Value}{i}(h:er v=.str i):∃t,v=.str i t:=by induction v using PySem.Value.casesOn<;>first | exact ⟨_,Nw (Value.str · _) (V.str.inj h)⟩ | exact V.noConfusion h
theorem dC{v:Value}{i}(h:er v=.ref i):v=.ref i:=by induction v using PySem.Value.casesOn<;>first | exact Nw _ (V.ref.inj h) | exact V.noConfusion h
theorem uK{v:Value}{i}(h:er v=.ty i):v=.type i:=by induction v using PySem.Value.casesOn<;>first | exact Nw _ (V.ty.inj h) | exact V.noConfusion h
theorem yE{v:Value}{i}(h:er v=.bi i):v=.builtin i:=by induction v using PySem.Value.casesOn<;>first | exact Nw _ (V.bi.inj h) | exact V.noConfusion h
@[elab_as_elim] theorem lR{v:Value}{P:Value→Prop}(h:er v=.none)(k:P .none):P v:=gD h▸k
@[elab_as_elim] theorem iR{v:Value}{b}{P:Value→Prop}(h:er v=.bool b)(k:P (.bool b)):P v:=mj h▸k
@[elab_as_elim] theorem az{v:Value}{a}{P:Value→Prop}(h:er v=.ref a)(k:P (.ref a)):P v:=dC h▸k
@[elab_as_elim] theorem sL{v:Value}{a}{P:Value→Prop}(h:er v=.ty a)(k:P (.type a)):P v:=uK h▸k
@[elab_as_elim] theorem bb{v:Value}{i}{P:Value→Prop}(h:er v=.int i)(k:∀t,P (.int i t)):P v:=(fM h).elim fun t e=>e▸k t
@[elab_as_elim] theorem bC{v:Value}{i}{P:Value→Prop}(h:er v=.str i)(k:∀t,P (.str i t)):P v:=(jE h).elim fun t e=>e▸k t
@[elab_as_elim] theorem ay{α:Type uu}{P:Option α→Prop}{o:Option α}(f:o=none→P none)(t:∀a,o=some a→P (some a)):P o:=match o,f,t with | none,f,_=>f rfl | some a,_,t=>t a rfl
@[elab_as_elim] theorem eQ{α:Type uu}{P:Option α→Prop}{o:Option α}(t:∀a,o=some a→P (some a))(f:o=none→P none):P o:=ay (P:=P) (o:=o) f t
@[elab_as_elim] theorem vc{α:Type uu}{P:Option α→Prop}{o:Option α}(f:P none)(t:∀a,P (some a)):P o:=ay (P:=P) (o:=o) (fun ζ=>f) fun a ζ=>t a
@[elab_as_elim] theorem aG{P:Bool→Prop}{o:Bool}(f:o=false→P false)(t:o=true→P true):P o:=match o,f,t with | false,f,_=>f rfl | true,_,t=>t rfl
@[elab_as_elim] theorem aw{P:Bool→Prop}{o:Bool}(t:o=true→P true)(f:o=false→P false):P o:=aG (P:=P) (o:=o) f t
@[elab_as_elim] theorem dP{P:Bool→Prop}{o:Bool}(f:P false)(t:P true):P o:=aG (P:=P) (o:=o) (fun ζ=>f) fun ζ=>t
@[elab_as_elim] theorem yM{P:Bool→Prop}{o:Bool}(t:P true)(f:P false):P o:=aG (P:=P) (o:=o) (fun ζ=>f) fun ζ=>t
@[elab_as_elim] theorem nS{α:Type uu}{P:List α→Prop}{o:List α}(f:o=[]→P [])(t:∀a l,o=a::l→P (a::l)):P o:=match o,f,t with | [],f,_=>f rfl | a::l,_,t=>t a l rfl
theorem Ko{a b:Nat}(e:a=b)(l:b≤100000):a≤16777216:=Np (NL e) (Np l (by decide))
theorem xW{a b:Nat}(e:a=b)(l:b≤100000):a≤QH:=Np (Ko e l) (NL sizeLine_eq.symm)
theorem GF{a b:Nat}(e:a=b)(l:b≤100000):(a:Int)<2^63:=OE (Int.ofNat_le.mpr (Np (NL e) l)) (by decide)
theorem L5{a b:Nat}(e:a=b)(l:b≤100000) : ¬ (a:Int) ≥ 2^63:=Int.not_le.mpr (GF e l)
theorem Iz{n:Int}{b:Nat}(h:n<b)(l:b≤100000):n<2^63:=Pc h (GF rfl l)
theorem MM{n:Int}{a b:Nat}(e:a=b)(h:n<b):n<a:=e▸h
theorem JP{a k c b:Nat}(l:k≤b):a+k+c≤a+(c+b):=by
 rw[Qu,← OU];exact Oz l _
theorem JQ(i:Int):(if i<0 then -i else i)=(i.natAbs:Int):=if h:i<0 then (if_pos h).trans (SM (OM h)).symm else (if_neg h).trans (Qe (Int.not_lt.mp h)).symm
theorem pN{i:Int}{k:Nat}(h0:0≤i)(h:i<k):i.natAbs<k:=(Int.ofNat_natAbs_of_nonneg h0▸Int.ofNat_lt.mp ((Qe h0).symm▸h))
theorem KP{n:Int}(h0:0≤n)(h1:n≤1000) : -9223372036854775808≤n∧n<9223372036854775808:=⟨NC (by decide) h0,OE h1 (by decide)⟩
theorem MO{n:Int}(h1:n≤100000)(h0 : -100000≤n) : -9223372036854775808≤n∧n<9223372036854775808:=⟨NC (by decide) h0,OE h1 (by decide)⟩
theorem HA{a b c d:Nat}(e1:a=c)(e2:b=d)(l:c+d≤100000):a+b≤16777216:=e1▸e2▸Np l (by decide)
theorem GE{n:Int}{k:Nat}(h:n≤k):n.toNat≤k:=Int.toNat_le.mpr h
theorem KF{n:Int}{a b:Nat}(e:a=b)(h:0≤n+b) : -(a:Int)≤n:=e▸Int.zero_sub b▸Int.sub_right_le_of_le_add h
theorem MJ{n:Int}{b:Nat}(l:b≤100000)(h:0≤n+b) : -2^63≤n:=NC (Int.neg_le_neg (NC (Int.ofNat_le.mpr l) (by decide))) (KF rfl h)
theorem F9{i:Int}{k:Nat}(h0 : -(k:Int)<i)(h:i<k):i.natAbs<k:=(Int.le_total 0 i).elim (fun p=>pN p h) fun p=>Int.natAbs_neg i▸pN (S0 p) (Int.neg_lt_of_neg_lt h0)
theorem ze{a b:Nat}(h:b≤2000) : -100000≤(a:Int)-b:=NC (by decide:(-100000:Int)≤0-(2000:Nat)) (SQ (NB _) (Int.ofNat_le.mpr h))
theorem K0{a b:Nat}(ha:a≤2000)(hb:b≤1000):a+(b-a)≤100000:=Np (O4 ha (Np (Nat.sub_le _ _) hb)) (by decide)
theorem Lg{i:Int}{n:Nat}(h:0<i)(hb:i≤100):(i-1).toNat<n+100:=N2 ((Ri (RE h)).mpr (RC hb)) (Rm 100 n)
theorem Iw(n m:Nat):((min n m:Nat):Int)=min (n:Int) m:=by rw[Nat.min_def,Int.min_def];exact (apply_ite TX ..).trans (ite_congr (propext Int.ofNat_le.symm) (fun ζ=>rfl) fun ζ=>rfl)
theorem wW(n m:Nat):max (n:Int) m=(max n m:Nat):=by rw[Nat.max_def,Int.max_def];exact (ite_congr (propext Int.ofNat_le) (fun ζ=>rfl) fun ζ=>rfl).trans (apply_ite TX ..).symm
theorem KG{i j:Int}(h : -i-1=j) : -j-1=i:=by rw[← h,Int.neg_sub,Int.sub_neg,Sg,T4]
theorem Ja{a b:Nat}(h:a+b≤5000):a<100000:=NV (Np (NS _ _) h) (by decide)
theorem Js{a d L:Nat}(h:a+10*(d+1)+20<L):a+1+10*d+20<L:=NV (Ob (JP (k:=1) (b:=10) (by decide)) 20) h
theorem Jt{a d L:Nat}(h:a+10*(d+1)+20<L):a<L:=NV (Np (NS _ _) (NS _ _)) h
theorem J7{a d L:Nat}(h:a+60*(d+1)+200<L):a+3+60*d+200<L:=NV (Ob (JP (k:=3) (b:=60) (by decide)) 200) h
theorem Lc{a d L:Nat}(h:a+60*(d+1)+200<L):a+1+60*d+200<L:=NV (Ob (JP (k:=1) (b:=60) (by decide)) 200) h
theorem IV{j k n:Nat}(h:j+k=n)(l:j<n):j+1+(k-1)=n:=by
 subst h;exact (OU j 1 (k-1)).trans (Nw (j + ·) (PQ (S8 l)))
theorem IU{j k n:Nat}(h:j+k=n)(l:j<n):k-1<k:=Nat.sub_one_lt (N6 (S8 (h▸l)))
theorem xH{a b:Str}{m n:Nat}(h:a.length≤m)(h':b.length≤n):(a++b).length≤m+n:=Np (NL (Sb _ _)) (O4 h h')
abbrev Lo:=Str→Option V
set_option genInjectivity true in
inductive O where
 | list(xs:List V)
 | tup(xs:List V)
 | sdict(es:List (Str×V))(ep:Nat)
 | idict(es:List (Int×V))
 | inst(C:Addr)(fs:List (Str×V))
 | cell(v:Option V)
 | rng(lo hi:Int)
 | lam(qual:Str)(body:Nu)(scope:Scope)(cl:List (Str×Addr))(cd:Addr)
 | code(qual:Str)
 | tab(ps:Array Value)
abbrev AH:=Addr→Option O
noncomputable def upd(H:AH)(a:Addr)(o:O):AH:=fun b=>if b=a then some o else H b
theorem aj(H:AH)(a:Addr)(o:O):upd H a o a=some o:=if_pos rfl
theorem am{H:AH}{a b:Addr}{o:O}(h:b≠a):upd H a o b=H b:=if_neg h
noncomputable def O.isInst:O→Bool
 | .inst ..=>true
 | _=>false
noncomputable def bO(x:Str):Bool:=x==No "shared"
noncomputable def rJ(x:Str)(v:Value):V:=if bO x then .oth else er v
structure Cx where
 prog:R6
 w:World
 h₀:Heap
 mg:Str→Option Value
 mb:Str→Option Value
 K:Frag
 os:RH
 X:K.In h₀
 G:h₀.Ns OW mg
 B:h₀.Ns Q4 mb
 hb:∀x:Str,x≠"__name__"→mb x=RL x
 nolimit:h₀.NoLimit
 nodigits:∃mc,h₀.Ns cStatics mc∧mc "sys.int_max_str_digits" = none
 smods:∃o,h₀.get? Q3=some o
 argA:Addr
 argXs:Array Value
 argN:Nat
 argAt:h₀.get? argA=some { cls:=.type "list",data:=.seq argXs argN }
 bmain:∃bm ob,mg "__builtins__" = some (.ref bm)∧bm≠Q4∧h₀.get? bm=some ob∧ob.cls=.type "module"∧ob.dict=some Q4∧ob.data=.plain
inductive bK:List Pr→List (Str×V)→Prop
 | nil:bK [] []
 | cons{e x v es fs}(t:Tok):e.key=.str x t→rJ x e.val=v→bK es fs→bK (e::es) ((x,v)::fs)
inductive pO(h:Heap)(a:Addr)(T:String)(xs:List V):Prop
 | mk(items:Array Value)(n:Nat)(g:h.get? a=some { cls:=.type T,data:=.seq items n })(q:items.toList.map er=xs)
theorem pO.el{h:Heap}{a:Addr}{T:String}{xs:List V}{P_:Prop}(h_:pO h a T xs)(k_:∀(items:Array Value) (n:Nat) (g:h.get? a=some { cls:=.type T,data:=.seq items n }) (q:items.toList.map er=xs),P_):P_:=pO.rec (motive:=fun ζ=>P_) k_ h_
inductive Gh(c:Cx)(h:Heap)(a:Addr)(es:List (Str×V))(ep:Nat):Prop
 | mk(kvs:List (Str×Value))(g:Ss (strKind c.prog c.w) h a kvs ep)(q:kvs.map (fun p=>(p.1,er p.2))=es)
theorem Gh.el{c:Cx}{h:Heap}{a:Addr}{es:List (Str×V)}{ep:Nat}{P_:Prop}(h_:Gh c h a es ep)(k_:∀(kvs:List (Str×Value)) (g:Ss (strKind c.prog c.w) h a kvs ep) (q:kvs.map (fun p=>(p.1,er p.2))=es),P_):P_:=Gh.rec (motive:=fun ζ=>P_) k_ h_
inductive Gw(c:Cx)(h:Heap)(a:Addr)(es:List (Int×V)):Prop
 | mk(kvs:List (Int×Value))(g:Qg (intKind c.prog c.w) h a kvs)(q:kvs.map (fun p=>(p.1,er p.2))=es)
theorem Gw.el{c:Cx}{h:Heap}{a:Addr}{es:List (Int×V)}{P_:Prop}(h_:Gw c h a es)(k_:∀(kvs:List (Int×Value)) (g:Qg (intKind c.prog c.w) h a kvs) (q:kvs.map (fun p=>(p.1,er p.2))=es),P_):P_:=Gw.rec (motive:=fun ζ=>P_) k_ h_
inductive Bp(h:Heap)(a d C:Addr)(fs:List (Str×V)):Prop
 | mk(g:h.get? a=some (S1 C d))(es:List Pr)(n:Nat)(g2:h.get? d=some (dictOf es n))(r:bK es fs)(nd:(fs.map (·.1)).Nodup)
theorem Bp.el{h:Heap}{a d C:Addr}{fs:List (Str×V)}{P_:Prop}(h_:Bp h a d C fs)(k_:∀(g:h.get? a=some (S1 C d)) (es:List Pr) (n:Nat) (g2:h.get? d=some (dictOf es n)) (r:bK es fs) (nd:(fs.map (·.1)).Nodup),P_):P_:=Bp.rec (motive:=fun ζ=>P_) k_ h_
theorem Bp.at{h:Heap}{a d C:Addr}{fs:List (Str×V)}(x:Bp h a d C fs):h.get? a=some (S1 C d):=by
 refine (x).el fun g ζ ζ ζ ζ ζ=>?_;exact g
noncomputable def ce(c:Cx)(h:Heap)(a d:Addr):O→Prop
 | .list xs=>pO h a "list" xs
 | .tup xs=>pO h a "tuple" xs
 | .sdict es ep=>Gh c h a es ep
 | .idict es=>Gw c h a es
 | .inst C fs=>Bp h a d C fs
 | .cell v=>∃cv,h.IsCell a cv∧cv.map er=v
 | .rng lo hi=>∃t u v,IsRange h a lo hi 1 t u v
 | .lam qual body scope cl cd=>∃pm ctv,h.get? a=some (kla_obj (No "<lambda>") qual ⟨[],[],none,[],[],none,[]⟩ body scope cl pm cd ctv)
 | .code qual=>∃oc vs t,h.get? a=some oc∧oc.data=.fields vs∧vs[1]? = some (.str qual t)
 | .tab ps=>h.get? a=some (tabObj ps)
theorem ce.get{c:Cx}{h:Heap}{a d:Addr}{o:O}(x:ce c h a d o):∃ob,h.get? a=some ob:=by
 induction o with
 | list=>obtain ⟨_,_,e,_⟩:=x;exact ⟨_,e⟩
 | tup=>obtain ⟨_,_,e,_⟩:=x;exact ⟨_,e⟩
 | sdict=>obtain ⟨_,⟨_,_,e,_⟩,_⟩:=x;exact ⟨_,e⟩
 | idict=>obtain ⟨_,⟨_,_,_,e,_⟩,_⟩:=x;exact ⟨_,e⟩
 | inst=>exact ⟨_,x.at⟩
 | cell=>obtain ⟨_,⟨_,e,_⟩,_⟩:=x;exact ⟨_,e⟩
 | rng=>obtain ⟨_,_,_,e⟩:=x;exact ⟨_,e⟩
 | lam=>obtain ⟨_,_,e⟩:=x;exact ⟨_,e⟩
 | code=>obtain ⟨_,_,_,e,_⟩:=x;exact ⟨_,e⟩
 | tab=>exact ⟨_,x⟩
theorem ce.keeps{c:Cx}{h h':Heap}{a d:Addr}{o:O}(x:ce c h a d o)(ka:∀ob,h.get? a=some ob→h'.get? a=some ob)
  (kd:o.isInst=true→∀ob,h.get? d=some ob→h'.get? d=some ob):ce c h' a d o:=by
 induction o with
 | list=>obtain ⟨i,n,e,r⟩:=x;exact ⟨i,n,ka _ e,r⟩
 | tup=>obtain ⟨i,n,e,r⟩:=x;exact ⟨i,n,ka _ e,r⟩
 | sdict=>obtain ⟨k,⟨o,es,e,r⟩,q⟩:=x;exact ⟨k,⟨o,es,ka _ e,r⟩,q⟩
 | idict=>obtain ⟨k,⟨o,es,ep,e,r⟩,q⟩:=x;exact ⟨k,⟨o,es,ep,ka _ e,r⟩,q⟩
 | inst=>obtain ⟨e,es,n,e2,r,nd⟩:=x;exact ⟨ka _ e,es,n,kd rfl _ e2,r,nd⟩
 | cell=>obtain ⟨cv,⟨o,e,r⟩,q⟩:=x;exact ⟨cv,⟨o,ka _ e,r⟩,q⟩
 | rng=>obtain ⟨t,u,v,e⟩:=x;exact ⟨t,u,v,ka _ e⟩
 | lam=>obtain ⟨p,q,e⟩:=x;exact ⟨p,q,ka _ e⟩
 | code=>obtain ⟨p,q,r,e,z⟩:=x;exact ⟨p,q,r,ka _ e,z⟩
 | tab=>exact ka _ x
structure Fm where
 env:Env
 lo:Lo
def aH(base:Heap)(H:AH)(D:Addr→Addr)(fs:List Fm)(b:Addr):Prop:=
 base.get? b=none∧H b=none∧(∀a o,H a=some o→o.isInst=true→D a≠b)∧∀f∈fs,f.env.locals≠b
structure aE(c:Cx)(base:Heap)(fs:List Fm)(H:AH)(h:Heap)(D:Addr→Addr):Prop where
 stays:base.StaysIn h
 ground:c.h₀.StaysIn base
 objs:∀a o,H a=some o→ce c h a (D a) o∧base.get? a=none∧(∀f∈fs,f.env.locals≠a)
 dicts:∀a o,H a=some o→o.isInst=true→base.get? (D a)=none∧H (D a)=none∧(∀f∈fs,f.env.locals≠D a)
 apart:∀a o a' o',H a=some o→H a'=some o'→o.isInst=true→o'.isInst=true→D a=D a'→a=a'
 frames:∀f∈fs,base.get? f.env.locals=none∧∃m,h.Ns f.env.locals m∧∀x,(m x).map er=f.lo x
 order:(fs.map (·.env.locals)).Nodup
section
variable{c:Cx}{base h h':Heap}{fs:List Fm}{H:AH}{D:Addr→Addr}
theorem aE.get(R:aE c base fs H h D){a:Addr}{o:O}(e:H a=some o):∃ob,h.get? a=some ob:=(R.objs a o e).1.get
theorem aE.dictGet(R:aE c base fs H h D){a:Addr}{o:O}(e:H a=some o)(i:o.isInst=true):∃ob,h.get? (D a)=some ob:=by
 induction o<;>first | exact (Nt i).elim | skip
 obtain ⟨_,_,_,e2,_⟩:=(R.objs a _ e).1;exact ⟨_,e2⟩
theorem aE.locGet(R:aE c base fs H h D){f:Fm}(hf:f∈fs):∃ob,h.get? f.env.locals=some ob:=by
 obtain ⟨_,m,⟨o,es,ep,e,_⟩,_⟩:=R.frames f hf;exact ⟨o,e⟩
theorem aE.fresh(R:aE c base fs H h D){n:Addr}(hn:h.get? n=none):aH base H D fs n:=by
 refine ⟨?_,?_,fun a o e i q=>?_,fun f hf q=>?_⟩
 ·refine ay (o:=base.get? n) (fun e=>?_) (fun o e=>?_)
  ·rfl
  ·rw[R.stays _ _ e]at hn;exact (NN _ hn).elim
 ·refine ay (o:=H n) (fun e=>?_) (fun o e=>?_)
  ·rfl
  ·obtain ⟨ob,q⟩:=R.get e;rw[q]at hn;exact (NN _ hn).elim
 ·obtain ⟨ob,z⟩:=R.dictGet e i;rw[q,hn]at z;exact (NN _ z.symm).elim
 ·obtain ⟨ob,z⟩:=R.locGet hf;rw[q,hn]at z;exact (NN _ z.symm).elim
theorem aE.mono(R:aE c base fs H h D)(k:∀b o,h.get? b=some o→h'.get? b=some o):aE c base fs H h' D where
 stays:=fun b o e=>k b o (R.stays b o e)
 ground:=R.ground
 objs:=fun a o e=>⟨(R.objs a o e).1.keeps (k a) (fun ζ=>k (D a)),(R.objs a o e).2⟩
 dicts:=R.dicts
 apart:=R.apart
 frames:=fun f hf=>let ⟨a,m,n,e⟩:=R.frames f hf;⟨a,m,n.keeps k,e⟩
 order:=R.order
theorem aE.at(R:aE c base fs H h D){b:Addr}(hs:OT b h h')(hb:base.get? b=none)
  {H':AH}{D':Addr→Addr}
  (hH:∀a o,H' a=some o→a≠b→H a=some o) (hD:∀a o,H' a=some o→a≠b→o.isInst=true→D' a=D a)
  (hin:∀a o,H' a=some o→a≠b→o.isInst=true→D a=b→ce c h' a (D a) o)
  (hob:∀o,H' b=some o→ce c h' b (D' b) o∧(∀f∈fs,f.env.locals≠b)∧(o.isInst=true→base.get? (D' b)=none∧H' (D' b)=none∧(∀f∈fs,f.env.locals≠D' b)∧∀a o',H' a=some o'→o'.isInst=true→a≠b→D a≠D' b))
  (hdn:∀a o,H' a=some o→a≠b→o.isInst=true→H' (D a)=none)
  (hfr:∀f∈fs,f.env.locals=b→∃m,h'.Ns f.env.locals m∧∀x,(m x).map er=f.lo x):aE c base fs H' h' D' where
 stays:=fun a o e=>(hs.2 a (fun q=>by rw[q,hb]at e;exact ac e)).trans (R.stays a o e)
 ground:=R.ground
 objs:=fun a o e=>by
  by_cases q:a=b
  ·cases q;exact ⟨(hob o e).1,hb,(hob o e).2.1⟩
  ·refine NO (fun x zz=>NO (fun y z=>?_) (zz)) (R.objs a o (hH a o e q));refine ⟨?_,y,z⟩;by_cases i:o.isInst=true
   ·rw[hD a o e q i];by_cases w:D a=b
    ·exact hin a o e q i w
    ·exact x.keeps (fun ob z=>(hs.2 a q).trans z) fun ζ ob z=>(hs.2 _ w).trans z
   ·refine ce.keeps (d:=D' a) ?_ (fun ob z=>(hs.2 a q).trans z) (fun i'=>absurd i' i)
    induction o<;>first | exact x | exact absurd rfl i
 dicts:=fun a o e i=>by
  clear hb;by_cases q:a=b
  ·cases q;obtain ⟨x,y,z,_⟩:=(hob o e).2.2 i;exact ⟨x,y,z⟩
  ·rw[hD a o e q i];refine NO (fun x zz=>NO (fun ζ z=>?_) (zz)) (R.dicts a o (hH a o e q) i);exact ⟨x,hdn a o e q i,z⟩
 apart:=fun a o a' o' e e' i i' q=>by
  clear hin;clear hdn;by_cases qa:a=b
  ·by_cases qa':a'=b
   ·rw[qa,qa']
   ·subst qa;rw[hD a' o' e' qa' i']at q;exact absurd q.symm (((hob o e).2.2 i).2.2.2 a' o' e' i' qa')
  ·by_cases qa':a'=b
   ·subst qa';rw[hD a o e qa i]at q;exact absurd q (((hob o' e').2.2 i').2.2.2 a o e i qa)
   ·rw[hD a o e qa i,hD a' o' e' qa' i']at q;exact R.apart a o a' o' (hH a o e qa) (hH a' o' e' qa') i i' q
 frames:=fun f hf=>by
  obtain ⟨x,m,n,y⟩:=R.frames f hf;by_cases q:f.env.locals=b
  ·obtain ⟨m',n',y'⟩:=hfr f hf q;exact ⟨x,m',n',y'⟩
  ·exact ⟨x,m,n.sameBut hs q,y⟩
 order:=R.order
end
section
variable{c:Cx}{base h h':Heap}{fs:List Fm}{H:AH}{D:Addr→Addr}
theorem aE.add(R:aE c base fs H h D){n:Addr}{o:O}(hn:h.get? n=none)(k:∀b o,h.get? b=some o→h'.get? b=some o)(hi:o.isInst=false)
  (ho:ce c h' n (D n) o):aE c base fs (upd H n o) h' D:=by
 have F:=R.fresh hn;have R':=R.mono k;refine ⟨R'.stays,R'.ground,fun a o' e=>?_,fun a o' e i=>?_,fun a o₁ a' o₂ e e' i i' q=>?_,R'.frames,R'.order⟩
 ·by_cases q:a=n
  ·subst q;rw[aj]at e;injection e with e;subst e;exact ⟨ho,F.1,F.2.2.2⟩
  ·have e:=(am q).symm.trans e;exact R'.objs a o' e
 ·by_cases q:a=n
  ·subst q;rw[aj]at e;injection e with e;subst e;have i:=(hi).symm.trans i;exact (Nt i).elim
  ·have e:=(am q).symm.trans e;have zz:=R'.dicts a o' e i;have x:=zz.1;have y:=zz.2.1;have z:=zz.2.2;exact ⟨x,by rw[am (F.2.2.1 a o' e i)];exact y,z⟩
 ·have ne:a≠n:=fun q=>by subst q;rw[aj]at e;injection e with e;subst e;have i:=(hi).symm.trans i;exact (Nt i).elim
  rw[am ne]at e;rw[am (fun q=>by subst q;rw[aj]at e';injection e' with e';subst e';have i':=(hi).symm.trans i';exact (Nt i').elim)]at e';exact R'.apart a o₁ a' o₂ e e' i i' q
theorem aE.addInst(R:aE c base fs H h D){n d:Addr}{C:Addr}{fl:List (Str×V)}(hn:h.get? n=none)(hd:h.get? d=none)(hnd:n≠d)(k:∀b o,h.get? b=some o→h'.get? b=some o)
  (ho:ce c h' n d (.inst C fl)):aE c base fs (upd H n (.inst C fl)) h' (fun a=>if a=n then d else D a):=by
 have F:=R.fresh hn;have Fd:=R.fresh hd;have R':=R.mono k;refine ⟨R'.stays,R'.ground,fun a o' e=>?_,fun a o' e i=>?_,fun a o₁ a' o₂ e e' i i' q=>?_,R'.frames,R'.order⟩
 ·by_cases q:a=n
  ·subst q;rw[aj]at e;injection e with e;subst e;rw[if_pos rfl];exact ⟨ho,F.1,F.2.2.2⟩
  ·rw[am q]at e;rw[if_neg q];exact R'.objs a o' e
 ·by_cases q:a=n
  ·rw[q];rw[if_pos rfl];exact ⟨Fd.1,by rw[am hnd.symm];exact Fd.2.1,Fd.2.2.2⟩
  ·have e:=(am q).symm.trans e;rw[if_neg q];have zz:=R'.dicts a o' e i;have x:=zz.1;have y:=zz.2.1;have z:=zz.2.2;exact ⟨x,by rw[am (F.2.2.1 a o' e i)];exact y,z⟩
 ·by_cases qa:a=n<;>by_cases qa':a'=n
  ·rw[qa,qa']
  ·rw[if_pos qa,if_neg qa']at q;rw[am qa']at e';exact absurd q.symm (Fd.2.2.1 a' o₂ e' i')
  ·rw[if_neg qa,if_pos qa']at q;rw[am qa]at e;exact absurd q (Fd.2.2.1 a o₁ e i)
  ·rw[if_neg qa,if_neg qa']at q;rw[am qa]at e;rw[am qa']at e';exact R'.apart a o₁ a' o₂ e e' i i' q
theorem aE.set(R:aE c base fs H h D){a:Addr}{o o':O}(e:H a=some o)(_hi:o.isInst=false)(hi':o'.isInst=false)(hs:OT a h h')(ho:ce c h' a (D a) o') :
  aE c base fs (upd H a o') h' D:=by
 refine NO (fun ζ zz=>NO (fun hb hl=>?_) (zz)) (R.objs a o e);have nd:∀x ox,H x=some ox→ox.isInst=true→D x≠a:=fun x ox ex ix q=>by
  have:=(R.dicts x ox ex ix).2.1;rw[q,e]at this;exact (NN _ this).elim
 refine R.at hs hb (fun x ox ex ne=>by rwa [am ne]at ex) (fun ζ ζ ζ ζ ζ=>rfl) (fun x ox ex ne ix q=>absurd q (nd x ox (by rwa [am ne]at ex) ix)) (fun ox ex=>?_) (fun x ox ex ne ix=>?_) fun f hf q=>absurd q (hl f hf)
 ·rw[aj]at ex;injection ex with ex;subst ex;exact ⟨ho,hl,fun i=>by have i:=(hi').symm.trans i;exact (Nt i).elim⟩
 ·rw[am ne]at ex;rw[am (nd x ox ex ix)];exact (R.dicts x ox ex ix).2.1
theorem aE.setFields(R:aE c base fs H h D){a C:Addr}{fl fl':List (Str×V)}(e:H a=some (.inst C fl))(hs:OT (D a) h h')
  (ho:∃es n,h'.get? (D a)=some (dictOf es n)∧bK es fl'∧(fl'.map (·.1)).Nodup):aE c base fs (upd H a (.inst C fl')) h' D:=by
 have zz:=R.dicts a _ e rfl;have hb:=zz.1;have hH:=zz.2.1;have hl:=zz.2.2;have inst_of:∀x ox,upd H a (.inst C fl') x=some ox→ox.isInst=true→∃oy,H x=some oy∧oy.isInst=true:=fun x ox ex ix=>by
  by_cases q:x=a
  ·rw[q];exact ⟨_,e,rfl⟩
  ·have ex:=(am q).symm.trans ex;exact ⟨ox,ex,ix⟩
 refine ⟨fun b o q=>(hs.2 b fun w=>by rw[w,hb]at q;exact ac q).trans (R.stays b o q),R.ground,fun x ox ex=>?_,fun x ox ex ix=>?_,fun x o₁ x' o₂ ex ex' ix ix' q=>?_,fun f hf=>?_,R.order⟩
 ·by_cases q:x=a
  ·cases q;rw[aj]at ex;injection ex with ex;subst ex;refine Nz (ho) fun es zz=>Nz (zz) fun n zz=>NO (fun o1 zz=>NO (fun o2 o3=>?_) (zz)) (zz);exact ⟨⟨(hs.2 _ (fun q=>by rw[← q,e]at hH;exact (NN _ hH).elim)).trans ((R.objs a _ e).1).at,es,n,o1,o2,o3⟩,(R.objs _ _ e).2⟩
  ·have ex:=(am q).symm.trans ex;refine NO (fun y z=>?_) (R.objs x ox ex);have hxd:x≠D a:=fun w=>by rw[w,hH]at ex;exact ac ex
   exact ⟨y.keeps (fun ob w=>(hs.2 x hxd).trans w) (fun ix ob w=>(hs.2 _ fun r=>q (R.apart x ox a _ ex e ix rfl r)).trans w),z⟩
 ·refine Nz (inst_of x ox ex ix) fun oy zz=>NO (fun ey iy=>?_) (zz);have zz:=R.dicts x oy ey iy;have y:=zz.1;have z:=zz.2.1;have u:=zz.2.2;refine ⟨y,?_,u⟩;rw[am fun w=>by rw[w,e]at z;exact ac z.symm];exact z
 ·refine Nz (inst_of x o₁ ex ix) fun oy zz=>NO (fun ey iy=>?_) (zz);refine Nz (inst_of x' o₂ ex' ix') fun oz zz=>NO (fun ez iz=>?_) (zz);exact R.apart x oy x' oz ey ez iy iz q
 ·obtain ⟨x,m,n,y⟩:=R.frames f hf;exact ⟨x,m,n.sameBut hs (hl f hf),y⟩
theorem aE.store{f:Fm}{r:List Fm}{lo':Lo}(R:aE c base (f::r) H h D)(hs:OT f.env.locals h h')(hm:∃m,h'.Ns f.env.locals m∧∀x,(m x).map er=lo' x) :
  aE c base (⟨f.env,lo'⟩::r) H h' D:=by
 refine NO (fun hb ζ=>?_) (R.frames f (.head _));have nh:∀a o,H a=some o→a≠f.env.locals:=fun a o e q=>(R.objs a o e).2.2 f (.head _) q.symm;have nd:∀a o,H a=some o→o.isInst=true→D a≠f.env.locals:=fun a o e i q=>(R.dicts a o e i).2.2 f (.head _) q.symm;have up:∀g∈(⟨f.env,lo'⟩::r:List Fm),∃g'∈f::r,g'.env=g.env:=fun g hg=>by
  rcases List.mem_cons.mp hg with rfl | hg
  ·exact ⟨f,.head _,rfl⟩
  ·exact ⟨g,.tail _ hg,rfl⟩
 refine ⟨fun b o q=>(hs.2 b fun w=>by rw[w,hb]at q;exact ac q).trans (R.stays b o q),R.ground,fun x ox ex=>?_,fun x ox ex ix=>?_,R.apart,fun g hg=>?_,R.order⟩
 ·have zz:=R.objs x ox ex;have y:=zz.1;have z:=zz.2.1;have u:=zz.2.2;refine ⟨y.keeps (fun ob w=>(hs.2 x (nh x ox ex)).trans w) (fun ix ob w=>(hs.2 _ (nd x ox ex ix)).trans w),z,fun g hg=>?_⟩;refine Nz (up g hg) fun g' zz=>NO (fun hg' q=>?_) (zz);rw[← q];exact u g' hg'
 ·have zz:=R.dicts x ox ex ix;have y:=zz.1;have z:=zz.2.1;have u:=zz.2.2;refine ⟨y,z,fun g hg=>?_⟩;refine Nz (up g hg) fun g' zz=>NO (fun hg' q=>?_) (zz);rw[← q];exact u g' hg'
 ·rcases List.mem_cons.mp hg with rfl | hg
  ·exact ⟨hb,hm⟩
  ·obtain ⟨x,m,n,y⟩:=R.frames g (.tail _ hg);exact ⟨x,m,n.sameBut hs fun q=>(List.nodup_cons.mp R.order).1 (List.mem_map.mpr ⟨g,hg,q⟩),y⟩
theorem aE.widen(R:aE c base fs H h D):∃base',aE c base' fs H h D∧base.StaysIn base'∧base'.StaysIn h∧
  ∀b o,h.get? b=some o→H b=none→(∀a o,H a=some o→o.isInst=true→D a≠b)→(∀f∈fs,f.env.locals≠b)→base'.get? b=some o:=by
 classical
 let own:Addr→Prop:=fun b=>H b≠none∨(∃a o,H a=some o∧o.isInst=true∧D a=b)∨∃f∈fs,f.env.locals=b;let l:=(Ou h.objs.size).filter fun b=>decide (own b);have hl:∀b,b∈l↔b<h.objs.size∧own b:=fun b=>by simp [l,List.mem_filter]
 have hide:∀b ob,h.get? b=some ob→own b→(hideAll h l).get? b=none:=fun b ob e w=>hideAll_none _ ((hl b).mpr ⟨O5 e,w⟩);have keep:∀b ob,h.get? b=some ob→¬ own b→(hideAll h l).get? b=some ob:=fun b ob e w=>hideAll_get _ e fun q=>w ((hl b).mp q).2;have nown:∀b ob,base.get? b=some ob→¬ own b:=fun b ob e w=>by
  rcases w with w | ⟨a,o,ea,ia,q⟩ | ⟨f,hf,q⟩
  ·refine ay (o:=H b) (fun hb=>?_) (fun o hb=>?_)
   ·exact w hb
   ·rw[(R.objs b o hb).2.1]at e;exact ac e
  ·rw[← q,(R.dicts a o ea ia).1]at e;exact ac e
  ·rw[← q,(R.frames f hf).1]at e;exact ac e
 have bs:base.StaysIn (hideAll h l):=fun b o e=>keep b o (R.stays b o e) (nown b o e);refine ⟨hideAll h l,⟨fun b o e=>of_hideAll _ e,fun b o e=>bs b o (R.ground b o e),fun a o e=>?_,fun a o e i=>?_,R.apart,fun f hf=>?_,R.order⟩,bs,fun b o e=>of_hideAll _ e,fun b o e h1 h2 h3=>keep b o e fun w=>?_⟩
 ·refine NO (fun x zz=>NO (fun y z=>?_) (zz)) (R.objs a o e);refine Nz (x.get) fun ob q=>?_;exact ⟨x,hide a ob q (.inl (by rw[e];nofun)),z⟩
 ·refine NO (fun x zz=>NO (fun y z=>?_) (zz)) (R.dicts a o e i);refine Nz (R.dictGet e i) fun ob q=>?_;exact ⟨hide _ ob q (.inr (.inl ⟨a,o,e,i,rfl⟩)),y,z⟩
 ·refine NO (fun x y=>?_) (R.frames f hf);refine Nz (R.locGet hf) fun ob q=>?_;exact ⟨hide _ ob q (.inr (.inr ⟨f,hf,rfl⟩)),y⟩
 ·rcases w with w | ⟨a,o,ea,ia,q⟩ | ⟨f,hf,q⟩
  ·exact w h1
  ·exact h2 a o ea ia q
  ·exact h3 f hf q
theorem bH{base base':Heap}(k:base.StaysIn base'){b:Addr}(e:base'.get? b=none):base.get? b=none:=by
 refine ay (o:=base.get? b) (fun q=>?_) (fun ob q=>?_)
 ·rfl
 ·have:=k _ _ q;have this:=(e).symm.trans this;exact ac this
theorem aE.narrow{base':Heap}(R:aE c base' fs H h D)(k:base.StaysIn base')(g:c.h₀.StaysIn base):aE c base fs H h D where
 stays:=fun b o e=>R.stays b o (k b o e)
 ground:=g
 objs:=fun a o e=>⟨(R.objs a o e).1,bH k (R.objs a o e).2.1,(R.objs a o e).2.2⟩
 dicts:=fun a o e i=>⟨bH k (R.dicts a o e i).1,(R.dicts a o e i).2⟩
 apart:=R.apart
 frames:=fun f hf=>⟨bH k (R.frames f hf).1,(R.frames f hf).2⟩
 order:=R.order
theorem aE.pop{f:Fm}{r:List Fm}(R:aE c base (f::r) H h D):aE c base r H h D where
 stays:=R.stays
 ground:=R.ground
 objs:=fun a o e=>⟨(R.objs a o e).1,(R.objs a o e).2.1,fun g hg=>(R.objs a o e).2.2 g (.tail _ hg)⟩
 dicts:=fun a o e i=>⟨(R.dicts a o e i).1,(R.dicts a o e i).2.1,fun g hg=>(R.dicts a o e i).2.2 g (.tail _ hg)⟩
 apart:=R.apart
 frames:=fun g hg=>R.frames g (.tail _ hg)
 order:=(List.nodup_cons.mp R.order).2
theorem aE.push{env:Env}{lo:Lo}(R:aE c base fs H h D)(hn:h.get? env.locals=none)(k:∀b o,h.get? b=some o→h'.get? b=some o)(hm:∃m,h'.Ns env.locals m∧∀x,(m x).map er=lo x) :
  aE c base (⟨env,lo⟩::fs) H h' D:=by
 have F:=R.fresh hn;have R':=R.mono k;refine ⟨R'.stays,R'.ground,fun a o e=>⟨(R'.objs a o e).1,(R'.objs a o e).2.1,fun g hg=>?_⟩,fun a o e i=>⟨(R'.dicts a o e i).1,(R'.dicts a o e i).2.1,fun g hg=>?_⟩,R'.apart,fun g hg=>?_,?_⟩
 ·rcases List.mem_cons.mp hg with rfl | hg
  ·intro q;have:=F.2.1;rw[show env.locals=a from q,e]at this;exact (NN _ this).elim
  ·exact (R'.objs a o e).2.2 g hg
 ·rcases List.mem_cons.mp hg with rfl | hg
  ·intro q;exact F.2.2.1 a o e i q.symm
  ·exact (R'.dicts a o e i).2.2 g hg
 ·rcases List.mem_cons.mp hg with rfl | hg
  ·exact ⟨F.1,hm⟩
  ·exact R'.frames g hg
 ·refine List.nodup_cons.mpr ⟨fun q=>?_,R.order⟩;refine Nz (List.mem_map.mp q) fun g zz=>NO (fun hg e=>?_) (zz);exact F.2.2.2 g hg e
end
end
section
structure Fx where
 env:Env
 outer:List Fm
noncomputable def Fx.fs(x:Fx)(lo:Lo):List Fm:=⟨x.env,lo⟩::x.outer
noncomputable def bq(e:Env):Bool:=e.frame==some e.locals
noncomputable def bg(fs:List Fm):List Env:=(fs.map (·.env)).filter bq
structure fw(e:Env):Prop where
 kind:e.scope.kind=.function
 globals:e.globals=OW
 builtins:e.builtins=Q4
 coro:e.scope.isCoroutine=false
structure Ok(d:Nat)(x:Fx)(A:Around):Prop where
 handled:A.handled=none
 depth:A.depth+10*d+20<R3
 units:A.units+60*d+200<cLine
 frames:A.frames=some (bg (x.fs fun ζ=>none))
 envs:∀f∈x.fs (fun ζ=>none),fw f.env
 framed:∃g∈x.fs (fun ζ=>none),x.env.frame=some g.env.locals
abbrev XP:=V→AH→Prop
inductive xM(c:Cx)(base:Heap)(fs:List Fm)(H:AH)(g:Array Rg)(o:RH)(h:Heap):Prop
 | mk(hg:g=#[])(ho:o=c.os)(D:Addr→Addr)(R:aE c base fs H h D)
theorem xM.el{c:Cx}{base:Heap}{fs:List Fm}{H:AH}{g:Array Rg}{o:RH}{h:Heap}{P:Prop}(z:xM c base fs H g o h)(k:∀(hg:g=#[]) (ho:o=c.os) (D:Addr→Addr) (R:aE c base fs H h D),P):P:=xM.rec (motive:=fun ζ=>P) k z
def aq(c:Cx)(base:Heap)(fs:List Fm)(H:AH)(s:Shared):Prop:=xM c base fs H s.gens s.os s.heap
def Gg(base:Heap)(fs:List Fm)(H:AH)(D:Addr→Addr)(h:Heap)(ea dx:Addr)(vs:Array Value)(L:Addr):Prop:=
 vs[1]? = some .none∨∃T oT ts,vs[1]? = some (.ref T)∧aH base H D fs T∧T≠ea∧T≠dx∧h.get? T=some oT∧oT.data=.fields ts∧(ts[3]? = some .none∨ts[3]? = some (rawInt L))
inductive yW(c:Cx)(base:Heap)(fs:List Fm)(H:AH)(h:Heap)(ea:Addr)(msg:V)(L:Addr):Prop
 | mk(D:Addr→Addr)(R:aE c base fs H h D)(oe:Obj)(vs:Array Value)(dx:Addr)(es:List Pr)(n:Nat)(mv:Value)(C:Addr)(q1:h.get? ea=some oe)(q2:nsIn c.K OW (No "Refusal")=some (some (.ref C)))(q3:oe.cls=.ref C)(q4:oe.data=.fields vs)(q5:oe.dict=some dx)(q6:aH base H D fs ea)
  (q7:h.get? dx=some (dictOf es n)) (q8:bK es [(No "message",msg)]) (q9:er mv=msg) (q10:aH base H D fs dx) (q11:dx≠ea) (q12:Gg base fs H D h ea dx vs L)
noncomputable def Fx.loc(x:Fx):Addr:=x.env.frame.getD 0
inductive xP(c:Cx)(base:Heap)(x:Fx)(E:XP)(e:Value)(g:Array Rg)(o:RH)(h:Heap):Prop
 | mk(ea:Addr)(msg:V)(H:AH)(lo:Lo)(e1:e=.ref ea)(e2:E msg H)(e3:g=#[])(e4:o=c.os)(e5:yW c base (x.fs lo) H h ea msg x.loc)
theorem xP.el{c:Cx}{base:Heap}{x:Fx}{E:XP}{e:Value}{g:Array Rg}{o:RH}{h:Heap}{P_:Prop}(h_:xP c base x E e g o h)(k_:∀(ea:Addr) (msg:V) (H:AH) (lo:Lo) (e1:e=.ref ea) (e2:E msg H) (e3:g=#[]) (e4:o=c.os) (e5:yW c base (x.fs lo) H h ea msg x.loc),P_):P_:=xP.rec (motive:=fun ζ=>P_) k_ h_
def iu(c:Cx)(base:Heap)(x:Fx)(E:XP)(e:Value)(s:Shared):Prop:=xP c base x E e s.gens s.os s.heap
abbrev Cx.M(c:Cx):Model:=model c.prog c.w
inductive pP{α:Type}(c:Cx)(base:Heap)(x:Fx)(Q:α→Lo→AH→Prop)(a:α)(s':Shared):Prop
 | mk(lo':Lo)(H':AH)(R:aq c base (x.fs lo') H' s')(q:Q a lo' H')
theorem xj{α:Type}{c:Cx}{base:Heap}{x:Fx}{A:Around}{t:Sem α}{lo:Lo}{R:α→AH→Prop}{E1 E2:Value→Shared→Prop}{Q:α→Shared→Prop}{s:Shared}(h:wpAny c.M A t (pP c base x fun a l h=>l=lo∧R a h) E1 s)(e:∀e s,E1 e s→E2 e s)(k:∀a s' H,aq c base (x.fs lo) H s'→R a H→Q a s'):wpAny c.M A t Q E2 s:=
 OJ h (fun a s' z=>by obtain ⟨l,H,r,rfl,q⟩:=z;exact k a s' H r q) e
def W{α:Type}(c:Cx)(d:Nat)(x:Fx)(t:Sem α)(lo:Lo)(H:AH)(Q:α→Lo→AH→Prop)(E:XP):Prop:=
 ∀base s A,Ok d x A→aq c base (x.fs lo) H s→wpAny c.M A t (pP c base x Q) (iu c base x E) s
section
variable{α β:Type}{c:Cx}{d:Nat}{x:Fx}{lo:Lo}{H:AH}{E:XP}
theorem iu.mono{base:Heap}{e:Value}{s:Shared}{E':XP}(k:∀m h,E m h→E' m h)(h:iu c base x E e s):iu c base x E' e s:=by
 obtain ⟨ea,msg,H',l,a,b,g,o,r⟩:=h;exact ⟨ea,msg,H',l,a,k _ _ b,g,o,r⟩
theorem pP.mono{base:Heap}{Q Q':α→Lo→AH→Prop}{a:α}{s:Shared}(k:∀a l h,Q a l h→Q' a l h)(h:pP c base x Q a s):pP c base x Q' a s:=by
 obtain ⟨l,H',R,q⟩:=h;exact ⟨l,H',R,k _ _ _ q⟩
theorem W.mono{t:Sem α}{Q Q':α→Lo→AH→Prop}{E':XP}(h:W c d x t lo H Q E)(q:∀a l h,Q a l h→Q' a l h)(e:∀m h,E m h→E' m h):W c d x t lo H Q' E':=
 fun base s A ok R=>OJ (h base s A ok R) (fun a b=>pP.mono q) fun a b=>iu.mono e
theorem W.pure{a:α}{Q:α→Lo→AH→Prop}(h:Q a lo H):W c d x (pure a) lo H Q E:=fun ζ ζ ζ ζ R=>NP ⟨lo,H,R,h⟩
theorem W.bind{m:Sem α}{f:α→Sem β}{Q:β→Lo→AH→Prop}(h:W c d x m lo H (fun a l' H'=>W c d x (f a) l' H' Q E) E):W c d x (m >>= f) lo H Q E:=
 fun base s A ok R=>Nv (OJ (h base s A ok R) (fun _ s' ⟨_,_,R',z⟩=>z base s' A ok R') fun ζ ζ e=>e)
theorem W.standAt{p:Pos}{Q:Unit→Lo→AH→Prop}(h:Q () lo H):W c d x (Sv p) lo H Q E:=fun ζ ζ ζ ζ R=>OH ⟨lo,H,R,h⟩
theorem W.point{Q:Unit→Lo→AH→Prop}(h:Q () lo H):W c d x point lo H Q E:=fun ζ ζ ζ ζ R=>wpAny_point ⟨lo,H,R,h⟩
theorem W.rule{p:String}{Q:Unit→Lo→AH→Prop}(h:Q () lo H):W c d x (rule p) lo H Q E:=fun ζ ζ ζ ζ R=>wpAny_rule ⟨lo,H,R,h⟩
theorem W.holding{vs:List Value}{m:Sem α}{Q:α→Lo→AH→Prop}(h:W c d x m lo H Q E):W c d x (holding vs m) lo H Q E:=fun base s A ok R=>Oy (h base s A ok R)
theorem W.standAt'{p:Pos}{f:Unit→Sem α}{Q:α→Lo→AH→Prop}(h:W c d x (f ()) lo H Q E):W c d x (PySem.standAt p >>= f) lo H Q E:=W.bind (W.standAt h)
theorem W.eq{t t':Sem α}{Q:α→Lo→AH→Prop}(e:t=t')(h:W c d x t' lo H Q E):W c d x t lo H Q E:=e▸h
theorem W.release{vs keep:List Value}{Q:Unit→Lo→AH→Prop}(h:Q () lo H):W c d x (release vs keep) lo H Q E:=fun ζ ζ ζ ζ R=>wpAny_release ⟨lo,H,R,h⟩
theorem W.operate{vs:List Value}{m:Sem Value}{Q:Value→Lo→AH→Prop}(h:W c d x m lo H Q E):W c d x (operate vs m) lo H Q E:=by
 unfold PySem.operate;exact W.bind (W.mono (W.holding h) (fun a l h q=>W.bind (W.release (W.pure q))) fun ζ ζ e=>e)
theorem aq.toks{c:Cx}{base:Heap}{fs:List Fm}{H:AH}{s:Shared}(t:Nat)(R:aq c base fs H s):aq c base fs H { s with toks:=t }:=R
theorem W.mkInt{i:Int}{Q:Value→Lo→AH→Prop}(h:∀t,Q (.int i t) lo H):W c d x (mkInt i) lo H Q E:=fun ζ ζ ζ ζ R=>wpAny_mkInt ⟨lo,H,R,h _⟩
theorem W.mkText{i:Str}{Q:Value→Lo→AH→Prop}(h:∀t,Q (.str i t) lo H):W c d x (mkText i) lo H Q E:=fun ζ ζ ζ ζ R=>QI ⟨lo,H,R,h _⟩
theorem W.ite{p:Prop}[Decidable p]{a b:Sem α}{Q:α→Lo→AH→Prop}(h1:p→W c d x a lo H Q E)(h2 : ¬ p→W c d x b lo H Q E):W c d x (if p then a else b) lo H Q E:=by
 split
 ·exact h1 ‹_›
 ·exact h2 ‹_›
end
section
variable{c:Cx}{d:Nat}{x:Fx}{lo:Lo}{H:AH}{E:XP}
theorem aq.head{base:Heap}{s:Shared}(R:aq c base (x.fs lo) H s):∃m,s.heap.Ns x.env.locals m∧∀y,(m y).map er=lo y:=by
 obtain ⟨_,_,D,R⟩:=R;exact (R.frames _ (.head _)).2
theorem Ok.env{A:Around}(ok:Ok d x A):fw x.env:=ok.envs _ (.head _)
theorem gP{o:Option Value}{v:V}(h:o.map er=some v):∃u,o=some u∧er u=v:=by
 induction o with
 | none=>exact ac h
 | some u=>exact ⟨u,rfl,Option.some.inj h⟩
theorem W.loadLocal{y:Str}{v:V}{Q:Value→Lo→AH→Prop}(hk:x.env.kindOf y=some .local)(hv:lo y=some v)(h:∀u,er u=v→Q u lo H):W c d x (SU x.env y) lo H Q E:=
 fun base s A ok R=>by
  obtain ⟨m,hn,hm⟩:=R.head;obtain ⟨u,hu,e⟩:=gP ((hm y).trans hv);exact wpAny_loadName_local ok.env.kind hk hn hu ⟨lo,H,R,h u e⟩
theorem W.loadCell{y:Str}{a:Addr}{v:V}{Q:Value→Lo→AH→Prop}(hk:x.env.kindOf y=some .cell∨x.env.kindOf y=some .free)(hc:x.env.cells.lookup y=some a)(hv:H a=some (.cell (some v)))
  (hn:(y==("__classdict__" : Str))=false) (h:∀u,er u=v→Q u lo H):W c d x (SU x.env y) lo H Q E:=
 fun base s A ok R=>by
  obtain ⟨g,o,D,R'⟩:=id R;obtain ⟨⟨cv,hcell,e⟩,_⟩:=R'.objs a _ hv;obtain ⟨u,rfl,e'⟩:=gP e;rcases hk with hk | hk
  ·exact wpAny_loadName_cell ok.env.kind hk hc hcell ⟨lo,H,R,h u e'⟩
  ·exact wpAny_loadName_free ok.env.kind hk hc hcell ⟨lo,H,R,h u e'⟩ hn
noncomputable def Cx.glV(c:Cx)(y:Str):Option Value:=match c.mg y with
 | some v=>some v
 | none=>RL y
noncomputable def Cx.gl(c:Cx)(y:Str):V:=match c.glV y with
 | some v=>er v
 | none=>.oth
def Cx.has(c:Cx)(y:Str):Prop:=(c.glV y).isSome=true∧y≠No "__name__"
theorem aq.ground{base:Heap}{s:Shared}{fs:List Fm}(R:aq c base fs H s):c.h₀.StaysIn s.heap:=by
 obtain ⟨_,_,D,R⟩:=R;exact fun b o e=>R.stays b o (R.ground b o e)
theorem yr{A:Around}{s:Shared}{fs:List Fm}{base:Heap}{env:Env}{y:Str}{E':Value→Shared→Prop}{Q:Value→Shared→Prop}(he:fw env)(R:aq c base fs H s)(hk:env.kindOf y=some .globalImplicit)(hh:c.has y)
  (h:∀u,er u=c.gl y→Q u s):wpAny c.M A (SU env y) Q E' s:=by
 rw[loadName_read he.kind hk];have g:=R.ground;refine ay (o:=c.mg y) (fun hm=>?_) fun v hm=>?_
 ·obtain ⟨v,hv⟩:=Option.isSome_iff_exists.mp hh.1;have hb:RL y=some v:=by unfold Cx.glV at hv;rw[hm]at hv;exact hv
  exact Calls.loadGlobal_builtin (env:=env) (by rw[he.globals];exact c.G.keeps g) hm (by rw[he.builtins];exact c.B.keeps g) ((c.hb y hh.2).trans hb) (h v (by unfold Cx.gl;rw[hv]))
 ·have hv:c.glV y=some v:=by unfold Cx.glV;rw[hm]
  exact Calls.loadGlobal_global (env:=env) (by rw[he.globals];exact c.G.keeps g) hm (h v (by unfold Cx.gl;rw[hv]))
theorem W.loadGlobal{y:Str}{Q:Value→Lo→AH→Prop}(hk:x.env.kindOf y=some .globalImplicit)(hh:c.has y)(h:∀u,er u=c.gl y→Q u lo H):W c d x (SU x.env y) lo H Q E:=
 fun base s A ok R=>yr ok.env R hk hh fun u hu=>⟨lo,H,R,h u hu⟩
noncomputable def bG(lo:Lo)(y:Str)(v:V):Lo:=fun z=>if z=y then some v else lo z
theorem W.storeLocal{y:Str}{u:Value}{Q:Unit→Lo→AH→Prop}(hk:x.env.kindOf y=some .local)(h:Q () (bG lo y (er u)) H):W c d x (storeName x.env y u) lo H Q E:=
 fun base s A ok R=>by
  obtain ⟨m,hn,hm⟩:=R.head;obtain ⟨g,o,D,R'⟩:=R;refine Uc hk hn (fun h' hn' hs=>⟨_,H,⟨g,o,D,R'.store hs ⟨_,hn',fun z=>?_⟩⟩,h⟩) (by rw[ok.env.kind];rfl);unfold bG;split
  ·rfl
  ·exact hm z
theorem W.storeCell{y:Str}{a:Addr}{v₀:Option V}{u:Value}{Q:Unit→Lo→AH→Prop}(hk:x.env.kindOf y=some .cell)(hc:x.env.cells.lookup y=some a)(hv:H a=some (.cell v₀))
  (h:Q () lo (upd H a (.cell (some (er u))))):W c d x (storeName x.env y u) lo H Q E:=
 fun base s A ok R=>by
  obtain ⟨g,o,D,R'⟩:=R;obtain ⟨⟨cv,hcell,e⟩,_⟩:=R'.objs a _ hv;exact wpAny_storeName_cell ok.env.kind hk hc hcell fun h' hv' hs=>⟨lo,_,⟨g,o,D,R'.set (o':=.cell (some (er u))) hv rfl rfl hs ⟨_,hv',rfl⟩⟩,h⟩
end
end
section
set_option genSizeOfSpec false
abbrev Q1:=V→AH→Prop
structure SE where
 ns:List (Str×Ov)
 cl:List (Str×Addr)
 fact:Env→Prop:=fun ζ=>True
def bI(o:O)(H:AH)(Q:Q1):Prop:=∀n,H n=none→Q (.ref n) (upd H n o)
def au{α:Type}(o:Option α)(k:α→Prop):Prop:=match o with
 | some a=>k a
 | none=>False
noncomputable def lO(y:Str):Bool:=!(y==No "__debug__")&&!(y==No "__classdict__")
noncomputable def flat:V→Bool
 | .none | .bool _ | .int _ | .str _=>true
 | _=>false
noncomputable def aF:V→Bool
 | .none | .int _ | .str _=>true
 | _=>false
inductive T where
 | leaf(v:V)
 | list(ts:List T)
 | tup(ts:List T)
 | dict(es:List (Str×T))
 | inst(C:Addr)(fs:List (Str×T))
noncomputable def T.isSeq:T→Bool
 | .list _ | .tup _=>true
 | _=>false
inductive F2{α β:Type}(R:α→β→Prop):List α→List β→Prop
 | nil:F2 R [] []
 | cons{a b as bs} : R a b→F2 R as bs→F2 R (a::as) (b::bs)
inductive K5(H:AH)(o:List V→O)(F:List V→Prop)(v:V):Prop
 | mk(a:Addr)(xs:List V)(e:v=.ref a)(h:H a=some (o xs))(f:F xs)
inductive Nm(H:AH)(F:List (Str×V)→Prop)(v:V):Prop
 | mk(a:Addr)(es:List (Str×V))(ep:Nat)(e:v=.ref a)(h:H a=some (.sdict es ep))(f:F es)
noncomputable def Rd(H:AH):Nat→V→T→Prop
 | 0,v,t=>aF v=true∧t=.leaf v
 | n+1,v,t=>match t with
  | .leaf u=>aF v=true∧u=v
  | .list ts=>K5 H .list (fun xs=>F2 (Rd H n) xs ts) v
  | .tup ts=>K5 H .tup (fun xs=>F2 (Rd H n) xs ts) v
  | .dict ts=>Nm H (fun es=>F2 (fun p q=>p.1=q.1∧Rd H n p.2 q.2) es ts) v
  | .inst ..=>False
noncomputable def fk:V→Option Int
 | .int i=>some i
 | _=>none
def dM(a b:V)(k:Int→Int→Prop):Prop:=match fk a with
 | some i=>(match fk b with | some j=>k i j | none=>False)
 | none=>False
def eF(v:V)(p:Prop):Prop:=match v with
 | .none=>p
 | _=>False
noncomputable def Fi(a b:V):Bool:=match a with
 | .none=>(match b with | .none=>true | _=>false)
 | .int i=>(match b with | .int j=>decide (i=j) | _=>false)
 | .str s=>(match b with | .str r=>decide (s=r) | _=>false)
 | _=>false
inductive GW(H:AH)(k:Bool→Prop):V→V→Prop
 | ts{x xs s}(h:H x=some (.tup xs))(q:k false):GW H k (.ref x) (.str s)
 | tree{x y}(t:T)(ht:t.isSeq=true)(r:Rd H 8 (.ref x) t)(r':Rd H 8 (.ref y) t)(q:k true):GW H k (.ref x) (.ref y)
 | nil{x y xs ys}(h:H x=some (.list xs))(h':H y=some (.list ys))(e:xs=[]∨ys=[])(q:k (xs.isEmpty&&ys.isEmpty)):GW H k (.ref x) (.ref y)
def yF(a b:V)(H:AH)(k:Bool→Prop):Prop:=bif aF a&&aF b then k (Fi a b) else GW H k a b
inductive Ba(H:AH)(k:Bool→Prop):V→V→Prop
 | in_lst{x ys a}(h:H x=some (.list ys))(f:aF a=true)(g:ys.all aF=true)(l:ys.length≤100000)(q:k (ys.contains a)):Ba H k a (.ref x)
 | in_tup{x ys a}(h:H x=some (.tup ys))(f:aF a=true)(g:ys.all aF=true)(l:ys.length≤100000)(q:k (ys.contains a)):Ba H k a (.ref x)
 | in_sd{x es ep s}(h:H x=some (.sdict es ep))(q:k (es.any fun p=>decide (p.1=s))):Ba H k (.str s) (.ref x)
 | in_id{x es i}(h:H x=some (.idict es))(q:k (es.any fun p=>decide (p.1=i))):Ba H k (.int i) (.ref x)
abbrev EW(a b:V)(H:AH)(k:Bool→Prop):Prop:=Ba H k a b
def c8(op:CmpOp)(a b:V)(H:AH)(k:Bool→Prop):Prop:=match op with
 | .Is=>eF b (k (decide (a=.none)))
 | .IsNot=>eF b (k (!decide (a=.none)))
 | .Lt=>dM a b fun i j=>k (decide (i<j))
 | .LtE=>dM a b fun i j=>k (decide (i≤j))
 | .Gt=>dM a b fun i j=>k (decide (j<i))
 | .GtE=>dM a b fun i j=>k (decide (j≤i))
 | .Eq=>yF a b H k
 | .NotEq=>yF a b H fun r=>k (!r)
 | .In=>EW a b H k
 | .NotIn=>EW a b H fun r=>k (!r)
def small(i:Int):Prop:=-(2^64)<i∧i<2^64
def F5(op:Ph)(i j:Int)(H:AH)(Q:Q1):Prop:=match op with
 | .Add=>Q (.int (i+j)) H
 | .Sub=>Q (.int (i-j)) H
 | .Mult=>(small i∨small j)∧Q (.int (i*j)) H
 | .FloorDiv=>0<j∧j<2^64∧Q (.int (i / j)) H
 | .Mod=>0<j∧Q (.int (i % j)) H
 | .Pow=>1<i∧i≤1000∧0≤j∧j≤1000∧Q (.int (i^j.toNat)) H
 | _=>False
inductive oD(H:AH)(Q:Q1):Ph→V→V→Prop
 | addS{s r}(l:s.length+r.length≤100000)(q:Q (.str (s++r)) H):oD H Q .Add (.str s) (.str r)
 | mulS{s n}(h1:s.length=1)(h2:0≤n)(h3:n≤1000)(q:Q (.str (Txt.mul s n)) H):oD H Q .Mult (.str s) (.int n)
 | addL{x y xs ys}(h:H x=some (.list xs))(h':H y=some (.list ys))(l:xs.length+ys.length≤100000)(q:bI (.list (xs++ys)) H Q):oD H Q .Add (.ref x) (.ref y)
 | mulL{x xs n}(h:H x=some (.list xs))(h1:xs.length=1)(h2:n≤100000)(h3 : -100000≤n)(q:bI (.list (NM n.toNat xs).flatten) H Q):oD H Q .Mult (.ref x) (.int n)
def n6(op:Ph)(a b:V)(H:AH)(Q:Q1):Prop:=match fk a with
 | some i=>(match fk b with | some j=>F5 op i j H Q | none=>oD H Q op a b)
 | none=>oD H Q op a b
inductive ir(H:AH)(Q:V→Prop):V→V→Prop
 | item_str{s n}(h0:0≤n)(h1:n<s.length)(l:s.length≤100000)(q:Q (.str (S4 s n))):ir H Q (.str s) (.int n)
 | item_list{x ys v}{n:Int}(h:H x=some (.list ys))(l:ys.length≤100000)(h0:0≤n)(e:ys[n.toNat]? = some v)(q:Q v):ir H Q (.ref x) (.int n)
 | item_listN{x ys v}{n:Int}(h:H x=some (.list ys))(l:ys.length≤100000)(h0:n<0)(h1:0≤n+ys.length)(e:ys[(n+ys.length).toNat]? = some v)(q:Q v):ir H Q (.ref x) (.int n)
 | item_tup{x ys v}{n:Int}(h:H x=some (.tup ys))(l:ys.length≤100000)(h0:0≤n)(e:ys[n.toNat]? = some v)(q:Q v):ir H Q (.ref x) (.int n)
 | item_dict{x es ep s v}(h:H x=some (.sdict es ep))(e:es.lookup s=some v)(q:Q v):ir H Q (.ref x) (.str s)
 | item_idict{x es n v}(h:H x=some (.idict es))(e:es.lookup n=some v)(q:Q v):ir H Q (.ref x) (.int n)
abbrev nw(a i:V)(H:AH)(Q:V→Prop):Prop:=ir H Q a i
noncomputable def m4:V→Option (Option Int)
 | .none=>some none
 | .int n=>some (some n)
 | _=>none
inductive jR(c:Cx)(H:AH)(Q:Q1):V→V→V→Prop
 | slc_str{s l u lo hi}(h:s.length≤100000)(e:m4 l=some lo)(e':m4 u=some hi)(q:Q (.str (Qb s lo hi)) H):jR c H Q (.str s) l u
 | slc_arg{n}(h:c.argXs.size≤100000)(h0:0≤n)(q:bI (.list ((c.argXs.toList.map er).take n.toNat)) H Q):jR c H Q (.ref c.argA) .none (.int n)
 | slc_{a xs n}(h:H a=some (.list xs))(l:xs.length≤100000)(h0:0≤n)(q:bI (.list (xs.take n.toNat)) H Q):jR c H Q (.ref a) .none (.int n)
abbrev lD(c:Cx)(a l u:V)(H:AH)(Q:Q1):Prop:=jR c H Q a l u
noncomputable def Ay(fs:List (Str×V))(x:Str):Option V:=fs.lookup x
noncomputable def dG(fs:List (Str×V))(x:Str)(v:V):List (Str×V):=
 if fs.any (fun p=>decide (p.1=x)) then fs.map (fun p=>if p.1=x then (p.1,v) else p) else fs++[(x,v)]
noncomputable def iB{K:Type}[DecidableEq K](es:List (K×V))(x:K)(v:V):List (K×V):=
 if es.any (fun p=>decide (p.1=x)) then es.map (fun p=>if p.1=x then (p.1,v) else p) else es++[(x,v)]
noncomputable def Cx.fld(c:Cx)(C:Addr)(x:Str):Bool:=Rf c.K C x&&QZ c.K C&&(match findIn c.K (.ref C) x with | some a=>noGet c.K a | none=>false) &&
 (findIn c.K (.ref C) "__setattr__" == some (some (.builtin "object.__setattr__")))&&plainOver c.K C&&(takerIn c.K C x==some none)
noncomputable def V.isBi:V→Bool
 | .bi _=>true
 | _=>false
inductive Bb(c:Cx)(x:Str)(H:AH)(Q:V→Prop):V→Prop
 | getA_of{a C fs v}(h:H a=some (.inst C fs))(f:c.fld C x=true)(g:bO x=false)(e:Ay fs x=some v)(b:v.isBi=false)(q:Q v):Bb c x H Q (.ref a)
abbrev getA(c:Cx)(o:V)(x:Str)(H:AH)(Q:V→Prop):Prop:=Bb c x H Q o
inductive A7(c:Cx)(x:Str)(v:V)(H:AH)(Q:AH→Prop):V→Prop
 | setA_of{a C fs}(h:H a=some (.inst C fs))(f:c.fld C x=true)(l:fs.length≤100)(q:Q (upd H a (.inst C (dG fs x (if bO x then .oth else v))))):A7 c x v H Q (.ref a)
abbrev setA(c:Cx)(o:V)(x:Str)(v:V)(H:AH)(Q:AH→Prop):Prop:=A7 c x v H Q o
inductive vy(H:AH)(v:V)(Q:AH→Prop):V→V→Prop
 | itemL_{a xs}{n:Int}(h:H a=some (.list xs))(h0:0≤n)(h1:n<xs.length)(l:xs.length≤100000)(q:Q (upd H a (.list (xs.set n.toNat v)))):vy H v Q (.ref a) (.int n)
 | itemD_{a es ep k}(h:H a=some (.sdict es ep))(l:es.length≤100000)(q:∀ep,Q (upd H a (.sdict (iB es k v) ep))):vy H v Q (.ref a) (.str k)
 | itemN_{a es k}(h:H a=some (.idict es))(l:es.length≤100000)(q:Q (upd H a (.idict (iB es k v)))):vy H v Q (.ref a) (.int k)
abbrev wB(o i v:V)(H:AH)(Q:AH→Prop):Prop:=vy H v Q o i
def Fx.Of(x:Fx)(se:SE):Prop:=se.fact x.env∧∀y,match se.ns.lookup y with
 | some .local=>x.env.kindOf y=some .local
 | some .cell=>x.env.kindOf y=some .cell∧x.env.cells.lookup y=se.cl.lookup y
 | some .free=>(x.env.kindOf y=some .cell∨x.env.kindOf y=some .free)∧x.env.cells.lookup y=se.cl.lookup y
 | some .globalImplicit=>x.env.kindOf y=some .globalImplicit
 | _=>True
def Cx.keeps(c:Cx)(H:AH)(f:V):Prop:=match f with
 | .ref a=>keepIn c.K (.ref a)=true∨∃q b sc cl cd,H a=some (.lam q b sc cl cd)
 | _=>False
def dy(c:Cx)(d:Nat)(f:V)(args:List V)(H:AH)(Q:Q1)(E:XP):Prop:=
 c.keeps H f∧∀(x:Fx) lo fv vs,er fv=f→vs.map er=args→∀base s A,Ok d x A→aq c base (x.fs lo) H s→
  Re c.M A (.call fv ⟨vs,[]⟩) (fun r s'=>match r with
   | .ok (.ret v)=>∃H',aq c base (x.fs lo) H' s'∧Q (er v) H'
   | .ok _=>False
   | .error e=>iu c base x E e s') s
noncomputable def aW(lo hi:Int):List V:=(Ou (hi-lo).toNat).map fun (i:Nat)=>.int (lo+(i:Int))
noncomputable def fB:List V→Option (List Str)
 | []=>some []
 | .str s::r=>(fB r).map (s :: ·)
 | _=>none
noncomputable def Cx.meth(c:Cx)(C:Addr)(x:Str):Option Addr:=match findIn c.K (.ref C) x with
 | some (some (.ref f))=>if isFn c.K (.ref f)&&Rf c.K C x then some f else none
 | _=>none
noncomputable def rB(n:Str):Option String:=
 if n=No "append" then some "list.append" else if n=No "reverse" then some "list.reverse" else if n=No "pop" then some "list.pop" else if n=No "index" then some "list.index" else if n=No "extend" then some "list.extend" else none
inductive iq(c:Cx)(H:AH)(k:V→Prop):Str→V→Prop
 | m_rjust{s}(q:k (.bi "str.rjust")):iq c H k (No "rjust") (.str s)
 | m_join{s}(q:k (.bi "str.join")):iq c H k (No "join") (.str s)
 | m_list{a xs n id}(h:H a=some (.list xs))(e:rB n=some id)(q:k (.bi id)):iq c H k n (.ref a)
 | m_tup{a xs}(h:H a=some (.tup xs))(q:k (.bi "tuple.index")):iq c H k (No "index") (.ref a)
 | m_dict{a es ep}(h:H a=some (.sdict es ep))(q:k (.bi "dict.get")):iq c H k (No "get") (.ref a)
 | m_own{a C fs n f}(h:H a=some (.inst C fs))(e:Ay fs n=none)(m:c.meth C n=some f)(q:k (.ref f)):iq c H k n (.ref a)
abbrev np(c:Cx)(o:V)(n:Str)(H:AH)(k:V→Prop):Prop:=iq c H k n o
noncomputable def Cx.clsOk(c:Cx)(D:Addr):Bool:=Rf c.K D (No "__class__")&&QZ c.K D&&(findIn c.K (.ref D) (No "__class__")==some (some (.builtin "object.__class__"))) &&
 (specialIn c.K (.builtin "object.__class__") (No "__get__")==some (some (.builtin "getset_descriptor.__get__")))&&(takesIn c.K (.builtin "object.__class__")==some true)&&(mroIn c.K D (.type "object")==some true)
noncomputable def Cx.isOk(c:Cx)(D C:Addr):Bool:=if D=C then true else kin_not c.K D C&&c.clsOk D
noncomputable def Cx.isOkT(c:Cx)(D:Addr)(T:String):Bool:=kin_notT c.K D T&&c.clsOk D
inductive jZ(c:Cx)(H:AH)(Q:Q1):String→List V→Prop
 | len_l{a xs}(h:H a=some (.list xs))(l:xs.length≤100000)(q:Q (.int xs.length) H):jZ c H Q "len" [.ref a]
 | len_i{a es}(h:H a=some (.idict es))(l:es.length≤100000)(q:Q (.int es.length) H):jZ c H Q "len" [.ref a]
 | len_x{s}(l:s.length≤100000)(q:Q (.int s.length) H):jZ c H Q "len" [.str s]
 | isC{a C D fs}(h:H a=some (.inst D fs))(o:c.isOk D C=true)(q:Q (.bool (decide (D=C))) H):jZ c H Q "isinstance" [.ref a,.ref C]
 | isS{s}(q:Q (.bool true) H):jZ c H Q "isinstance" [.str s,.ty "str"]
 | isI{a D fs}(h:H a=some (.inst D fs))(o:c.isOkT D "str" = true)(q:Q (.bool false) H):jZ c H Q "isinstance" [.ref a,.ty "str"]
 | isT{a xs}(h:H a=some (.tup xs))(q:Q (.bool false) H):jZ c H Q "isinstance" [.ref a,.ty "str"]
 | max2{i j}(q:Q (.int (max i j)) H):jZ c H Q "max" [.int i,.int j]
 | max1{a xs is}(h:H a=some (.list xs))(h2:xs=is.map .int)(h3:is≠[])(h4:is.length≤100000)(q:∀M,M∈is→(∀a∈is,a≤M)→Q (.int M) H):jZ c H Q "max" [.ref a]
 | abs_{i:Int}(q:Q (.int i.natAbs) H):jZ c H Q "abs" [.int i]
 | chr_{i:Int}(h:0≤i)(h':i<1000)(q:Q (.str ⟨#[i.toNat]⟩) H):jZ c H Q "chr" [.int i]
 | append_{a xs v}(h:H a=some (.list xs))(l:xs.length≤100000)(q:Q .none (upd H a (.list (xs++[v])))):jZ c H Q "list.append" [.ref a,v]
 | reverse_{a xs}(h:H a=some (.list xs))(l:xs.length≤100000)(q:Q .none (upd H a (.list xs.reverse))):jZ c H Q "list.reverse" [.ref a]
 | pop_{a xs v}(h:H a=some (.list xs))(l:xs.length≤100000)(e:xs.getLast? = some v)(q:Q v (upd H a (.list xs.dropLast))):jZ c H Q "list.pop" [.ref a]
 | extend_{a b xs ys}(h:H a=some (.list xs))(h':H b=some (.list ys))(ne:b≠a)(l:xs.length+ys.length≤100000)(q:Q .none (upd H a (.list (xs++ys)))):jZ c H Q "list.extend" [.ref a,.ref b]
 | index_{a xs v}{i:Nat}(h:H a=some (.list xs))(f:aF v=true)(g:xs.all aF=true)(l:xs.length≤100000)(e:xs.findIdx? (fun y=>decide (y=v))=some i)(q:Q (.int i) H):jZ c H Q "list.index" [.ref a,v]
 | indexT_{a xs v}{i:Nat}(h:H a=some (.tup xs))(f:aF v=true)(g:xs.all aF=true)(l:xs.length≤100000)(e:xs.findIdx? (fun y=>decide (y=v))=some i)(q:Q (.int i) H):jZ c H Q "tuple.index" [.ref a,v]
 | get_{a es ep s}(h:H a=some (.sdict es ep))(q:Q ((es.lookup s).getD .none) H):jZ c H Q "dict.get" [.ref a,.str s]
 | rjust_{s n f}(h1:f.length=1)(h2:0≤n)(h3:n≤1000)(l:s.length≤1000)(q:Q (.str (Ub s n (f.cps.getD 0 0))) H):jZ c H Q "str.rjust" [.str s,.int n,.str f]
 | join_{s b xs ss}(h:H b=some (.list xs))(e:fB xs=some ss)(j:JoinOk s ss=true)(l:ss.length≤1000)(q:Q (.str (TW s ss)) H):jZ c H Q "str.join" [.str s,.ref b]
abbrev JM(c:Cx)(id:String)(args:List V)(H:AH)(Q:Q1):Prop:=jZ c H Q id args
inductive yX(H:AH)(Q:Q1):String→List V→Prop
 | list_{a xs}(h:H a=some (.list xs))(l:xs.length≤100000)(q:bI (.list xs) H Q):yX H Q "list" [.ref a]
 | listR{a l h}(e:H a=some (.rng l h))(h1 : -100000≤l)(h2:l≤100000)(h3:h≤100000)(h4 : -100000≤h)(q:bI (.list (aW l h)) H Q):yX H Q "list" [.ref a]
 | dict_{a es ep}(h:H a=some (.sdict es ep))(l:es.length≤100000)(q:∀ep,bI (.sdict es ep) H Q):yX H Q "dict" [.ref a]
 | rng1{i}(h : -100000≤i)(h':i≤100000)(q:bI (.rng 0 i) H Q):yX H Q "range" [.int i]
 | rng2{l h}(h1 : -100000≤l)(h2:l≤100000)(h3 : -100000≤h)(h4:h≤100000)(q:bI (.rng l h) H Q):yX H Q "range" [.int l,.int h]
 | str_{i:Int}(h:i.natAbs<10^20)(q:Q (.str (No (toString i))) H):yX H Q "str" [.int i]
abbrev JL(id:String)(args:List V)(H:AH)(Q:Q1):Prop:=yX H Q id args
def eg(c:Cx)(d:Nat)(f:V)(args:List V)(H:AH)(Q:Q1)(E:XP):Prop:=match f with
 | .bi id=>JM c id args H Q
 | .ty id=>JL id args H Q
 | .ref a=>dy c d (.ref a) args H Q E
 | _=>False
noncomputable def w8(xs:List V):O→Prop
 | .list ys=>ys.length≤100000∧ys=xs
 | .tup ys=>ys.length≤100000∧ys=xs
 | .sdict es _=>es.length≤100000∧es.map (fun p=>.str p.1)=xs
 | .rng l h=>-100000≤l∧l≤100000∧h≤100000∧-100000≤h∧aW l h=xs
 | _=>False
inductive bw(it:V)(H:AH)(xs:List V):Prop
 | mk(a:Addr)(o:O)(e:it=.ref a)(h:H a=some o)(q:w8 xs o)
def bZ(it:V)(H H':AH):Prop:=match it with
 | .ref a=>H' a=H a
 | _=>True
inductive jK(it:V)(H:AH)(body:V→AH→(Option V→AH→Prop)→Prop)(Q:Q1):Prop
 | mk(xs:List V)(h:bw it H xs)(I:Nat→List V→AH→Prop)(h0:I 0 [] H)
  (step:∀i y ys H',xs[i]? = some y→I i ys H'→bZ it H H'∧ys.length≤i∧body y H' (fun r H''=>I (i+1) (ys++r.toList) H''))
  (fin:∀ys H',I xs.length ys H'→bZ it H H'∧bI (.list ys) H' Q)
theorem jK.el{it:V}{H:AH}{body:V→AH→(Option V→AH→Prop)→Prop}{Q:Q1}{P_:Prop}(h_:jK it H body Q)(k_:∀(xs:List V) (h:bw it H xs) (I:Nat→List V→AH→Prop) (h0:I 0 [] H) (step:∀i y ys H',xs[i]? = some y→I i ys H'→bZ it H H'∧ys.length≤i∧body y H' (fun r H''=>I (i+1) (ys++r.toList) H'')) (fin:∀ys H',I xs.length ys H'→bZ it H H'∧bI (.list ys) H' Q),P_):P_:=jK.rec (motive:=fun ζ=>P_) k_ h_
def iA(v:V)(k:Str→Prop):Prop:=match v with
 | .str b=>k b
 | _=>False
noncomputable def uV(I:List (Str×V)→AH→Prop)(ys:List (Str×V)):Option (V×V)→AH→Prop
 | none,H=>I ys H
 | some p,H=>iA p.1 fun k=>I (iB ys k p.2) H
inductive jL(it:V)(H:AH)(body:V→AH→(Option (V×V)→AH→Prop)→Prop)(Q:Q1):Prop
 | mk(xs:List V)(h:bw it H xs)(I:Nat→List (Str×V)→AH→Prop)(h0:I 0 [] H)
  (step:∀i y ys H',xs[i]? = some y→I i ys H'→bZ it H H'∧ys.length≤i∧body y H' (uV (I (i+1)) ys))
  (fin:∀ys H',I xs.length ys H'→bZ it H H'∧∀ep,bI (.sdict ys ep) H' Q)
theorem jL.el{it:V}{H:AH}{body:V→AH→(Option (V×V)→AH→Prop)→Prop}{Q:Q1}{P_:Prop}(h_:jL it H body Q)(k_:∀(xs:List V) (h:bw it H xs) (I:Nat→List (Str×V)→AH→Prop) (h0:I 0 [] H) (step:∀i y ys H',xs[i]? = some y→I i ys H'→bZ it H H'∧ys.length≤i∧body y H' (uV (I (i+1)) ys)) (fin:∀ys H',I xs.length ys H'→bZ it H H'∧∀ep,bI (.sdict ys ep) H' Q),P_):P_:=jL.rec (motive:=fun ζ=>P_) k_ h_
noncomputable def pb:XP:=fun ζ ζ=>False
noncomputable def jf(y:Str)(v:V):Lo:=fun z=>if z=y then some v else none
def uL(H:AH)(Q:Q1):Prop:=(∀ep,bI (.sdict [] ep) H Q)∨bI (.idict []) H Q
inductive Sh where
 | name(y:Str)(q:Pos) | const (v:Const) (m:Nat) (p:Pos) | slice (l u s:Option Nu) (q:Pos) | fmt (f:Nu) (i:Int) (o:Option Nu) (p:Pos)
 | call(f:Nu)(as:List Nu)(ks:List Keyword)(p:Pos) | att (o:Nu) (n:Str) (p:Pos) | tup (es:List Nu) (k:Nat) (p:Pos) | sub (o i:Nu) (p:Pos) | star | lco (e:Nu) (gs:List P7) (sc:Scope) (p:Pos) | dco (k v:Nu) (gs:List P7) (sc:Scope) (p:Pos) | sco (e:Nu) (gs:List P7) (sc:Scope) (p:Pos) | oth
noncomputable def sh(e:Nu):Sh:=match e with
 | .Name y q=>.name y q
 | .Constant v m p=>.const v m p
 | .Slice l u s q=>.slice l u s q
 | .FormattedValue f i o p=>.fmt f i o p
 | .Call f as ks p=>.call f as ks p
 | .Attribute o n p=>.att o n p
 | .Tuple es k p=>.tup es k p
 | .Subscript o i p=>.sub o i p
 | .Starred ..=>.star
 | .ListComp e gs sc p=>.lco e gs sc p
 | .DictComp k v gs sc p=>.dco k v gs sc p
 | .SetComp e gs sc p=>.sco e gs sc p
 | _=>.oth
noncomputable def Kq(e:Nu):Sh→Prop
 | .name y q=>e=.Name y q
 | .const v m p=>e=.Constant v m p
 | .slice l u s q=>e=.Slice l u s q
 | .fmt f i o p=>e=.FormattedValue f i o p
 | .call f as ks p=>e=.Call f as ks p
 | .att o n p=>e=.Attribute o n p
 | .tup es k p=>e=.Tuple es k p
 | .sub o i p=>e=.Subscript o i p
 | .lco x gs sc p=>e=.ListComp x gs sc p
 | .dco k v gs sc p=>e=.DictComp k v gs sc p
 | .sco x gs sc p=>e=.SetComp x gs sc p
 | _=>True
theorem wz(e:Nu):Kq e (sh e):=by
 induction e using PySem.Expr.casesOn<;>first | exact rfl | exact trivial
noncomputable def b6(e:Nu):Bool:=match sh e with
 | .slice .. | .star=>true
 | _=>false
noncomputable def noStar(es:List Nu):Bool:=decide (es.length<20)&&es.all fun e=>!b6 e
noncomputable def lP(e:Nu):Bool:=match sh e with
 | .call f as ks _=>(match sh f with | .name ..=>!(as.isEmpty&&ks.isEmpty) | _=>true)
 | _=>true
def kz(H:AH)(v:V)(k:List V→Prop):Prop:=match v with
 | .ref a=>(match H a with | some (.tup xs)=>k xs | _=>False)
 | _=>False
def mr(op:Ph)(a b:V)(k:Int→Prop):Prop:=dM a b fun i j=>match op with
 | .Add=>k (i+j)
 | .Sub=>k (i-j)
 | _=>False
noncomputable def yj:Sh→Bool
 | .lco .. | .dco .. | .sco ..=>false
 | _=>true
noncomputable def gb(e:Nu):Bool:=yj (sh e)
noncomputable def sP(e:Nu):Bool:=match sh e with
 | .tup es _ _=>decide (es.length=2)&&!(es.all (constantsAlone 8))
 | _=>true
end
section
abbrev QV(lo:Lo)(Q:Q1):Value→Lo→AH→Prop:=fun v l h=>l=lo∧Q (er v) h
abbrev QB(lo:Lo)(Q:Bool→AH→Prop):Bool→Lo→AH→Prop:=fun b l h=>l=lo∧Q b h
section
variable{c:Cx}{base:Heap}{fs:List Fm}{H:AH}{s:Shared}
theorem aq.mono(R:aq c base fs H s){h':Heap}{t:Nat}(k:∀b o,s.heap.get? b=some o→h'.get? b=some o):aq c base fs H { s with heap:=h',toks:=t }:=by
 refine (R).el fun g o D R=>?_;exact ⟨g,o,D,R.mono k⟩
theorem aq.new(R:aq c base fs H s){o:O}{ob:Obj}{t:Nat}(hi:o.isInst=false)(ho:∀d,ce c (s.heap.push ob) s.heap.objs.size d o) :
  aq c base fs (upd H s.heap.objs.size o) { s with heap:=s.heap.push ob,toks:=t }:=by
 refine (R).el fun g os D R=>?_;exact ⟨g,os,D,R.add (NX (Oe _)) (fun b o e=>NR _ e) hi (ho _)⟩
theorem aq.newAt(R:aq c base fs H s){o:O}{h':Heap}{n:Addr}{t:Nat}(hn:s.heap.get? n=none)(hi:o.isInst=false)(k:∀b o,s.heap.get? b=some o→h'.get? b=some o)(ho:∀d,ce c h' n d o) :
  aq c base fs (upd H n o) { s with heap:=h',toks:=t }:=by
 refine (R).el fun g os D R=>?_;exact ⟨g,os,D,R.add hn k hi (ho _)⟩
theorem aq.set(R:aq c base fs H s){a:Addr}{o o':O}{h':Heap}{t:Nat}(e:H a=some o)(hi:o.isInst=false)(hi':o'.isInst=false)(hs:OT a s.heap h')(ho:∀d,ce c h' a d o') :
  aq c base fs (upd H a o') { s with heap:=h',toks:=t }:=by
 refine (R).el fun g os D R=>?_;exact ⟨g,os,D,R.set e hi hi' hs (ho _)⟩
theorem aq.freshN(R:aq c base fs H s){n:Addr}(hn:s.heap.get? n=none):H n=none:=by
 refine (R).el fun ζ ζ D R=>?_;exact (R.fresh hn).2.1
theorem aq.size(R:aq c base fs H s):H s.heap.objs.size=none:=R.freshN (NX (Oe _))
theorem aq.list(R:aq c base fs H s){a:Addr}{xs:List V}(e:H a=some (.list xs)):pO s.heap a "list" xs:=by
 refine (R).el fun ζ ζ D R=>?_;exact (R.objs a _ e).1
theorem aq.tup(R:aq c base fs H s){a:Addr}{xs:List V}(e:H a=some (.tup xs)):pO s.heap a "tuple" xs:=by
 refine (R).el fun ζ ζ D R=>?_;exact (R.objs a _ e).1
theorem aq.sdict(R:aq c base fs H s){a:Addr}{es:List (Str×V)}{ep:Nat}(e:H a=some (.sdict es ep)):Gh c s.heap a es ep:=by
 refine (R).el fun ζ ζ D R=>?_;exact (R.objs a _ e).1
theorem aq.idict(R:aq c base fs H s){a:Addr}{es:List (Int×V)}(e:H a=some (.idict es)):Gw c s.heap a es:=by
 refine (R).el fun ζ ζ D R=>?_;exact (R.objs a _ e).1
theorem aq.noSys(R:aq c base fs H s){a:Addr}{o:O}(e:H a=some o):(a==Q3)=false:=by
 refine (R).el fun ζ ζ D R=>?_;refine Nz (c.smods) fun o' h=>?_;refine beq_eq_false_iff_ne.mpr fun q=>?_;have h1:=R.ground _ _ h;rw[← q,(R.objs a o e).2.1]at h1;exact ac h1
theorem al{h:Heap}{a:Addr}{items:Array Value}{n:Nat}(e:h.get? a=some { cls:=.type "list",data:=.seq items n }):h.IsList a items:=⟨_,e,rfl,n,rfl⟩
theorem ba{h:Heap}{a:Addr}{items:Array Value}{n:Nat}(e:h.get? a=some { cls:=.type "tuple",data:=.seq items n }):h.IsTuple a items:=⟨_,e,rfl,n,rfl⟩
theorem bj{P:R6}{w:World}{K:Type}[DecidableEq K]{knd:KeyKind P w K}{h:Heap}{a:Addr}{kvs:List (K×Value)}{ep:Nat}(x:Ss knd h a kvs ep):Qg knd h a kvs:=
 let ⟨o,es,e,r⟩:=x;⟨o,es,ep,e,r⟩
theorem dN{P:R6}{w:World}{K:Type}[DecidableEq K]{knd:KeyKind P w K}{h:Heap}{a:Addr}{kvs:List (K×Value)}(x:Qg knd h a kvs):∃ep,Ss knd h a kvs ep:=
 let ⟨o,es,ep,e,r⟩:=x;⟨ep,o,es,e,r⟩
end
section
variable{c:Cx}{d:Nat}{x:Fx}{lo:Lo}{H:AH}{E:XP}
theorem W.keep{α:Type}{t:Sem α}{Q:α→Lo→AH→Prop}(h:∀A s (E':Value→Shared→Prop) (Q':α→Shared→Prop),Ok d x A→(∀(a:α) (k:Nat),Q a lo H→Q' a { s with toks:=k })→(∃base,aq c base (x.fs lo) H s)→wpAny c.M A t Q' E' s):W c d x t lo H Q E:=
 fun base s A ok R=>h A s _ _ ok (fun a k q=>⟨lo,H,R,q⟩) ⟨base,R⟩
theorem W.newList{vs:List Value}{Q:Q1}(hl:vs.length≤100000)(h:bI (.list (vs.map er)) H Q):W c d x (newList vs) lo H (QV lo Q) E:=
 fun base s A ok R=>PL (⟨lo,_,R.new (o:=.list (vs.map er)) rfl fun ζ=>⟨_,_,N9 _ rfl,rfl⟩,rfl,h _ R.size⟩) (by show vs.toArray.size≤QH;rw[Po];simp;exact Np ‹_› (by decide))
theorem W.newTuple{vs:List Value}{Q:Q1}(hl:vs.length≤100000)(h:bI (.tup (vs.map er)) H Q):W c d x (newTuple vs) lo H (QV lo Q) E:=
 fun base s A ok R=>PL (⟨lo,_,R.new (o:=.tup (vs.map er)) rfl fun ζ=>⟨_,_,N9 _ rfl,rfl⟩,rfl,h _ R.size⟩) (by show vs.toArray.size≤QH;rw[Po];simp;exact Np ‹_› (by decide))
theorem aQ{items:Array Value}{xs:List V}(e:items.toList.map er=xs):items.size=xs.length:=by rw[← e];simp
theorem uJ(i:Int){j:Int}(h:0<j):Int.fdiv i j=i / j:=Int.fdiv_eq_ediv_of_nonneg i (OM ‹_›)
theorem uD(i:Int){j:Int}(h:0<j):Int.fmod i j=i % j:=Int.fmod_eq_emod_of_nonneg i (OM ‹_›)
theorem i6{i:Int}(h:small i):P9 i≤64:=intBits_le_64 h.1 h.2
theorem pf{j:Int}(h0:0<j)(h:j<2^64):j.natAbs.log2<9000:=by
 have h1:j.natAbs.log2<64:=(Nat.log2_lt (N6 (Int.natAbs_pos.mpr (Qs h0)))).mpr (pN (OM h0) h);exact N2 ‹_› (by decide)
theorem rj{i j:Int}(h1:1<i)(h2:i≤1000)(h3:0≤j)(h4:j≤1000):(P9 i:Int)*j≤2^27:=by
 have hb:P9 i≤64:=intBits_le_64 (Pc (by decide) h1) (OE h2 (by decide));have:(P9 i:Int)*j≤64*1000:=Int.mul_le_mul (Int.ofNat_le.mpr hb) h4 h3 (by decide);exact NC this (by decide)
theorem xm{n:Int}(h1:1≤n)(h2:n≤1000):(1:Int)≤(2^63-1) / n:=by
 rw[Int.le_ediv_iff_mul_le (‹_›),Int.one_mul];exact NC h2 (by decide)
theorem kg(n:Nat)(items:Array Value):(Pm (fun x1 x2=>x1++x2) #[] (NM n items)).toList.map er=(NM n (items.toList.map er)).flatten:=by
 have key:∀(n:Nat) (acc:Array Value),(Pm (fun x1 x2=>x1++x2) acc (NM n items)).toList.map er=acc.toList.map er++(NM n (items.toList.map er)).flatten:=by
  intro n
  induction n with
  | zero=>intro acc;simp
  | succ n ih=>intro acc;rw[Qk,Ra,ih];simp [Qk]
 simpa using key n #[]
theorem iP{v:V}{i:Int}(h:fk v=some i):v=.int i:=by
 induction v with
 | int j=>exact Nw V.int (Option.some.inj h)
 | _=>exact ac h
inductive I2(a b:V)(k:Int→Int→Prop):Prop
 | mk(i j:Int)(ea:a=.int i)(eb:b=.int j)(h:k i j)
theorem I2.el{a b:V}{k:Int→Int→Prop}{P_:Prop}(h_:I2 a b k)(k_:∀(i j:Int) (ea:a=.int i) (eb:b=.int j) (h:k i j),P_):P_:=I2.rec (motive:=fun ζ=>P_) k_ h_
theorem fg{a b:V}{k:Int→Int→Prop}(h:dM a b k):I2 a b k:=by
 unfold dM at h;refine ay (o:=fk a) (fun ea=>?_) (fun i ea=>?_)
 ·rw[ea]at h;exact h.elim
 ·
  refine ay (o:=fk b) (fun eb=>?_) (fun j eb=>?_)
  ·rw[ea,eb]at h;exact h.elim
  ·rw[ea,eb]at h;exact ⟨i,j,iP ea,iP eb,h⟩
theorem si{op:Ph}{i j:Int}{t u:Tok}{Q:Q1}(h:F5 op i j H Q):W c d x (binaryOp op (.int i t) (.int j u)) lo H (QV lo Q) E:=by
 intro base s A ok R
 induction op with
 | Add=>exact add_int ⟨lo,H,R,rfl,h⟩
 | Sub=>exact sub_int ⟨lo,H,R,rfl,h⟩
 | Mult=>exact mul_int ⟨lo,H,R,rfl,h.2⟩ (h.1.elim (fun z=>IntMulOk.of_left (i6 z)) fun z=>IntMulOk.of_right (i6 z))
 | FloorDiv=>exact floordiv_int (Qs h.1) ⟨lo,H,R,rfl,(Nw (fun v=>Q (.int v) H) (uJ _ h.1)).mpr h.2.2⟩ (.inl (PyProof.noPylong_of_log2 (pf h.1 h.2.1)))
 | Mod=>exact mod_int' (Qs h.1) ⟨lo,H,R,rfl,(Nw (fun v=>Q (.int v) H) (uD _ h.1)).mpr h.2⟩
 | Pow=>exact pow_int h.2.2.1 (rj h.1 h.2.1 h.2.2.1 h.2.2.2.1) ⟨lo,H,R,rfl,h.2.2.2.2⟩
 | _=>exact h.elim
theorem jO{op:Ph}{a b:V}{va vb:Value}{Q:Q1}(ha:er va=a)(hb:er vb=b)(h:oD H Q op a b):W c d x (binaryOp op va vb) lo H (QV lo Q) E:=by
 intro base s A ok R
 induction h with
 | addS l q=>
  refine bC (ha) fun t=>?_;refine bC (hb) fun u=>?_;exact add_str (fun t' k=>⟨lo,H,R,rfl,q⟩) (by rw[Po];exact Np ‹_› (by decide))
 | mulS h1 h2 h3 q=>
  refine bC (ha) fun t=>?_;refine bb (hb) fun u=>?_;refine PySem.SB.mul ⟨by simp;exact KP h2 h3,fun hn e=>?_,fun e e'=>?_⟩ (fun t' k=>⟨lo,H,R,rfl,q⟩)
  ·rw[h1];exact Int.not_lt.mpr (xm (Int.not_lt.mp hn) h3)
  ·rw[h1];unfold SD;rw[Po];simp;exact NC ‹_› (by decide)
 | addL e1 e2 l q=>
  refine az ha ?_;refine az hb ?_;refine (R.list e1).el fun i1 n1 g1 q1=>?_;refine (R.list e2).el fun i2 n2 g2 q2=>?_;have l1:=aQ q1;have l2:=aQ q2;refine concat_meets ⟨_,g1,rfl⟩ ⟨_,g2,rfl⟩ noFill_list_add seq_list_add PySem.F.slot_list_add PySem.F.entry_list_add (PySem.F.args_list_add_2 _ _) (list_addW _ _ i1 i2 n1 n2 none none #[] #[] (by rw[Po];exact HA l1 l2 l)) ⟨g1,g2,?_⟩;exact ⟨lo,_,R.new (o:=.list _) rfl fun ζ=>⟨_,_,N9 _ rfl,by rw[RG,N8,q1,q2]⟩,rfl,q _ R.size⟩
 | @mulL l xs n e1 h1 h2 h3 q=>
  refine az ha ?_;refine bb (hb) fun u=>?_;refine (R.list e1).el fun i1 n1 g1 q1=>?_;have l1:=aQ q1;have hne:i1.isEmpty=false:=by rw[Array.isEmpty_eq_false_iff];intro q;rw[q,h1]at l1;exact absurd l1 (by decide)
  refine wpAny_binaryOp_repeat_ref (T:="list") (U:="int") (by decide) ⟨_,g1,rfl⟩ (fun s'=>typeIs_int s' _ u) noFill_list_mul PySem.F.fills_int_mul SR repeat_list PySem.F.slot_int_index.lookup
   (Qr SR (typeIs_int s _ u) PySem.F.entry_int_rmul (PySem.F.args_int_rmul_2 _ _) (int___rmul___int_list _ u l i1 n1)
    ⟨g1,rfl,⟨_,g1,rfl⟩,Qr PySem.F.slot_list_mul ⟨_,g1,rfl⟩ PySem.F.entry_list_mul (PySem.F.args_list_mul_2 _ _)
     (AutoListH.list___mul___list_int_3 l i1 n1 _ u (by simp [Builtin.List.listFitsIndex];exact MO h2 h3) (by rw[l1,h1,Nat.one_mul];exact Nat.not_lt.mpr (Np (GE (k:=100000) h2) (by decide))) (by rw[l1,h1];simp [RZ,QH];exact NC ‹_› (by decide)))
     ⟨g1,?_⟩⟩)
  refine ⟨lo,_,R.new (o:=.list (NM _ xs).flatten) rfl fun ζ=>⟨_,_,N9 _ rfl,?_⟩,rfl,q _ R.size⟩;rw[hne,← q1];exact kg _ _
theorem pG{op:Ph}{a b:V}{va vb:Value}{Q:Q1}(ha:er va=a)(hb:er vb=b)(h:n6 op a b H Q):W c d x (binaryOp op va vb) lo H (QV lo Q) E:=by
 unfold n6 at h;refine ay (o:=fk a) (fun ea=>?_) (fun i ea=>?_)
 ·rw[ea]at h;exact jO ha hb h
 ·
  rw[ea]at h;refine ay (o:=fk b) (fun eb=>?_) (fun j eb=>?_)
  ·rw[eb]at h;exact jO ha hb h
  ·
   rw[eb]at h;refine bb ((ha.trans (iP ea))) fun t=>?_;refine bb ((hb.trans (iP eb))) fun u=>?_;exact si h
end
end
section
open AutoSeq1 (wpAny_loadPart')
inductive Fl:Value→Prop
 | none:Fl .none
 | int(i:Int)(t:Tok):Fl (.int i t)
 | str(s:Str)(t:Tok):Fl (.str s t)
theorem ij{v:Value}(h:aF (er v)=true):Fl v:=by
 induction v with
 | none=>exact .none
 | int i t=>exact .int i t
 | str s t=>exact .str s t
 | _=>exact (Nt h).elim
theorem uT(i j:Int):decide (V.int i=V.int j)=decide (i=j):=decide_eq_decide.mpr ⟨V.int.inj,Nw _⟩
theorem uS(i j:Str):decide (V.str i=V.str j)=decide (i=j):=decide_eq_decide.mpr ⟨V.str.inj,Nw _⟩
theorem gG{α:Type}[BEq α][LawfulBEq α][DecidableEq α](i j:α):(i==j)=decide (i=j):=Bool.eq_iff_iff.mpr (beq_iff_eq.trans decide_eq_true_iff.symm)
theorem kM{A:Around}{s:Shared}{u v:Value}(hu:aF (er u)=true)(hv:aF (er v)=true):SJ A s u v (decide (er u=er v)):=by
 induction ij hu with
 | none=>induction ij hv with
  | none=>exact Tf _
  | int j u=>exact SeqAt.EqAt.none_int _ _
  | str j u=>exact SeqAt.EqAt.none_str _ _
 | int i t=>induction ij hv with
  | none=>exact SeqAt.EqAt.int_none _ _
  | int j u=>rw[show decide (er (.int i t)=er (.int j u))=(i==j) from (uT i j).trans (gG i j).symm];exact SeqAt.EqAt.int_int i t j u
  | str j u=>exact SeqAt.EqAt.int_str _ _ _ _
 | str i t=>induction ij hv with
  | none=>exact SeqAt.EqAt.str_none _ _
  | int j u=>exact SeqAt.EqAt.str_int _ _ _ _
  | str j u=>rw[show decide (er (.str i t)=er (.str j u))=(i==j) from (uS i j).trans (gG i j).symm];exact SeqAt.EqAt.str_str i t j u
end
section
open AutoSeq1 (wpAny_loadPart')
open MeetsSeq MeetsSeq2 MeetsSeq3 SeqRoads2
def iI(c:Cx)(A:Around)(s:Shared)(u v:Value):Prop:=∀(E:Value→Shared→Prop) (Q:Bool→Shared→Prop),Q true s→wpAny c.M A (eqBool u v) Q E s
def Bo(c:Cx)(op:CmpOp)(A:Around)(s:Shared)(u v:Value)(b:Bool):Prop:=∀(E:Value→Shared→Prop) (Q:Value→Shared→Prop),Q (.bool b) s→wpAny c.M A (richCompare op u v) Q E s
theorem iI.of_at{c:Cx}{A:Around}{s:Shared}{u v:Value}(h:SJ A s u v true):iI c A s u v:=fun E Q q=>h c.prog c.w E Q q
theorem iI.of_rc{c:Cx}{A:Around}{s:Shared}{l b:Addr}(h:Bo c .Eq A s (.ref l) (.ref b) true):iI c A s (.ref l) (.ref b):=by
 by_cases e:l=b
 ·subst e;exact iI.of_at (Tf _)
 intro E Q hq;unfold eqBool;refine Oy ?_;refine wpAny_ite_split (fun hab=>absurd (by have:=eq_of_beq hab;injection this) e) (fun ζ=>?_);exact Nv (h E _ (wpAny_truthy_bool hq))
section
variable{c:Cx}
theorem qX(l b:Addr)(items items2:Array Value)(n n2:Nat)(hsz:items.size=items2.size) :
  TD c.prog c.w (Builtin.«tuple.__eq__» ⟨[.ref l,.ref b],[]⟩)
   (fun A R s=>s.heap.get? l=some { cls:=.type "tuple",data:=.seq items n }∧s.heap.get? b=some { cls:=.type "tuple",data:=.seq items2 n2 }∧
    (∀p∈items.toList.zip items2.toList,iI c A.in1 s p.1 p.2)∧R (.ok (.ret (.bool true))) s):=
 .of_wp fun A R s h=>by
  obtain ⟨hp,g,d,tk,os⟩:=s;have hl:=h.1;have hb:=h.2.1;have he:=h.2.2.1;replace h:=h.2.2.2;have f2:=Sr;wp_walk using N7 hl,N7 hb,Ru _ (fun rest b s'=>b.1=none∧s'=⟨hp,g,d,tk,os⟩∧∀p∈rest,p∈items.toList.zip items2.toList) _
  case turn=>
   rintro ⟨y,x⟩ rest b s' ⟨hb',rfl,hz⟩;refine Nv (he (y,x) (hz _ (.head _)) _ _ ?_);wp_walk;exact ⟨rfl,rfl,fun p hp=>hz p (.tail _ hp)⟩
  case fin=>
   rintro ⟨b1,b2⟩ s' ⟨hb',rfl,hz⟩;simp only at hb';subst hb';wp_walk;exact ⟨_,rfl,by simpa [Q8,hsz] using h⟩
  case h=>
   exact ⟨rfl,rfl,fun p hp=>by simpa using hp⟩
theorem qW(l b:Addr)(items items2:Array Value)(n n2:Nat)(hsz:items.size=items2.size) :
  TD c.prog c.w (Builtin.«tuple.__ne__» ⟨[.ref l,.ref b],[]⟩)
   (fun A R s=>s.heap.get? l=some { cls:=.type "tuple",data:=.seq items n }∧s.heap.get? b=some { cls:=.type "tuple",data:=.seq items2 n2 }∧
    (∀p∈items.toList.zip items2.toList,iI c A.in1 s p.1 p.2)∧R (.ok (.ret (.bool false))) s):=
 .of_wp fun A R s h=>by
  obtain ⟨hp,g,d,tk,os⟩:=s;have hl:=h.1;have hb:=h.2.1;have he:=h.2.2.1;replace h:=h.2.2.2;have f2:=Sr;wp_walk using N7 hl,N7 hb,Ru _ (fun rest b s'=>b.1=none∧s'=⟨hp,g,d,tk,os⟩∧∀p∈rest,p∈items.toList.zip items2.toList) _
  case turn=>
   rintro ⟨y,x⟩ rest b s' ⟨hb',rfl,hz⟩;refine Nv (he (y,x) (hz _ (.head _)) _ _ ?_);wp_walk;exact ⟨rfl,rfl,fun p hp=>hz p (.tail _ hp)⟩
  case fin=>
   rintro ⟨b1,b2⟩ s' ⟨hb',rfl,hz⟩;simp only at hb';subst hb';wp_walk;exact ⟨_,rfl,by simpa [Q8,hsz] using h⟩
  case h=>
   exact ⟨rfl,rfl,fun p hp=>by simpa using hp⟩
theorem nL(op:Int)(hop:op=2∨op=3)(l b:Addr)(items items2:Array Value)(n n2:Nat)(hsz:items.size=items2.size)(k:Nat) :
  ∀i:Nat,items.size-i=k→TD c.prog c.w (Builtin.«list.__eq__.loop» ⟨[.ref l,.ref b,rawInt i,rawInt op],[]⟩)
   (fun A R s=>s.heap.get? l=some { cls:=.type "list",data:=.seq items n }∧s.heap.get? b=some { cls:=.type "list",data:=.seq items2 n2 }∧
    (∀p∈items.toList.zip items2.toList,iI c A.in1 s p.1 p.2)∧R (.ok (.ret (.bool (decide (op=2))))) s):=by
 induction k with
 | zero=>
  intro i hk A R s h;obtain ⟨hp,g,d,tk,os⟩:=s;have hl:=h.1;have hb:=h.2.1;have he:=h.2.2.1;replace h:=h.2.2.2;have hi0:items.size≤i:=Nat.le_of_sub_eq_zero hk;have hi1:items[((i:Nat):Int).toNat]? = none:=QU hi0;have hi2:items2[((i:Nat):Int).toNat]? = none:=QU (hsz▸hi0);rcases hop with rfl | rfl
  ·wp_walk using N7 hl,N7 hb;rw[hi1,hi2];wp_walk using N7 hl,N7 hb;show R (.ok (.ret (.bool (items.size==items2.size)))) _;simpa [hsz] using h
  ·wp_walk using N7 hl,N7 hb;rw[hi1,hi2];wp_walk using N7 hl,N7 hb;show R (.ok (.ret (.bool (items.size != items2.size)))) _;simpa [hsz] using h
 | succ k ih=>
  intro i hk A R s h;obtain ⟨hp,g,d,tk,os⟩:=s;have hl:=h.1;have hb:=h.2.1;have he:=h.2.2.1;replace h:=h.2.2.2;have hlt:i<items.size:=Nat.lt_of_sub_eq_succ hk;have hlt2:i<items2.size:=hsz▸hlt;have hi1:items[((i:Nat):Int).toNat]? = some items[i]:=Oq hlt;have hi2:items2[((i:Nat):Int).toNat]? = some items2[i]:=Oq hlt2;have hc:((i:Int)+1)=((i+1:Nat):Int):=by push_cast;rfl
  have hm:(items[i],items2[i])∈items.toList.zip items2.toList:=List.mem_iff_getElem.mpr ⟨i,List.length_zip▸Nat.lt_min.mpr ⟨hlt,hlt2⟩,List.getElem_zip⟩;rcases hop with rfl | rfl
  all_goals
     wp_walk using N7 hl,N7 hb;rw[hi1,hi2];refine Nv (he _ hm _ _ ?_);wp_walk;rw[hc];exact ⟨TG plain_eq_loop _,RM entry_eq_loop (by
   rw[Rb plain_eq_loop _];exact ih (i+1) (by rw[Nat.sub_add_eq,hk];rfl) A R _ ⟨hl,hb,he,h⟩)⟩
theorem tZ(l b:Addr)(items items2:Array Value)(n n2:Nat)(hsz:items.size=items2.size) :
  TD c.prog c.w (Builtin.«list.__eq__» ⟨[.ref l,.ref b],[]⟩)
   (fun A R s=>s.heap.get? l=some { cls:=.type "list",data:=.seq items n }∧s.heap.get? b=some { cls:=.type "list",data:=.seq items2 n2 }∧
    (∀p∈items.toList.zip items2.toList,iI c A.in1 s p.1 p.2)∧R (.ok (.ret (.bool true))) s):=by
 intro A R s h;obtain ⟨hp,g,d,tk,os⟩:=s;have hl:=h.1;have hb:=h.2.1;have he:=h.2.2.1;replace h:=h.2.2.2;have f3:=SG;have hne : ¬ (items.size != items2.size)=true:=by simp [hsz]
 wp_walk using N7 hl,N7 hb;exact ⟨TG plain_eq_loop _,RM entry_eq_loop (by
  rw[Rb plain_eq_loop _];exact nL 2 (.inl rfl) l b items items2 n n2 hsz _ 0 rfl A R _ ⟨hl,hb,he,by simpa using h⟩)⟩
theorem tY(l b:Addr)(items items2:Array Value)(n n2:Nat)(hsz:items.size=items2.size) :
  TD c.prog c.w (Builtin.«list.__ne__» ⟨[.ref l,.ref b],[]⟩)
   (fun A R s=>s.heap.get? l=some { cls:=.type "list",data:=.seq items n }∧s.heap.get? b=some { cls:=.type "list",data:=.seq items2 n2 }∧
    (∀p∈items.toList.zip items2.toList,iI c A.in1 s p.1 p.2)∧R (.ok (.ret (.bool false))) s):=by
 intro A R s h;obtain ⟨hp,g,d,tk,os⟩:=s;have hl:=h.1;have hb:=h.2.1;have he:=h.2.2.1;replace h:=h.2.2.2;have f3:=SG;have hne : ¬ (items.size != items2.size)=true:=by simp [hsz]
 wp_walk using N7 hl,N7 hb;exact ⟨TG plain_eq_loop _,RM entry_eq_loop (by
  rw[Rb plain_eq_loop _];exact nL 3 (.inr rfl) l b items items2 n n2 hsz _ 0 rfl A R _ ⟨hl,hb,he,by simpa using h⟩)⟩
end
end
section
section
variable{c:Cx}{K:Type}[DecidableEq K]{knd:KeyKind c.prog c.w K}{A:Around}{E:Value→Shared→Prop}{s:Shared}
def Gy(c:Cx)(A:Around)(s:Shared)(kb:List (K×Value))(ka:List (K×Value)):Prop:=∀p∈ka,∃y,Rc kb p.1=some y∧iI c A s p.2 y
theorem Fu{h:Heap}{a:Addr}{ka:List (K×Value)}{P:Prop}(d:h.DictOf knd a ka)(k:∀o es ep,h.get? a=some o→o.data=.dict es ep→KeysOf knd es→Pairs knd es.toList ka→P):P:=by
 obtain ⟨o,es,ep,h1,_,h2,h3,h4,_⟩:=d;exact k o es ep h1 h2 h3 h4
theorem o4{nm:String}{a b:Addr}{ka kb:List (K×Value)}{Q:Bool→Shared→Prop}(ha:(a==Q3)=false)(hb:(b==Q3)=false)
  (da:s.heap.DictOf knd a ka) (db:s.heap.DictOf knd b kb) (hlen:ka.length=kb.length) (hits:Gy c A s kb ka) (h:Q true s) :
  wpAny c.M A (Se nm a b) Q E s:=by
 refine Fu da fun oa es ep hoa hda hka hpa=>Fu db fun ob es' ep' hob hdb hkb hpb=>?_;have hla:ka.length=es.size:=by rw[← hpa.length];exact Pe
 have hlb:kb.length=es'.size:=by rw[← hpb.length];exact Pe
 have hsz:es.size=es'.size:=hla.symm.trans (hlen.trans hlb);unfold Se Builtin.Dict.showsAll;rw[ha,hb];refine Nv (NP (Nv (NP ?_)));refine Nv (Q6 hoa hda ?_);refine Nv (Q6 hob hdb ?_);rw[if_neg (by rw[hsz];simp)];refine Nv (wpAny_dictEpoch hoa hda ?_);refine Nv ?_;rw[Qm];refine Ru _ (fun rest q s'=>s'=s∧q=(none,())∧∀i∈rest,i<es.size) _ ?_ ?_ _ _ ⟨rfl,rfl,fun i hi=>?_⟩
 ·rintro x rest q s' ⟨rfl,rfl,hr⟩;have hlt:x<es.size:=hr x (.head _);refine Nv (Q6 hoa hda ?_);rw[Oq hlt];have hlt':x<ka.length:=hla▸hlt;clear hlb;clear hsz;obtain ⟨hkey,hval⟩:=hpa.get? (i:=x) (e:=es[x]) (k:=ka[x].1) (v:=ka[x].2) (by rw[Qa];exact Oq hlt) ((NI hlt'));obtain ⟨k',hk',hh⟩:=hka es[x] (TV hlt);rw[knd.inj _ _ _ hk' hkey]at hh;obtain ⟨y,hy,he⟩:=hits ka[x] (OZ hlt');show wpAny _ _ (holding [es[x].key,es[x].val] _ >>= _) _ _ _;rw[hh];refine Nv (Oy (Nv (wpAny_dictFind_of hkey hob hdb hkb ?_)));have hf:findBy knd.is es' ka[x].1=some y:=by
   rw[← hy,← hpb.find ka[x].1];simp [findBy]
  rw[findBy_of_findIdx?]at hf;cases hj:es'.findIdx? fun e=>knd.is ka[x].1 e.key with
  | none=>rw[hj]at hf;exact ac hf
  | some j=>
   obtain ⟨hjlt,_,_⟩:=Array.findIdx?_eq_some_iff_getElem.mp hj;have ey:es'[j].val=y:=by
    rw[hj]at hf;simpa [Oq hjlt] using hf
   refine Nv (Q6 hob hdb ?_);rw[Oq hjlt];rw[← ey,← hval]at he;refine Oy (he _ _ ?_);show wpAny _ _ (if (!true)=true then _ else _) _ _ _;rw[if_neg (by decide)];refine Nv (wpAny_dictEpoch hoa hda ?_);rw[if_neg (by simp)];exact NP ⟨rfl,rfl,fun i hi=>hr i (.tail _ hi)⟩
 ·rintro q s' ⟨rfl,rfl,_⟩;exact NP h
 ·have hi:=(List.mem_range').mp hi;obtain ⟨j,hj,rfl⟩:=hi;simpa using hj
theorem uP{a b:Addr}{ka kb:List (K×Value)}(ha:(a==Q3)=false)(hb:(b==Q3)=false)
  (da:s.heap.DictOf knd a ka) (db:s.heap.DictOf knd b kb) (hu:A.units<cLine) (hlen:ka.length=kb.length) (hits:Gy c A.in1 s kb ka):Bo c .Eq A s (.ref a) (.ref b) true:=fun E Q h=>by
 refine Pg (op:=.Eq) da.typeIs db.typeIs SX (wpAny_call_entry SX da.typeIs PySem.F.entry_dict_eq ?_ (PySem.F.args_dict_eq_2 _ _)) hu;show wpAny _ _ (RS "__eq__" ⟨[.ref a,.ref b],[]⟩ >>= _) _ _ s;refine Nv ?_;unfold RS;refine Nv (wpAny_notOrdered_dict da.typeIs ?_);show wpAny _ _ (pure (Value.ref a,Value.ref b)) _ _ s;refine NP ?_;refine Nv (wpAny_isInstance (T:="dict") db.typeIs PySem.F.sub_dict_dict ?_);refine Nv (NP (Nv (NP ?_)));refine Nv (o4 ha hb da db hlen hits ?_);exact NP ⟨_,rfl,(fun x=>PD x),h⟩
end
section
variable{c:Cx}{A:Around}{s:Shared}
theorem jo{l b:Addr}{items items2:Array Value}{n n2:Nat}(hl:s.heap.get? l=some { cls:=.type "list",data:=.seq items n })(hb:s.heap.get? b=some { cls:=.type "list",data:=.seq items2 n2 })
  (hsz:items.size=items2.size) (hu:A.units<cLine) (he:∀p∈items.toList.zip items2.toList,iI c A.in1 s p.1 p.2):Bo c .Eq A s (.ref l) (.ref b) true:=fun E Q h=>
 Pg (op:=.Eq) ⟨_,hl,rfl⟩ ⟨_,hb,rfl⟩ F.slot_list_eq (QJ F.slot_list_eq ⟨_,hl,rfl⟩ F.entry_list_eq (F.args_list_eq_2 _ _) (tZ l b items items2 n n2 hsz)
  ⟨hl,hb,he,show Value.bool true≠Value.notImplemented∧Q (.bool true) s from ⟨(fun x=>PD x),h⟩⟩) hu
theorem jm{l b:Addr}{items items2:Array Value}{n n2:Nat}(hl:s.heap.get? l=some { cls:=.type "list",data:=.seq items n })(hb:s.heap.get? b=some { cls:=.type "list",data:=.seq items2 n2 })
  (hsz:items.size=items2.size) (hu:A.units<cLine) (he:∀p∈items.toList.zip items2.toList,iI c A.in1 s p.1 p.2):Bo c .NotEq A s (.ref l) (.ref b) false:=fun E Q h=>
 Pg (op:=.NotEq) ⟨_,hl,rfl⟩ ⟨_,hb,rfl⟩ F.slot_list_ne (QJ F.slot_list_ne ⟨_,hl,rfl⟩ F.entry_list_ne (F.args_list_ne_2 _ _) (tY l b items items2 n n2 hsz)
  ⟨hl,hb,he,show Value.bool false≠Value.notImplemented∧Q (.bool false) s from ⟨(fun x=>PD x),h⟩⟩) hu
theorem ky{l b:Addr}{items items2:Array Value}{n n2:Nat}(hl:s.heap.get? l=some { cls:=.type "tuple",data:=.seq items n })(hb:s.heap.get? b=some { cls:=.type "tuple",data:=.seq items2 n2 })
  (hsz:items.size=items2.size) (hu:A.units<cLine) (he:∀p∈items.toList.zip items2.toList,iI c A.in1 s p.1 p.2):Bo c .Eq A s (.ref l) (.ref b) true:=fun E Q h=>
 Pg (op:=.Eq) ⟨_,hl,rfl⟩ ⟨_,hb,rfl⟩ F.slot_tuple_eq (QJ F.slot_tuple_eq ⟨_,hl,rfl⟩ F.entry_tuple_eq (F.args_tuple_eq_2 _ _) (qX l b items items2 n n2 hsz)
  ⟨hl,hb,he,show Value.bool true≠Value.notImplemented∧Q (.bool true) s from ⟨(fun x=>PD x),h⟩⟩) hu
theorem mM{l b:Addr}{items items2:Array Value}{n n2:Nat}(hl:s.heap.get? l=some { cls:=.type "tuple",data:=.seq items n })(hb:s.heap.get? b=some { cls:=.type "tuple",data:=.seq items2 n2 })
  (hsz:items.size=items2.size) (hu:A.units<cLine) (he:∀p∈items.toList.zip items2.toList,iI c A.in1 s p.1 p.2):Bo c .NotEq A s (.ref l) (.ref b) false:=fun E Q h=>
 Pg (op:=.NotEq) ⟨_,hl,rfl⟩ ⟨_,hb,rfl⟩ F.slot_tuple_ne (QJ F.slot_tuple_ne ⟨_,hl,rfl⟩ F.entry_tuple_ne (F.args_tuple_ne_2 _ _) (qW l b items items2 n n2 hsz)
  ⟨hl,hb,he,show Value.bool false≠Value.notImplemented∧Q (.bool false) s from ⟨(fun x=>PD x),h⟩⟩) hu
end
section
variable{c:Cx}{base:Heap}{fs:List Fm}{H:AH}{s:Shared}
theorem F2.len{α β:Type}{R:α→β→Prop}{as:List α}{bs:List β}(h:F2 R as bs):as.length=bs.length:=by
 induction h with
 | nil=>rfl
 | cons _ _ ih=>simp [ih]
theorem F2.pairs{R:V→T→Prop}{ts:List T} : ∀{xs ys:List Value},F2 R (xs.map er) ts→F2 R (ys.map er) ts→∀p∈xs.zip ys,∃t,R (er p.1) t∧R (er p.2) t:=by
 induction ts with
 | nil=>intro xs ys h1 h2 p hp;cases xs<;>first | (cases hp;done) | (simp at h1;exact nomatch h1)
 | cons t ts ih=>
  intro xs ys h1 h2 p hp;cases xs with
  | nil=>cases hp
  | cons x xs=>
   rcases ys with _ | ⟨y,ys⟩
   ·simp at hp
   ·
    cases h1 with
    | cons a1 a2=>
     cases h2 with
     | cons b1 b2=>
      rcases List.mem_cons.mp hp with rfl | hp
      ·exact ⟨t,a1,b1⟩
      ·exact ih a2 b2 p hp
theorem fU{k:Str}{p:Str×Value}{r:List (Str×Value)} : Rc (p::r) k=if p.1=k then some p.2 else Rc r k:=by
 unfold Rc;rw[Qj];by_cases h:p.1=k<;>simp [h]
theorem F2.hits{R:V→T→Prop}{ts:List (Str×T)} : ∀{xs ys:List (Str×Value)},(ys.map (·.1)).Nodup→F2 (fun p q=>p.1=q.1∧R p.2 q.2) (xs.map fun p=>(p.1,er p.2)) ts→F2 (fun p q=>p.1=q.1∧R p.2 q.2) (ys.map fun p=>(p.1,er p.2)) ts→
  ∀p∈xs,∃y t,Rc ys p.1=some y∧R (er p.2) t∧R (er y) t:=by
 induction ts with
 | nil=>intro xs ys _ h1 h2 p hp;cases xs<;>first | (cases hp;done) | (simp at h1;exact nomatch h1)
 | cons t ts ih=>
  intro xs ys nd h1 h2 p hp
  induction xs using List.casesOn with
  | nil=>cases hp
  | cons x xs=>
   rcases ys with _ | ⟨y,ys⟩
   ·simp at h2;exact nomatch h2
   ·
    cases h1 with
    | cons a1 a2=>
     cases h2 with
     | cons b1 b2=>
      rcases List.mem_cons.mp hp with rfl | hp
      ·exact ⟨y.2,t.2,by rw[fU,if_pos (b1.1.trans a1.1.symm)],a1.2,b1.2⟩
      ·rw[NT,Op]at nd;refine Nz (ih nd.2 a2 b2 p hp) fun z zz=>Nz (zz) fun u zz=>NO (fun e1 zz=>NO (fun e2 e3=>?_) (zz)) (zz);refine ⟨z,u,?_,e2,e3⟩;rw[fU,if_neg]
       ·exact e1
       ·intro q;refine nd.1 ?_;rw[q];unfold Rc at e1;refine Nz (Option.map_eq_some_iff.mp e1) fun w zz=>NO (fun hw ζ=>?_) (zz);exact List.mem_map.mpr ⟨w,List.mem_of_find?_eq_some hw,by simpa using List.find?_some hw⟩
theorem qV(A:Around):A.in1.units=A.units+1:=rfl
theorem f5{n:Nat}{A:Around}{i1 i2:Array Value}{xs ys:List V}{ts:List T}(ih:∀u v t,Rd H n (er u) t→Rd H n (er v) t→iI c A s u v)(q1:i1.toList.map er=xs)(q2:i2.toList.map er=ys)(f1:F2 (Rd H n) xs ts)(f2:F2 (Rd H n) ys ts):i1.size=i2.size∧∀p∈i1.toList.zip i2.toList,iI c A s p.1 p.2:=by
 refine ⟨(aQ q1).trans (f1.len.trans (f2.len.symm.trans (aQ q2).symm)),fun p hp=>?_⟩;subst q1;subst q2;obtain ⟨t',r1,r2⟩:=F2.pairs f1 f2 p hp;exact ih _ _ t' r1 r2
theorem zp(R:aq c base fs H s)(n:Nat):∀(A:Around) (u v:Value) (t:T),A.units+n<cLine→Rd H n (er u) t→Rd H n (er v) t→iI c A s u v:=by
 have leaf:∀(A:Around) (u v:Value),aF (er u)=true→aF (er v)=true→er u=er v→iI c A s u v:=fun A u v h1 h2 e=>by
  have:=kM (A:=A) (s:=s) h1 h2;rw[e,NF rfl]at this;exact iI.of_at this
 induction n with
 | zero=>intro A u v t _ h1 h2;exact leaf A u v h1.1 h2.1 (by have e:=h1.2.symm.trans h2.2;injection e)
 | succ n ih=>
  intro A u v t hu h1 h2;have hu0:A.units<cLine:=NV (NS _ _) hu;have ih:=fun u v t=>ih A.in1 u v t (by rw[qV,Qu];exact hu)
  induction t using T.casesOn with
  | leaf x=>exact leaf A u v h1.1 h2.1 (h1.2.symm.trans h2.2)
  | list ts=>
   obtain ⟨a,xs,ea,hx,f1⟩:=h1;obtain ⟨b,ys,eb,hy,f2⟩:=h2;refine az ea (az eb (iI.of_rc ?_));obtain ⟨i1,n1,g1,q1⟩:=R.list hx;obtain ⟨i2,n2,g2,q2⟩:=R.list hy;have z:=f5 ih q1 q2 f1 f2;exact jo g1 g2 z.1 hu0 z.2
  | tup ts=>
   obtain ⟨a,xs,ea,hx,f1⟩:=h1;obtain ⟨b,ys,eb,hy,f2⟩:=h2;refine az ea (az eb (iI.of_rc ?_));obtain ⟨i1,n1,g1,q1⟩:=R.tup hx;obtain ⟨i2,n2,g2,q2⟩:=R.tup hy;have z:=f5 ih q1 q2 f1 f2;exact ky g1 g2 z.1 hu0 z.2
  | dict ts=>
   obtain ⟨a,xs,ep,ea,hx,f1⟩:=h1;obtain ⟨b,ys,ep',eb,hy,f2⟩:=h2;refine az ea (az eb (iI.of_rc ?_));obtain ⟨ka,g1,q1⟩:=R.sdict hx;obtain ⟨kb,g2,q2⟩:=R.sdict hy;subst q1;subst q2;have nd:=bj g2;obtain ⟨_,_,_,_,_,_,_,_,nd'⟩:=id nd;refine uP (R.noSys hx) (R.noSys hy) (bj g1) nd hu0 ((Nq _).symm.trans (f1.len.trans (f2.len.symm.trans (Nq _)))) fun p hp=>?_;obtain ⟨y,t',r0,r1,r2⟩:=F2.hits nd' f1 f2 p hp;exact ⟨y,r0,ih _ _ t' r1 r2⟩
  | inst=>exact h1.elim
end
end
section
theorem iW(c:Cx)(s:Str)(t:Tok):(SP c.prog c.w).is s (.str s t)=true:=by simp [SP,Value.isStrOf]
theorem jw(c:Cx)(s:Int)(t:Tok):(PySem.intKind c.prog c.w).is s (.int s t)=true:=by simp [PySem.intKind,Value.isInt]
section
variable{c:Cx}{d:Nat}{x:Fx}{lo:Lo}{H:AH}{E:XP}
theorem ju{items:Array Value}{xs:List V}(e:items.toList.map er=xs):xs.isEmpty=(items.size==0):=by
 rw[← e];refine nS (o:=items.toList) (fun h=>?_) (fun a l h=>?_)
 ·
  have:items.size=0:=by rw[← Pe,h];rfl
  rw[this];rfl
 ·
  have:items.size=l.length+1:=by rw[← Pe,h];rfl
  rw[this];rfl
theorem Ok.room{A:Around}(ok:Ok d x A):A.units+50<cLine:=NV (O4 (NS _ _) (by decide)) ok.units
structure qQ(c:Cx)(A:Around)(s:Shared)(va vb:Value)(r:Bool):Prop where
 eq:∀E' (Q':Value→Shared→Prop),Q' (.bool r) s→wpAny c.M A (Q0 .Eq va vb) Q' E' s
 ne:∀E' (Q':Value→Shared→Prop),Q' (.bool (!r)) s→wpAny c.M A (Q0 .NotEq va vb) Q' E' s
theorem uG{A:Around}{s:Shared}{u v:Value}(hu:aF (er u)=true)(hv:aF (er v)=true):qQ c A s u v (Fi (er u) (er v)):=by
 induction ij hu with
 | none=>induction ij hv with
  | none=>exact ⟨fun E' Q' q=>EqNone.eq_none_none q,fun E' Q' q=>EqNone.ne_none_none q⟩
  | int j u=>exact ⟨fun E' Q' q=>EqNone.eq_none_int q,fun E' Q' q=>EqNone.ne_none_int q⟩
  | str j u=>exact ⟨fun E' Q' q=>EqNone.eq_none_str q,fun E' Q' q=>EqNone.ne_none_str q⟩
 | int i t=>induction ij hv with
  | none=>exact ⟨fun E' Q' q=>EqNone.eq_int_none q,fun E' Q' q=>EqNone.ne_int_none q⟩
  | int j u=>rw[show Fi (er (.int i t)) (er (.int j u))=(i==j) from (gG i j).symm];exact ⟨fun E' Q' q=>eq_int q,fun E' Q' q=>ne_int q⟩
  | str j u=>exact ⟨fun E' Q' q=>EqMixed.eq_int_str q,fun E' Q' q=>EqMixed.ne_int_str q⟩
 | str i t=>induction ij hv with
  | none=>exact ⟨fun E' Q' q=>EqNone.eq_str_none q,fun E' Q' q=>EqNone.ne_str_none q⟩
  | int j u=>exact ⟨fun E' Q' q=>EqMixed.eq_str_int q,fun E' Q' q=>EqMixed.ne_str_int q⟩
  | str j u=>rw[show Fi (er (.str i t)) (er (.str j u))=(i==j) from (gG i j).symm];exact ⟨fun E' Q' q=>eq_str q,fun E' Q' q=>ne_str q⟩
theorem sQ{a b:Addr}{t:T}(ht:t.isSeq=true)(h1:Rd H 8 (.ref a) t)(h2:Rd H 8 (.ref b) t){base:Heap}{fs:List Fm}{s:Shared}{A:Around}(hu:A.units+50<cLine)(R:aq c base fs H s):qQ c A s (.ref a) (.ref b) true:=by
 have hu':A.units<cLine:=NV (NS _ _) hu;have ih:∀u v t,Rd H 7 (er u) t→Rd H 7 (er v) t→iI c A.in1 s u v:=fun u v t=>zp R 7 A.in1 u v t (NV (Oz (by decide:1+7≤50) _) hu)
 induction t using T.casesOn with
 | list ts=>
  obtain ⟨a',xs,ea,hx,f1⟩:=h1;obtain ⟨b',ys,eb,hy,f2⟩:=h2;obtain rfl:=V.ref.inj ea;obtain rfl:=V.ref.inj eb;obtain ⟨i1,n1,g1,q1⟩:=R.list hx;obtain ⟨i2,n2,g2,q2⟩:=R.list hy;have z:=f5 ih q1 q2 f1 f2;exact ⟨jo g1 g2 z.1 hu' z.2,jm g1 g2 z.1 hu' z.2⟩
 | tup ts=>
  obtain ⟨a',xs,ea,hx,f1⟩:=h1;obtain ⟨b',ys,eb,hy,f2⟩:=h2;obtain rfl:=V.ref.inj ea;obtain rfl:=V.ref.inj eb;obtain ⟨i1,n1,g1,q1⟩:=R.tup hx;obtain ⟨i2,n2,g2,q2⟩:=R.tup hy;have z:=f5 ih q1 q2 f1 f2;exact ⟨ky g1 g2 z.1 hu' z.2,mM g1 g2 z.1 hu' z.2⟩
 | _=>exact (Nt ht).elim
theorem wS{a b:Addr}{xs ys:List V}(hx:H a=some (.list xs))(hy:H b=some (.list ys))(h:xs=[]∨ys=[]){base:Heap}{fs:List Fm}{s:Shared}{A:Around}(hu:A.units+50<cLine)(R:aq c base fs H s):qQ c A s (.ref a) (.ref b) (xs.isEmpty&&ys.isEmpty):=by
 refine (R.list hx).el fun i1 n1 g1 q1=>?_;refine (R.list hy).el fun i2 n2 g2 q2=>?_;have hu':=NV (NS _ 50) hu;have z1:=aQ q1;have z2:=aQ q2;rw[ju q1,ju q2];have h':xs.length=0∨ys.length=0:=h.imp (fun e=>Nw Tt e) fun e=>Nw Tt e;by_cases hsz:i1.size=i2.size
 ·have h0:i1.size=0:=h'.elim z1.trans fun e=>hsz.trans (z2.trans e);have he:∀p∈i1.toList.zip i2.toList,iI c A.in1 s p.1 p.2:=by
   rw[Sk (Array.length_toList.trans h0)];exact fun p hp=>(by cases hp)
  rw[← hsz,h0];exact ⟨jo g1 g2 hsz hu' he,jm g1 g2 hsz hu' he⟩
 ·have:(i1.size==0&&i2.size==0)=false:=Bool.and_eq_false_iff.mpr (h'.elim (fun h'=>.inr (beq_eq_false_iff_ne.mpr fun q=>hsz ((z1.trans h').trans q.symm))) fun h'=>.inl (beq_eq_false_iff_ne.mpr fun q=>hsz (q.trans (z2.trans h').symm)));rw[this];exact ⟨SeqAt.RcAt.lists_lengths (al g1) (al g2) (by simpa using hsz) hu' c.prog c.w,SeqAt.RcNeAt.lists_lengths (al g1) (al g2) (by simpa using hsz) hu' c.prog c.w⟩
inductive J0(c:Cx)(A:Around)(s:Shared)(va vb:Value)(k:Bool→Prop):Prop
 | mk(r:Bool)(q:k r)(h:qQ c A s va vb r)
theorem kO{a b:V}{va vb:Value}{k:Bool→Prop}(ha:er va=a)(hb:er vb=b)(h:yF a b H k){base:Heap}{s:Shared}{A:Around}(ok:Ok d x A)(R:aq c base (x.fs lo) H s):J0 c A s va vb k:=by
 have hu:=ok.room;unfold yF at h;refine aw (o:=aF a&&aF b) (fun hf=>?_) (fun hf=>?_)
 ·
  rw[hf]at h;subst ha hb;rw[NY]at hf;exact ⟨_,h,uG hf.1 hf.2⟩
 ·
  rw[hf]at h;clear hf
  induction h with
  | ts e q=>
   refine az ha ?_;refine bC (hb) fun u=>?_;refine (R.tup e).el fun i1 n1 g1 q1=>?_;exact ⟨_,q,SeqAt.RcAt.tuple_str _ _ (ba g1) (NV (NS _ 50) hu) c.prog c.w,SeqAt.RcNeAt.tuple_str _ _ (ba g1) (NV (NS _ 50) hu) c.prog c.w⟩
  | tree t ht r r' q=>
   refine az ha ?_;refine az hb ?_;exact ⟨_,q,sQ ht r r' hu R⟩
  | nil h h' e q=>
   refine az ha ?_;refine az hb ?_;exact ⟨_,q,wS h h' e hu R⟩
theorem jQ{K:Type}[DecidableEq K](kvs:List (K×Value))(k:K):(Rc kvs k).isSome=((kvs.map fun p=>(p.1,er p.2)).any fun p=>decide (p.1=k)):=by
 induction kvs with
 | nil=>rfl
 | cons p r ih=>
  unfold Rc at ih ⊢;rw[Qj];by_cases h:p.1=k
  ·simp [h]
  ·simp only [h,RK,NT,OA,QM];exact ih
structure JU(c:Cx)(A:Around)(s:Shared)(va vb:Value)(r:Bool):Prop where
 in_:∀E' (Q':Value→Shared→Prop),(∀t,Q' (.bool r) { s with toks:=t })→wpAny c.M A (Q0 .In va vb) Q' E' s
 ni:∀E' (Q':Value→Shared→Prop),(∀t,Q' (.bool (!r)) { s with toks:=t })→wpAny c.M A (Q0 .NotIn va vb) Q' E' s
inductive Nk(c:Cx)(A:Around)(s:Shared)(va vb:Value)(k:Bool→Prop):Prop
 | mk(r:Bool)(q:k r)(h:JU c A s va vb r)
theorem uq{items:Array Value}{ys:List V}{va:Value}(e:items.toList.map er=ys):ys.contains (er va)=items.any fun y=>decide (er y=er va):=by
 rw[← e];rw[← Sd]
 induction items.toList with
 | nil=>rfl
 | cons y r ih=>
  rw[NT,Ox,ih,gG];exact Nw (· || _) (decide_eq_decide.mpr ⟨Eq.symm,Eq.symm⟩)
theorem gW{items:Array Value}{ys:List V}{va:Value}(e:items.toList.map er=ys)(h1:aF (er va)=true)(h2:ys.all aF=true){A:Around}{s:Shared} : ∀y∈items,SJ A s y va (decide (er y=er va)):=fun y hy=>
 kM (List.all_eq_true.mp h2 _ (e▸List.mem_map.mpr ⟨y,Array.mem_toList_iff.mpr hy,rfl⟩)) h1
theorem kL{a b:V}{va vb:Value}{k:Bool→Prop}(ha:er va=a)(hb:er vb=b)(h:EW a b H k){base:Heap}{s:Shared}{A:Around}(ok:Ok d x A)(R:aq c base (x.fs lo) H s):Nk c A s va vb k:=by
 induction h with
 | in_lst e h1 h2 l q=>
  subst ha;refine az hb ?_;obtain ⟨items,n,g,z⟩:=R.list e;rw[uq z]at q;exact ⟨_,q,fun E' Q' w=>SeqAt.in_listAt _ (al g) (gW z h1 h2) (w s.toks),fun E' Q' w=>SeqAt.notIn_listAt _ (al g) (gW z h1 h2) (w s.toks)⟩
 | in_tup e h1 h2 l q=>
  subst ha;refine az hb ?_;obtain ⟨items,n,g,z⟩:=R.tup e;rw[uq z]at q;exact ⟨_,q,fun E' Q' w=>SeqAt.in_tupleAt _ (ba g) (gW z h1 h2) (w s.toks),fun E' Q' w=>SeqAt.notIn_tupleAt _ (ba g) (gW z h1 h2) (w s.toks)⟩
 | in_sd e q=>
  refine bC (ha) fun t=>?_;refine az hb ?_;refine (R.sdict e).el fun kvs g z=>?_;rw[← z,← jQ]at q;exact ⟨_,q,fun E' Q' w=>wpAny_in_of (iW c _ _) (R.noSys e) (bj g).mapOf (w _),fun E' Q' w=>wpAny_notIn_of (iW c _ _) (R.noSys e) (bj g).mapOf (w _)⟩
 | in_id e q=>
  refine bb (ha) fun t=>?_;refine az hb ?_;refine (R.idict e).el fun kvs g z=>?_;rw[← z,← jQ]at q;exact ⟨_,q,fun E' Q' w=>wpAny_in_of (jw c _ _) (R.noSys e) g.mapOf (w _),fun E' Q' w=>wpAny_notIn_of (jw c _ _) (R.noSys e) g.mapOf (w _)⟩
theorem og(v:Value):(v==Value.none)=decide (er v=.none):=by
 induction v<;>rfl
theorem jj{v:V}{p:Prop}(h:eF v p):v=.none∧p:=by
 induction v with
 | none=>exact ⟨rfl,h⟩
 | _=>exact h.elim
theorem jM{op:CmpOp}{a b:V}{va vb:Value}{k:Bool→Prop}{Q:Q1}(ha:er va=a)(hb:er vb=b)(h:c8 op a b H k)(hQ:∀r,k r→Q (.bool r) H):W c d x (Q0 op va vb) lo H (QV lo Q) E:=by
 intro base s A ok R;have fin:∀{r},k r→pP c base x (QV lo Q) (.bool r) s:=fun q=>⟨lo,H,R,rfl,hQ _ q⟩;have sO:∀{p:Int→Int→Prop},dM a b p→(∀i j t u,p i j→wpAny c.M A (Q0 op (.int i t) (.int j u)) (pP c base x (QV lo Q)) (iu c base x E) s)→wpAny c.M A (Q0 op va vb) (pP c base x (QV lo Q)) (iu c base x E) s:=fun h z=>by
  refine (fg h).el fun i j ea eb h=>?_;refine bb ((ha.trans ea)) fun t=>?_;refine bb ((hb.trans eb)) fun u=>?_;exact z i j t u h
 induction op with
 | Is=>
  obtain ⟨rfl,h⟩:=jj h;refine lR hb ?_;exact is_none_gen (by rw[og,ha];exact fin h)
 | IsNot=>
  obtain ⟨rfl,h⟩:=jj h;refine lR hb ?_;exact isnot_none_gen (by rw[og,ha];exact fin h)
 | Lt=>exact sO h fun i j t u h=>lt_int (fin h)
 | LtE=>exact sO h fun i j t u h=>P.le_int (fin h)
 | Gt=>exact sO h fun i j t u h=>gt_int (fin h)
 | GtE=>exact sO h fun i j t u h=>P.ge_int (fin h)
 | Eq=>
  obtain ⟨r,hk,h⟩:=kO ha hb h ok R;exact h.eq _ _ (fin hk)
 | NotEq=>
  obtain ⟨r,hk,h⟩:=kO ha hb (k:=fun r=>k (!r)) h ok R;exact h.ne _ _ (fin hk)
 | In=>
  obtain ⟨r,hk,h⟩:=kL ha hb h ok R;exact h.in_ _ _ fun t=>⟨lo,H,R.toks t,rfl,hQ _ hk⟩
 | NotIn=>
  obtain ⟨r,hk,h⟩:=kL ha hb (k:=fun r=>k (!r)) h ok R;exact h.ni _ _ fun t=>⟨lo,H,R.toks t,rfl,hQ _ hk⟩
end
end
section
theorem cW{K:Type}[DecidableEq K](kvs:List (K×Value))(k:K):(Rc kvs k).map er=(kvs.map fun p=>(p.1,er p.2)).lookup k:=by
 induction kvs with
 | nil=>rfl
 | cons p r ih=>
  unfold Rc at ih ⊢;rw[Qj,NT,NK];by_cases h:p.1=k
  ·rw[h];simp
  ·have h' : ¬ k=p.1:=fun q=>h q.symm;simp only [h,RK];show Os er (Os (fun x=>x.snd) (List.find? (fun kv=>decide (kv.1=k)) r))=_;rw[ih];simp [(beq_eq_false_iff_ne.mpr h')]
theorem lB{α:Type}{o:Option α}{k:α→Prop}(h:au o k):∃a,o=some a∧k a:=by
 induction o with
 | none=>exact TJ h
 | some a=>exact ⟨a,rfl,h⟩
theorem dm{α:Type}{o:Option α}{k:α→Prop}{P:Prop}(h:au o k)(p:∀a,o=some a→k a→P):P:=(lB h).elim fun a z=>p a z.1 z.2
theorem gV{items:Array Value}{xs:List V}(e:items.toList.map er=xs){i:Nat}{v:V}(h:xs[i]? = some v):∃u,items[i]? = some u∧er u=v:=by
 rw[← e,Pd,Qa]at h;exact gP h
theorem Cv{n j:Int}{k:Nat}(e:(if n<0 then n+k else n)=j)(h0:0≤j)(h1:j<k):T9 n k=some j.toNat:=by
 subst e;exact if_pos ((congr (Nw and (NF h0)) (NF h1)).trans rfl)
theorem f6{n:Int}{k:Nat}(h0:0≤n)(h1:n<k):T9 n k=some n.toNat:=Cv (if_neg (Int.not_lt.mpr h0)) h0 h1
theorem sU(slice:Nu)(o i:Value):∃vs,subscripted slice false o i=operate vs (getItem o i):=by
 induction slice using PySem.Expr.casesOn with
 | Slice l u s p=>induction s using Option.casesOn<;>exact ⟨_,rfl⟩
 | _=>exact ⟨_,rfl⟩
section
variable{c:Cx}{d:Nat}{x:Fx}{lo:Lo}{H:AH}{E:XP}
inductive JV(c:Cx)(A:Around)(s:Shared)(o i:Value)(Q':Value→Shared→Prop)(E':Value→Shared→Prop):Prop
 | mk(T id:String)(hl:typeLookup (.type T) "__getitem__" = pure (some (.builtin id)))(hT:s.TypeIs o T)(h:wpAny c.M A (getItem o i) Q' E' s)
theorem fZ{s:Shared}{A:Around}{E':Value→Shared→Prop}{value slice:Nu}{pos:Pos}{o i:Value}{Q':Value→Shared→Prop}(h:JV c A s o i Q' E') :
  wpAny c.M A (do
   Sv pos
   let r ← subscripted slice (← S6 o) o i;R4 value o r
   pure r) Q' E' s:=by
 obtain ⟨T,id,hl,hT,h⟩:=h;refine Nv (OH (Nv ?_));obtain ⟨vs,e⟩:=sU slice o i;rw[getitemInPython_of_ne hT.not_modules];refine Nv (wpAny_specialOf hT hl (NP (Nv ?_)));rw[e];exact wpAny_operating (OJ h (fun r s₃ h₃=>Nv (RU (NP h₃))) fun ζ ζ x=>x)
theorem nt{value slice:Nu}{pos:Pos}{a i:V}{va vi:Value}{Q:V→Prop}{Q2:Q1}(ha:er va=a)(hi:er vi=i)(h:nw a i H Q)(hQ:∀v,Q v→Q2 v H) :
  W c d x (do
   Sv pos
   let r ← subscripted slice (← S6 va) va vi;R4 value va r
   pure r) lo H (QV lo Q2) E:=by
 intro base s A ok R;refine fZ ?_;have fin:∀{w:Value},Q (er w)→pP c base x (QV lo Q2) w s:=fun q=>⟨lo,H,R,rfl,hQ _ q⟩
 induction h with
 | @item_str str n h0 h1 l q=>
  refine bC (ha) fun t=>?_;refine bb (hi) fun u=>?_;refine .mk "str" _ F.slot_str_getitem.lookup (typeIs_str _ _ _) ?_;have hc:(T9 n str.length).bind (str.cps[·]?)=some ((Txt.charAt str n).getD 0):=by
   obtain ⟨ch,e⟩:=Option.isSome_iff_exists.mp (charAt_isSome (x:=str) (i:=n) (NC (QG (NB _)) h0) h1);rw[e];exact e
  exact P.getItem_str (by rw[OS];constructor<;>simp<;>first | exact NC (by decide) h0 | exact Pc h1 (OE (Int.ofNat_le.mpr l) (by decide))) hc ⟨lo,H,R.toks _,rfl,hQ _ q⟩
 | item_list e l h0 hv q=>
  refine az ha ?_;refine bb (hi) fun u=>?_;obtain ⟨items,n₀,g,z⟩:=R.list e;have hsz:=aQ z;obtain ⟨w,hw,rfl⟩:=gV z hv;have:=(Array.getElem?_eq_some_iff.mp hw).1;exact .mk "list" _ QC (al g).typeIs (wpAny_getItem_list (al g) h0 (Iz (hsz▸(Ri h0).mp this) l) hw (fin q))
 | item_listN e l h0 h1 hv q=>
  refine az ha ?_;refine bb (hi) fun u=>?_;obtain ⟨items,n₀,g,z⟩:=R.list e;have hsz:=aQ z;obtain ⟨w,hw,rfl⟩:=gV z hv;exact .mk "list" _ QC (al g).typeIs (wpAny_getItem_list_neg (al g) h0 (KF hsz h1) (MJ l h1) (by rw[hsz];exact hw) (fin q))
 | item_tup e l h0 hv q=>
  refine az ha ?_;refine bb (hi) fun u=>?_;obtain ⟨items,n₀,g,z⟩:=R.tup e;have hsz:=aQ z;obtain ⟨w,hw,rfl⟩:=gV z hv;have:=(Array.getElem?_eq_some_iff.mp hw).1;exact .mk "tuple" _ F.slot_tuple_getitem.lookup (ba g).typeIs (P.getItem_tuple g (NC (by decide) h0) (Iz (hsz▸(Ri h0).mp this) l) (f6 h0 ((Ri h0).mp this)) hw (fin q))
 | item_dict e hv q=>
  refine az ha ?_;refine bC (hi) fun u=>?_;obtain ⟨kvs,g,z⟩:=R.sdict e;rw[← z,← cW]at hv;obtain ⟨w,hw,rfl⟩:=gP hv;exact .mk "dict" _ F.slot_dict_getitem.lookup (bj g).typeIs (wpAny_getItem_of (iW c _ _) (bj g).mapOf hw ⟨lo,H,R.toks _,rfl,hQ _ q⟩)
 | item_idict e hv q=>
  refine az ha ?_;refine bb (hi) fun u=>?_;obtain ⟨kvs,g,z⟩:=R.idict e;rw[← z,← cW]at hv;obtain ⟨w,hw,rfl⟩:=gP hv;exact .mk "dict" _ F.slot_dict_getitem.lookup g.typeIs (wpAny_getItem_of (jw c _ _) g.mapOf hw ⟨lo,H,R.toks _,rfl,hQ _ q⟩)
theorem i7(items:Array Value)(n:Int)(hn:0≤n):(T8 items none (some n) none).toList=items.toList.take n.toNat:=by
 obtain ⟨k,rfl⟩:=QT hn;have e:T8 items none (some (k:Int)) none=T8 items none (some ((min k items.size:Nat):Int)) none:=by
  have h1:∀j:Nat,¬ (j:Int)<0:=fun j=>Int.not_lt.mpr (NB _);have h3:min (k:Int) (items.size:Int)=min ((min k items.size:Nat):Int) (items.size:Int):=by
   have:((min k items.size:Nat):Int)=min (k:Int) (items.size:Int):=Iw ..;rw[this,Int.min_assoc,Int.min_self]
  have:sliceBounds none (some (k:Int)) none items.size=sliceBounds none (some ((min k items.size:Nat):Int)) none items.size:=by
   simp only [sliceBounds,Option.getD_none,show (1:Int)>0 by decide,TC,if_neg (h1 _)];rw[h3]
  unfold T8;rw[this]
 rw[e,slicePick_upto _ _ (Nat.min_le_right _ _)];simp
inductive Gk(w:Value)(o:Option Int):Prop
 | mk(p:Option (Int×Tok))(e:w=partValue p)(h:IsPart w o)(e':o=p.map (·.1))
theorem je{v:V}{w:Value}{o:Option Int}(e:er w=v)(h:m4 v=some o):Gk w o:=by
 induction v with
 | none=>injection h with h;subst h;refine lR e ?_;exact ⟨none,rfl,.none,rfl⟩
 | int n=>injection h with h;subst h;refine bb (e) fun t=>?_;exact ⟨some (n,t),rfl,.int _ _,rfl⟩
 | _=>exact ac h
theorem lC{value:Nu}{slice:Nu}{pos:Pos}{a l u:V}{va vl vu:Value}{Q:Q1}(ha:er va=a)(hl:er vl=l)(hu:er vu=u)(h:lD c a l u H Q) :
  ∀base s A,Ok d x A→aq c base (x.fs lo) H s→wpAny c.M A (do
   Sv pos
   let r ← subscripted slice (← S6 va) va (.ref s.heap.objs.size);R4 value va r
   pure r) (pP c base x (QV lo Q)) (iu c base x E) { s with heap:=s.heap.push { cls:=.type "slice",data:=.fields #[vl,vu,.none] } }:=by
 intro base s A ok R;have R':aq c base (x.fs lo) H { s with heap:=s.heap.push { cls:=.type "slice",data:=.fields #[vl,vu,.none] } }:=R.mono fun b o e=>NR _ e
 induction h with
 | @slc_str str l u p p' h0 e e' q=>
  refine bC (ha) fun t=>?_;obtain ⟨pl,rfl,_,rfl⟩:=je hl e;obtain ⟨pu,rfl,_,rfl⟩:=je hu e';refine fZ (.mk "str" _ F.slot_str_getitem.lookup (typeIs_str _ _ _) (wpAny_getItem_str_slice (l:=pl) (u:=pu) (st:=none) ⟨_,N9 _ rfl,rfl,rfl⟩ rfl (post_val_or_str ⟨?_,fun t' k=>⟨lo,H,R'.toks _,rfl,q⟩⟩)));refine Np (Txt.slice_le str _ _) ?_;rw[Po];exact Np ‹_› (by decide)
 | @slc_arg n h0 hpos q=>
  refine az ha ?_;obtain rfl:=gD hl;obtain ⟨t,rfl⟩:=fM hu;have g:=R'.ground _ _ c.argAt;refine fZ (.mk "list" _ QC (al g).typeIs (Tu (al g) (Sp ..) .none (.int n t) .none (by simp) ?_ (by rw[Po];exact Np ‹_› (by decide))));exact ⟨lo,_,R'.new (o:=.list ((c.argXs.toList.map er).take n.toNat)) rfl fun ζ=>⟨_,_,N9 _ rfl,by rw[i7 _ _ hpos,RN]⟩,rfl,q _ R'.size⟩
 | @slc_ b xs n e h0 hpos q=>
  refine az ha ?_;obtain rfl:=gD hl;obtain ⟨t,rfl⟩:=fM hu;obtain ⟨items,n₀,g,z⟩:=R'.list e;have hsz:=aQ z;refine fZ (.mk "list" _ QC (al g).typeIs (Tu (al g) (Sp ..) .none (.int n t) .none (by simp) ?_ (by rw[Po];exact Ko hsz h0)));exact ⟨lo,_,R'.new (o:=.list (xs.take n.toNat)) rfl fun ζ=>⟨_,_,N9 _ rfl,by rw[i7 _ _ hpos,RN,z]⟩,rfl,q _ R'.size⟩
end
end
section
theorem bK.noRef{es:List Pr}{fs:List (Str×V)}(h:bK es fs):es.any (·.refKey)=false:=by
 induction h with
 | nil=>rfl
 | cons t hk _ _ ih=>rw[OA,ih,DictEntry.refKey,hk];rfl
theorem gS{x y:Str}{t:Tok} : (Value.str x t).isStr y=decide (x=y):=by
 unfold Value.isStr;by_cases h:x=y<;>simp [h]
theorem bK.find{es:List Pr}{fs:List (Str×V)}(h:bK es fs)(x:Str):∀v,fs.lookup x=some v→∃e,es.find? (·.key.isStr x)=some e∧rJ x e.val=v:=by
 induction h with
 | nil=>intro v q;exact ac q
 | @cons e y u es fs t hk hv _ ih=>
  intro v q;rw[Qj,hk,gS];by_cases hx:y=x
  ·subst hx;simp only [NK,Oh,Option.some.injEq]at q;exact ⟨e,by simp,by rw[hv,q]⟩
  ·have:(x==y)=false:=beq_eq_false_iff_ne.mpr fun q=>hx q.symm;rw[NK,this]at q;simp only [hx,RK];exact ih v q
theorem bK.miss{es:List Pr}{fs:List (Str×V)}(h:bK es fs)(x:Str):fs.lookup x=none→es.find? (·.key.isStr x)=none:=by
 induction h with
 | nil=>intro _;rfl
 | @cons e y u es fs t hk hv _ ih=>
  intro q;rw[Qj,hk,gS];by_cases hx:y=x
  ·subst hx;simp at q
  ·have:(x==y)=false:=beq_eq_false_iff_ne.mpr fun q=>hx q.symm;rw[NK,this]at q;simp only [hx,RK];exact ih q
theorem bK.len{es:List Pr}{fs:List (Str×V)}(h:bK es fs):es.length=fs.length:=by
 induction h with
 | nil=>rfl
 | cons _ _ _ _ ih=>simp [ih]
theorem bK.lookIn{es:List Pr}{fs:List (Str×V)}{n:Nat}(h:bK es fs)(x:Str):W.lookIn x (dictOf es n)=some ((es.find? (·.key.isStr x)).map (·.val)):=by
 unfold W.lookIn;dsimp only;cases q:es.find? (·.key.isStr x) with
 | some e=>rfl
 | none=>simp [h.noRef]
theorem ug(fs:List (Str×V))(x:Str)(v:V):(fs.map (·.1)).Nodup→((dG fs x v).map (·.1)).Nodup:=by
 intro h;unfold dG;split
 ·have:(fs.map fun p=>if p.1=x then (p.1,v) else p).map (·.1)=fs.map (·.1):=by
   rw[Oc];refine Oj fun p ζ=>?_;simp only [T6];split<;>rfl
  rw[this];exact h
 ·rename_i hn;rw[N8,List.nodup_append];refine ⟨h,by simp,fun a ha b hb e=>hn ?_⟩;subst e;obtain ⟨p,hp,q⟩:=List.mem_map.mp ha;simp at hb;exact List.any_eq_true.mpr ⟨p,hp,by simp [q,hb]⟩
theorem bK.put{es:List Pr}{fs:List (Str×V)}(h:bK es fs)(x:Str)(k:Int)(tk:Tok)(v:Value)(nd:(fs.map (·.1)).Nodup) :
  ∃es' b,nsPutIn x.cps.size x.cps.toList (fun | some e=>{ e with val:=v } | none=>⟨k,.str x tk,v⟩) es=(es',b)∧bK es' (dG fs x (rJ x v)):=by
 induction h with
 | nil=>exact ⟨_,_,rfl,.cons tk rfl rfl .nil⟩
 | @cons e y u es fs t hk hv hr ih=>
  have nd:=(Op).mp nd;refine Nz (ih nd.2) fun es' zz=>Nz (zz) fun b zz=>NO (fun e1 e2=>?_) (zz);unfold nsPutIn;rw[Value.isStrByCps_eq,hk,gS];by_cases hx:y=x
  ·rw[← hx];rw[if_pos (NF rfl)];refine ⟨_,_,rfl,?_⟩;have hf:fs.map (fun p=>if p.1=y then (p.1,rJ y v) else p)=fs:=by
    refine (Oj (g:=id) fun p hp=>?_).trans ?_
    ·rw[if_neg fun q=>nd.1 (List.mem_map.mpr ⟨p,hp,q⟩)];rfl
    ·simp
   have:dG ((y,u)::fs) y (rJ y v)=(y,rJ y v)::fs:=by
    unfold dG;rw[if_pos (by simp)];simp only [NT,TC,hf]
   rw[this];exact .cons t hk rfl hr
  ·rw[if_neg (by simp [hx]),e1];refine ⟨_,_,rfl,?_⟩;have:dG ((y,u)::fs) x (rJ x v)=(y,u)::dG fs x (rJ x v):=by
    unfold dG;simp only [OA,hx,RK,QM,NT,TE];split<;>rfl
   rw[this];exact .cons t hk hv e2
theorem bK.putName{es:List Pr}{fs:List (Str×V)}(h:bK es fs)(x:Str)(k:Int)(tk:Tok)(v:Value)(n:Nat)(nd:(fs.map (·.1)).Nodup) :
  ∃es' n',P6 x k (.str x tk) v (dictOf es n)=dictOf es' n'∧bK es' (dG fs x (rJ x v))∧es'.length≤es.length+1:=by
 obtain ⟨es',b,e1,e2⟩:=h.put x k tk v nd;have hl:es'.length≤es.length+1:=by
  rw[e2.len,h.len];unfold dG;split<;>simp
 have key:P6 x k (.str x tk) v (dictOf es n)=dictOf es' (if b then n+1 else n):=by
  unfold P6;dsimp only;split
  ·rename_i q;have e:=q.symm.trans e1;injection e with e3 e4;subst e3 e4;rfl
  ·rename_i q;have e:=q.symm.trans e1;injection e with e3 e4;subst e3 e4;rfl
 exact ⟨es',_,key,e2,hl⟩
section
variable{c:Cx}{d:Nat}{x:Fx}{lo:Lo}{H:AH}{E:XP}
theorem aq.frag{base:Heap}{s:Shared}{fs:List Fm}(R:aq c base fs H s):c.K.In s.heap:=fun a o e=>R.ground a o (c.X a o e)
theorem ii{v:Value}(h:(er v).isBi=false):handedIn v=true:=by
 induction v<;>first | rfl | exact NG h
structure JW(c:Cx)(C:Addr)(x:Str):Prop where
 get:findIn c.K (.ref C) "__getattribute__" = some (some (.builtin "object.__getattribute__"))
 dict:QZ c.K C=true
 find:∃a,findIn c.K (.ref C) x=some a∧noGet c.K a=true
 set:findIn c.K (.ref C) "__setattr__" = some (some (.builtin "object.__setattr__"))
 over:plainOver c.K C=true
 taker:takerIn c.K C x=some none
theorem aa{a b:Bool}(h:(a&&b)=true):a=true∧b=true:=(NY a b).mp h
theorem uE{C:Addr}{x:Str}(h:c.fld C x=true):JW c C x:=by
 have h5:=aa h;have h4:=aa h5.1;have h3:=aa h4.1;have h2:=aa h3.1;have h1:=aa h2.1;refine ⟨beq_iff_eq.mp (aa h1.1).1,h1.2,?_,beq_iff_eq.mp h3.2,h4.2,beq_iff_eq.mp h5.2⟩;have q:=h2.2;refine ay (o:=findIn c.K (.ref C) x) (fun e=>?_) (fun a e=>?_)
 ·rw[e]at q;exact NG q
 ·rw[e]at q;exact ⟨a,rfl,q⟩
theorem pq{o:V}{name:Str}{ov:Value}{Q:V→Prop}{Q2:Q1}{b:Bool}(ho:er ov=o)(h:getA c o name H Q)(hQ:∀v,Q v→Q2 v H):W c d x (getAttr ov name b) lo H (QV lo Q2) E:=by
 intro base s A ok R
 induction h with
 | getA_of e hf hg hv hb h=>
  refine az ho ?_;obtain ⟨_,_,D,R'⟩:=id R;refine ((R'.objs _ _ e).1).el fun h1 es n h2 h3 h4=>?_;obtain ⟨en,q1,q2⟩:=h3.find name _ hv;unfold rJ at q2;replace q2:=(hg)▸q2;subst q2;have f:=uE hf;refine Nz (f.find) fun attr zz=>NO (fun fa f3=>?_) (zz);exact W.get_value R.frag ⟨h1,rfl,rfl,h2⟩ f.get (W.findObj_own f.dict fa f3 (by rw[h3.lookIn,q1];rfl)) (ii hb) ⟨lo,H,R.toks _,rfl,hQ _ h⟩
theorem aq.setFields{base:Heap}{s:Shared}{fs:List Fm}{a C:Addr}{fl fl':List (Str×V)}{h':Heap}{t:Nat}{D:Addr→Addr}(g:s.gens=#[])(o:s.os=c.os)(R:aE c base fs H s.heap D)(e:H a=some (.inst C fl))(hs:OT (D a) s.heap h')
  (ho:∃es n,h'.get? (D a)=some (dictOf es n)∧bK es fl'∧(fl'.map (·.1)).Nodup):aq c base fs (upd H a (.inst C fl')) { s with heap:=h',toks:=t }:=
 ⟨g,o,D,R.setFields e hs ho⟩
theorem A3{α:Type}{o:Option α}{p:α→Bool}(h:o.any p=true):∃a,o=some a∧p a=true:=by
 induction o with
 | none=>exact (Nt h).elim
 | some a=>exact ⟨a,rfl,h⟩
theorem oZ{o v:V}{name:Str}{ov vv:Value}{Q:AH→Prop}(ho:er ov=o)(hv:er vv=v)(h:setA c o name v H Q):W c d x (setAttr ov name vv) lo H (fun ζ l h=>l=lo∧Q h) E:=by
 intro base s A ok R
 induction h with
 | @setA_of a C fs e hf hlen h=>
  refine az ho ?_;obtain ⟨g,o,D,R'⟩:=id R;refine ((R'.objs a _ e).1).el fun h1 es n h2 h3 h4=>?_;have f:=uE hf;obtain ⟨es',n',p1,p2,p3⟩:=h3.putName name (PI c.w.params name) (s.toks+1) vv n h4;have hs:OT (D a) s.heap (s.heap.update (D a) (P6 name (PI c.w.params name) (.str name (s.toks+1)) vv)):=OQ _ _ _;have hd2:(s.heap.update (D a) (P6 name (PI c.w.params name) (.str name (s.toks+1)) vv)).get? (D a)=some (dictOf es' n'):=by
   rw[← p1];exact OL _ h2 (Nw _ (p1))
  have fin:∀t,pP c base x (fun ζ l h=>l=lo∧Q h) () { s with heap:=s.heap.update (D a) (P6 name (PI c.w.params name) (.str name (s.toks+1)) vv),toks:=t }:=fun t=>
   ⟨lo,_,aq.setFields (s:=s) g o R' e hs ⟨es',n',hd2,p2,ug _ _ _ h4⟩,rfl,by subst hv;exact h⟩
  have big:es'.toArray.size≤QH+1:=by
   rw[T2,Po];exact Np p3 (QX (Np (NL h3.len) (Np hlen (by decide))))
  have cc:(!es.toArray.any (·.key.isStr name)&&es.toArray.any (·.refKey))=false:=by
   rw[← Sd,← Sd,h3.noRef,SL]
  clear p1 p2 p3 h h4 hs;refine W.set_plain (od:=some (dictOf es n)) R.frag ⟨h1,rfl,rfl,h2⟩ f.set (W.osa_open (s:={ s with toks:=s.toks+1 }) (od:=some (dictOf es n)) R.frag ⟨h1,rfl,rfl,h2⟩ f.over f.taker fun b=>?_);obtain ⟨cd,hc,hd'⟩:=A3 f.dict;refine Nv (NP (Nv (Nv (R2 h1 (Nv (Looks.here (s:={ s with toks:=s.toks+1 }) (looks_clsIn R.frag hc) ?_))))));rw[hd'];refine NP (a:=some (D a)) (Nv (NP (Nv ?_)));unfold nsSet;refine Nv (Nv (wpAny_askSetting (NP (Nv (QI (Nv (R2 h2 ?_)))))));dsimp only;rw[aRefKeyMayBeTheName_at,cc];exact wpAny_updatePart h2 (Nv (wpAny_lookBehind hd2 (pastItsLine_dict big) (NP (fin _))))
end
end
section
open AutoSeq1 (wpAny_loadPart')
theorem ly{prog:R6}{w:World}(l:Addr)(items:Array Value)(n:Nat)(x:Value)(e:Value→Bool)(j:Nat)(hj:j<items.size)(_hsmall:items.size≤100000)
  (hit:e items[j]=true) (hno:∀m (hm:m<items.size),m<j→e items[m]=false) :
  TD prog w (Builtin.«tuple.index» ⟨[.ref l,x],[]⟩)
   (fun A R s=>s.heap.get? l=some { cls:=.type "tuple",data:=.seq items n }∧(∀y,y∈items→SJ A.in1 s y x (e y))∧∀t k,R (.ok (.ret (.int j t))) { s with toks:=k }):=by
 refine MeetsIn.of_wp fun A R s h=>?_;obtain ⟨hp,g,d,tk,os⟩:=s;have hl:=h.1;have he:=h.2.1;replace h:=h.2.2;unfold Builtin.«tuple.index»;wp_walk using N7 hl;show wpAny _ _ (forIn [:min items.size items.size] ((none,()):Option PySem.Fin×Unit) _) _ _ _;rw[Qm];refine Ru _ (fun rest b s=>∃i,i≤j∧rest=QK i (items.size-i)∧b.1=none∧s=⟨hp,g,d,tk,os⟩) _ ?_ ?_ _ _ ?_
 ·rintro k rest b s ⟨i,hi,hr,hb,rfl⟩;rw[← TZ (Ug (NV hi hj)),Uh,List.cons.injEq]at hr;obtain ⟨rfl,rfl⟩:=hr;have hlt:k<items.size:=NV ‹_› ‹_›;rw[Oq hlt];refine Nv (he _ (TV hlt) _ _ _ _ ?_);by_cases q:k=j
  ·subst q;rw[hit,if_pos rfl];wp_walk;exact ⟨_,rfl,h _ _⟩
  ·have hkj:k<j:=T0 ‹_› q;rw[hno k hlt hkj,if_neg (by simp)];refine NP ⟨k+1,‹_›,?_,rfl,rfl⟩;rfl
 ·rintro b s ⟨i,hi,hr,_⟩;rw[show items.size-i=(items.size-i-1)+1 from (TZ (Ug (NV hi hj))).symm,Uh]at hr;injection hr
 ·exact ⟨0,Ol _,by simp,rfl,rfl⟩
inductive M1(vs:List Value)(v:V):Prop
 | mk(u:Value)(e:vs=[u])(h:er u=v)
inductive M2(vs:List Value)(v v':V):Prop
 | mk(u u':Value)(e:vs=[u,u'])(h:er u=v)(h':er u'=v')
inductive M3(vs:List Value)(v v' v'':V):Prop
 | mk(u u' u'':Value)(e:vs=[u,u',u''])(h:er u=v)(h':er u'=v')(h'':er u''=v'')
theorem map_nil{vs:List Value}(h:vs.map er=[]):vs=[]:=List.map_eq_nil_iff.mp h
theorem gu{vs:List Value}{v:V}(h:vs.map er=[v]):M1 vs v:=by
 induction vs with
 | nil=>injection h
 | cons u r=>exact ⟨u,Nw (u :: ·) (map_nil (PX h)),PY h⟩
theorem iO{vs:List Value}{v v':V}(h:vs.map er=[v,v']):M2 vs v v':=by
 induction vs with
 | nil=>injection h
 | cons u r=>
  obtain ⟨u',e,h'⟩:=gu (PX h);exact ⟨u,u',Nw (u :: ·) e,PY h,h'⟩
theorem kF{vs:List Value}{v v' v'':V}(h:vs.map er=[v,v',v'']):M3 vs v v' v'':=by
 induction vs with
 | nil=>injection h
 | cons u r=>
  obtain ⟨u',u'',e,h',h''⟩:=iO (PX h);exact ⟨u,u',u'',Nw (u :: ·) e,PY h,h',h''⟩
theorem M6{vs:List Value}{a:Addr}(h:vs.map er=[.ref a]):vs=[.ref a]:=by
 obtain ⟨u,rfl,e⟩:=gu h;rw[dC e]
theorem M7{vs:List Value}{i:Int}(h:vs.map er=[.int i]):∃t,vs=[.int i t]:=by
 obtain ⟨u,rfl,e⟩:=gu h;refine bb (e) fun t=>?_;exact ⟨t,rfl⟩
theorem M5{vs:List Value}{i:Str}(h:vs.map er=[.str i]):∃t,vs=[.str i t]:=by
 obtain ⟨u,rfl,e⟩:=gu h;refine bC (e) fun t=>?_;exact ⟨t,rfl⟩
inductive A2(vs:List Value)(a:Addr)(v:V):Prop
 | mk(u:Value)(e:vs=[.ref a,u])(h:er u=v)
theorem K3{vs:List Value}{a:Addr}{v:V}(h:vs.map er=[.ref a,v]):A2 vs a v:=by
 obtain ⟨u,u',rfl,e,e'⟩:=iO h;exact ⟨u',by rw[dC e],e'⟩
theorem JR{vs:List Value}{a b:Addr}(h:vs.map er=[.ref a,.ref b]):vs=[.ref a,.ref b]:=by
 obtain ⟨u,rfl,e⟩:=K3 h;rw[dC e]
theorem JS{vs:List Value}{i j:Int}(h:vs.map er=[.int i,.int j]):∃t u,vs=[.int i t,.int j u]:=by
 obtain ⟨u,u',rfl,e,e'⟩:=iO h;refine bb (e) fun t=>?_;obtain ⟨t',rfl⟩:=fM e';exact ⟨t,t',rfl⟩
@[elab_as_elim] theorem eW{vs:List Value}{a:Addr}{P:List Value→Prop}(h:vs.map er=[.ref a])(k:P [.ref a]):P vs:=M6 h▸k
@[elab_as_elim] theorem mE{vs:List Value}{i:Int}{P:List Value→Prop}(h:vs.map er=[.int i])(k:∀t,P [.int i t]):P vs:=(M7 h).elim fun t e=>e▸k t
@[elab_as_elim] theorem A6{vs:List Value}{i:Str}{P:List Value→Prop}(h:vs.map er=[.str i])(k:∀t,P [.str i t]):P vs:=(M5 h).elim fun t e=>e▸k t
@[elab_as_elim] theorem qJ{vs:List Value}{a b:Addr}{P:List Value→Prop}(h:vs.map er=[.ref a,.ref b])(k:P [.ref a,.ref b]):P vs:=JR h▸k
@[elab_as_elim] theorem qK{vs:List Value}{i j:Int}{P:List Value→Prop}(h:vs.map er=[.int i,.int j])(k:∀t u,P [.int i t,.int j u]):P vs:=(JS h).elim fun t e=>e.elim fun u e=>e▸k t u
@[elab_as_elim] theorem hF{vs:List Value}{a:Addr}{v:V}{P:List Value→Prop}(h:vs.map er=[.ref a,v])(k:∀u,er u=v→P [.ref a,u]):P vs:=by obtain ⟨u,rfl,hu⟩:=K3 h;exact k u hu
@[elab_as_elim] theorem sN{vs:List Value}{v v':V}{P:List Value→Prop}(h:vs.map er=[v,v'])(k:∀u u',er u=v→er u'=v'→P [u,u']):P vs:=by obtain ⟨u,u',rfl,a,b⟩:=iO h;exact k u u' a b
@[elab_as_elim] theorem sR{vs:List Value}{v v' v'':V}{P:List Value→Prop}(h:vs.map er=[v,v',v''])(k:∀u u' u'',er u=v→er u'=v'→er u''=v''→P [u,u',u'']):P vs:=by obtain ⟨u,u',u'',rfl,a,b,c⟩:=kF h;exact k u u' u'' a b c
theorem rc{items:List Value}{ss:List Str} : ∀{xs:List V},items.map er=xs→fB xs=some ss→∃l:List (Str×Tok),items=strValues l∧l.map (fun x=>x.1)=ss:=by
 induction items generalizing ss with
 | nil=>rintro xs rfl h;injection h with h;subst h;exact ⟨[],rfl,rfl⟩
 | cons u r ih=>
  rintro xs rfl h
  induction u with
  | str s t=>
   obtain ⟨ss',h1,e⟩:=Option.map_eq_some_iff.mp (h:(fB (r.map er)).map (s :: ·)=some ss);obtain ⟨l,e1,e2⟩:=ih rfl h1;exact ⟨(s,t)::l,Nw _ e1,(Nw _ e2).trans e⟩
  | _=>exact ac h
theorem um{items:Array Value}{xs:List V}{v:V}{i:Nat}(q:items.toList.map er=xs)(h:(xs.findIdx? fun y=>decide (y=v))=some i) :
  ∃hi:i<items.size,(decide (er items[i]=v))=true∧∀m (hm:m<items.size),m<i→decide (er items[m]=v)=false:=by
 subst q;obtain ⟨h1,h2,h3⟩:=List.findIdx?_eq_some_iff_getElem.mp h;have hi:i<items.size:=by simpa using h1
 refine ⟨hi,by simpa using h2,fun m hm hlt=>?_⟩;have:=h3 m hlt;simpa using this
section
variable{c:Cx}{d:Nat}{x:Fx}{lo:Lo}{H:AH}{E:XP}
theorem aq.setSeq{base:Heap}{fs:List Fm}{s:Shared}(R:aq c base fs H s){a:Addr}{xs ys:List V}{items:Array Value}{n:Nat}{t:Nat}{f:Array Value→Array Value}(e:H a=some (.list xs))(g:s.heap.get? a=some { cls:=.type "list",data:=.seq items n })
  (hf:(f items).toList.map er=ys):aq c base fs (upd H a (.list ys)) { s with heap:=s.heap.update a (Obj.mapSeq f),toks:=t }:=
 R.set (o':=.list ys) e rfl rfl (OQ _ _ _) fun ζ=>⟨_,_,OL _ g rfl,hf⟩
end
end
section
section
variable{c:Cx}{d:Nat}{x:Fx}{lo:Lo}{H:AH}{E:XP}
theorem fC{K:Type}[DecidableEq K](kvs:List (K×Value))(k:K)(v:Value):(stored kvs k v).map (fun p=>(p.1,er p.2))=iB (kvs.map fun p=>(p.1,er p.2)) k (er v):=by
 unfold stored iB;have:(kvs.map fun p=>(p.1,er p.2)).any (fun p=>decide (p.1=k))=kvs.any (fun kv=>decide (kv.1=k)):=(Sa);rw[this];split
 ·rw[Oc,Oc];refine Oj fun p ζ=>?_;dsimp only [T6];split<;>rfl
 ·simp
theorem oY{o i v:V}{ov iv vv:Value}{Q:AH→Prop}(ho:er ov=o)(hi:er iv=i)(hv:er vv=v)(h:wB o i v H Q):W c d x (setItem ov iv vv) lo H (fun ζ l h=>l=lo∧Q h) E:=by
 intro base s A ok R
 induction h with
 | @itemL_ a xs n e h0 h1 l q=>
  refine az ho ?_;refine bb (hi) fun t=>?_;obtain ⟨items,m,g,z⟩:=R.list e;have hsz:=aQ z;exact W.ki_setAt (n:=m) (items:=items) g h0 (Iz h1 l) (MM hsz h1) ⟨lo,_,R.set (o':=.list _) e rfl rfl (OQ _ _ _) fun ζ=>⟨_,_,OL _ g rfl,by rw[Array.toList_setIfInBounds,List.map_set,z,hv]⟩,rfl,q⟩
 | @itemD_ a es ep k e l q=>
  refine az ho ?_;refine bC (hi) fun t=>?_;obtain ⟨kvs,g,z⟩:=R.sdict e;have hl:kvs.length=es.length:=by rw[← z,Nq]
  refine wpAny_setItem_pairs (iW c _ _) (bj g) (fun h' hd hs=>?_) (xW hl l);obtain ⟨ep',hd'⟩:=dN hd;exact ⟨lo,_,R.set (o':=.sdict (iB es k v) ep') e rfl rfl hs fun ζ=>⟨_,hd',by rw[fC,z,hv]⟩,rfl,q ep'⟩
 | @itemN_ a es k e l q=>
  refine az ho ?_;refine bb (hi) fun t=>?_;obtain ⟨kvs,g,z⟩:=R.idict e;have hl:kvs.length=es.length:=by rw[← z,Nq]
  exact wpAny_setItem_pairs (jw c _ _) g (fun h' hd hs=>⟨lo,_,R.set (o':=.idict (iB es k v)) e rfl rfl hs fun ζ=>⟨_,hd,by rw[fC,z,hv]⟩,rfl,q⟩) (xW hl l)
theorem aq.any{base:Heap}{s:Shared}{fs:List Fm}(R:aq c base fs H s){h':Heap}{t:Nat}(k:∀b o,s.heap.get? b=some o→h'.get? b=some o):aq c base fs H { s with heap:=h',toks:=t }:=R.mono k
inductive Gs(items:Array Value)(is:List Int):Prop
 | mk(xs:Array (Int×Tok))(e:items=intItems xs)(e':xs.toList.map (·.1)=is)
theorem xc:∀(l:List Value) (is:List Int),l.map er=is.map V.int→∃xs:List (Int×Tok),l=xs.map (fun p=>Value.int p.1 p.2)∧xs.map (·.1)=is:=by
 intro l
 induction l with
 | nil=>intro is h;induction is with | nil=>exact ⟨[],rfl,rfl⟩ | cons=>injection h
 | cons v l ih=>
  intro is h
  induction is using List.casesOn with
  | nil=>injection h
  | cons i is=>
   refine bb ((PY h)) fun t=>?_;obtain ⟨xs,rfl,rfl⟩:=ih is (PX h);exact ⟨(i,t)::xs,rfl,rfl⟩
theorem rD{items:Array Value}{is:List Int}(e:items.toList.map er=is.map .int):Gs items is:=by
 obtain ⟨xs,e1,e2⟩:=xc items.toList is e;refine ⟨xs.toArray,?_,e2⟩;apply Array.ext';simp [intItems,e1]
structure Gu(c:Cx)(s:Shared)(a D:Addr):Prop where
 at_:∃d es n,W.InstAt s.heap a (S1 D d) D (some (dictOf es n))
theorem aq.inst{base:Heap}{s:Shared}{fs:List Fm}(R:aq c base fs H s){a D:Addr}{fl}(e:H a=some (.inst D fl)):Gu c s a D:=by
 obtain ⟨g,o,D',R'⟩:=R;obtain ⟨g1,es,n,g2,g3,g4⟩:=(R'.objs a _ e).1;exact ⟨_,es,n,g1,rfl,rfl,g2⟩
structure J1(c:Cx)(D:Addr):Prop where
 get:Rf c.K D (No "__class__")=true
 dict:QZ c.K D=true
 find:findIn c.K (.ref D) (No "__class__")=some (some (.builtin "object.__class__"))
 spec:specialIn c.K (.builtin "object.__class__") (No "__get__")=some (some (.builtin "getset_descriptor.__get__"))
 takes:takesIn c.K (.builtin "object.__class__")=some true
 mro:mroIn c.K D (.type "object")=some true
theorem qG{D:Addr}(h:c.clsOk D=true):J1 c D:=by
 have h5:=aa h;have h4:=aa h5.1;have h3:=aa h4.1;have h2:=aa h3.1;have h1:=aa h2.1;exact ⟨h1.1,h1.2,beq_iff_eq.mp h2.2,beq_iff_eq.mp h3.2,beq_iff_eq.mp h4.2,beq_iff_eq.mp h5.2⟩
theorem zU{A:Around}{s:Shared}{E':Value→Shared→Prop}{Q':Value→Shared→Prop}{l:Addr}{items:Array Value}{is:List Int}(hA:A.handled=none)(g:s.heap.IsList l items)(e:items.toList.map er=is.map .int)(hne:is≠[])
  (q:∀M t h' tk,M∈is→(∀a∈is,a≤M)→(∀b o,s.heap.get? b=some o→h'.get? b=some o)→Q' (.int M t) { s with heap:=h',toks:=tk }):wpAny c.M A (call (.builtin "max") [.ref l]) Q' E' s:=by
 obtain ⟨xs,rfl,rfl⟩:=rD e;have hpos:0<xs.size:=Pz fun z=>hne (Nw _ (Sk (Array.length_toList.trans z)));refine max_intList hA g hpos fun v h' tk hv k=>?_;obtain ⟨b1,b2⟩:=argBest_gt (numAt xs) (xs.size-1);have hat:∀j (hj:j<xs.size),numAt xs j=(xs.toList.map (·.1))[j]'(by simpa using hj):=fun j hj=>by simp [numAt,hj]
 have hlt:argBest (fun i j=>decide (numAt xs i>numAt xs j)) (xs.size-1)<xs.size:=NV b1 (Nat.sub_lt hpos Nat.one_pos);revert b1 b2 hv hlt;generalize argBest (fun i j=>decide (numAt xs i>numAt xs j)) (xs.size-1)=m;intro hv b1 b2 hlt;have hval:∃t,v=.int (numAt xs m) t:=by
  unfold intItems at hv;rw[Array.getElem?_map,Oq hlt]at hv;refine ⟨(xs[m]).2,(Option.some.inj hv).symm.trans ?_⟩;rw[hat _ hlt];simp
 obtain ⟨t,rfl⟩:=hval;refine q _ t h' tk (by rw[hat _ hlt];exact OZ _) (fun a ha=>?_) k;obtain ⟨j,hj,rfl⟩:=List.mem_iff_getElem.mp ha;have hj':j<xs.size:=by simpa using hj
 rw[← hat j hj'];exact b2 j (Nat.le_sub_one_of_lt hj')
theorem rZ{id:String}{args:List V}{vs:List Value}{Q:Q1}(ha:vs.map er=args)(h:JM c id args H Q):W c d x (call (.builtin id) vs) lo H (QV lo Q) E:=by
 intro base s A ok R
 induction h with
 | len_l e l q=>
  refine eW ha ?_;obtain ⟨items,n,g,z⟩:=R.list e;have hsz:=aQ z;exact call_len_list (al g) (GF hsz l) ⟨lo,H,R.toks _,rfl,by rw[hsz];exact q⟩
 | @len_i a es e l q=>
  refine eW ha ?_;obtain ⟨kvs,g,z⟩:=R.idict e;have hl:kvs.length=es.length:=by rw[← z,Nq]
  exact call_len_dict (R.noSys e) g (GF hl l) ⟨lo,H,R.toks _,rfl,by rw[hl];exact q⟩
 | len_x l q=>
  refine A6 ha fun t=>?_;exact P.len_str (L5 rfl l) ⟨lo,H,R.toks _,rfl,q⟩
 | @isC a C D fs e h1 q=>
  refine qJ ha ?_;obtain ⟨d',es,n,I⟩:=(R.inst e).at_;by_cases z:D=C
  ·subst z;rw[NF rfl]at q;exact W.isi_call R.frag (fun M=>I.type) (Bool.or_eq_true_iff.mpr (.inl (Oh _))) (fun h=>PD h) ⟨lo,H,R,rfl,q⟩
  ·rw[Ny z]at q;have h1:=aa ((if_neg z).symm.trans h1);have f:=qG h1.2;exact W.kin_callC R.frag I h1.1 f.get f.dict f.find f.spec f.takes f.mro ⟨lo,H,R.toks _,rfl,q⟩
 | isS q=>
  refine sN ha fun u u' hu hu'=>?_;refine bC (hu) fun t=>?_;refine sL hu' ?_;exact IsiPair.str_str ⟨lo,H,R,rfl,q⟩
 | @isI a D fs e h1 q=>
  refine hF ha fun u hu=>?_;refine sL hu ?_;obtain ⟨d',es,n,I⟩:=(R.inst e).at_;have h1:=aa h1;have f:=qG h1.2;exact W.kin_callT R.frag I h1.1 PySem.F.isi_meta_str f.get f.dict f.find f.spec f.takes f.mro ⟨lo,H,R.toks _,rfl,q⟩
 | isT e q=>
  refine hF ha fun u hu=>?_;refine sL hu ?_;obtain ⟨items,n,g,z⟩:=R.tup e;exact IsiPair.tuple_str g rfl ⟨lo,H,R.toks _,rfl,q⟩
 | @max2 i j q=>
  refine qK ha fun t u=>?_;refine max_two_ints ok.handled fun h' tk k=>⟨lo,H,R.mono k,rfl,?_⟩;split
  ·rename_i hij;rw[Int.max_eq_right (OM hij)]at q;exact q
  ·rename_i hij;rw[Int.max_eq_left (Int.not_lt.mp hij)]at q;exact q
 | max1 e e2 hne l q=>
  refine eW ha ?_;obtain ⟨items,n,g,z⟩:=R.list e;exact zU ok.handled (al g) (z.trans e2) hne fun M t h' tk m1 m2 k=>⟨lo,H,R.mono k,rfl,q M m1 m2⟩
 | @abs_ i q=>
  refine mE ha fun t=>?_;refine call_abs_int fun u tk=>⟨lo,H,R.toks _,rfl,?_⟩;show Q (.int _) H;rw[show (if i<0 then -i else i)=(i.natAbs:Int) from JQ i];exact q
 | chr_ h1 h2 q=>
  refine mE ha fun t=>?_;exact chr_of_range h1 (NC (OM h2) (by decide)) ⟨lo,H,R.toks _,rfl,q⟩
 | append_ e l q=>
  refine hF ha fun u hu=>?_;obtain ⟨items,n,g,z⟩:=R.list e;have hsz:=aQ z;exact Qr F.slot_list_append (al g).typeIs F.entry_list_append (F.args_list_append_2 _ _) (list_append _ items n u (xW hsz l)) ⟨g,lo,_,R.setSeq e g (by rw[TU,N8,z,TM,hu]),rfl,q⟩
 | reverse_ e l q=>
  refine eW ha ?_;obtain ⟨items,n,g,z⟩:=R.list e;have hsz:=aQ z;exact Qr Uk (al g).typeIs F.entry_list_reverse (F.args_list_reverse_1 _) (AutoSeq1.list_reverse_list_0 _ items n (xW hsz l)) ⟨g,lo,_,R.setSeq e g (by rw[Array.toList_reverse,Si,z]),rfl,q⟩
 | pop_ e l hv q=>
  refine eW ha ?_;obtain ⟨items,n,g,z⟩:=R.list e;have hsz:=aQ z;rw[List.getLast?_eq_getElem?]at hv;obtain ⟨w,hw,rfl⟩:=gV z hv;exact Qr F.slot_list_pop (al g).typeIs F.entry_list_pop (F.args_list_pop_1 _) (MeetsSeq.list_pop_last _ items n w (by rw[hsz];exact hw) (xW hsz l)) ⟨g,lo,_,R.setSeq e g (by rw[Array.toList_eraseIdxIfInBounds,← z,← List.map_dropLast,← List.eraseIdx_length_sub_one,Pe]),rfl,q⟩
 | @extend_ a b xs ys e e2 hne l q=>
  refine qJ ha ?_;obtain ⟨items,n,g,z⟩:=R.list e;obtain ⟨items2,n2,g2,z2⟩:=R.list e2;have hsz:=aQ z;have hsz2:=aQ z2;exact Qr F.slot_list_extend (al g).typeIs F.entry_list_extend (F.args_list_extend_2 _ _) (AutoSeq1.list_extend_list_list_0 _ items n b items2 n2 (by simp [RZ,QH];exact fun ζ=>HA hsz hsz2 l) (xW hsz (Np (NS _ _) l)) (by rw[Po];exact PH (HA hsz hsz2 l))) ⟨g,g2,lo,_,R.setSeq e g (by rw[RG,N8,z,z2]),rfl,q⟩
 | @index_ a xs v i e h1 h2 l hi q=>
  refine hF ha fun u hu=>?_;subst hu;obtain ⟨items,n,g,z⟩:=R.list e;have hsz:=aQ z;obtain ⟨hlt,q1,q2⟩:=um z hi;exact Qr F.slot_list_index (al g).typeIs F.entry_list_index (F.args_list_index_2 _ _) (SeqAt.list_indexAt _ items n none #[] u (fun y=>decide (er y=er u)) i hlt (OD (Int.ofNat_lt.mpr hlt) (NC (Int.le_of_eq (Nw TX hsz)) (NC (Int.ofNat_le.mpr l) (by decide)))) q1 q2) ⟨g,gW z h1 h2,⟨lo,H,R.toks _,rfl,q⟩⟩
 | @indexT_ a xs v i e h1 h2 l hi q=>
  refine hF ha fun u hu=>?_;subst hu;obtain ⟨items,n,g,z⟩:=R.tup e;have hsz:=aQ z;obtain ⟨hlt,q1,q2⟩:=um z hi;exact QJ F.slot_tuple_index (ba g).typeIs F.entry_tuple_index (F.args_tuple_index_2 _ _) (ly _ items n u (fun y=>decide (er y=er u)) i hlt (Np (NL hsz) l) q1 q2) ⟨g,gW z h1 h2,fun t k=>⟨lo,H,R.toks _,rfl,q⟩⟩
 | @get_ a es ep k e q=>
  refine hF ha fun u hu=>?_;refine bC (hu) fun t=>?_;obtain ⟨kvs,g,z⟩:=R.sdict e;refine QJ F.slot_dict_get (bj g).typeIs F.entry_dict_get (F.args_dict_get_2 _ _) (meets_dict_get _ _ (iW c _ _) (R.noSys e)) ⟨_,(bj g).mapOf,⟨lo,H,R.toks _,rfl,?_⟩⟩;rw[← z,← cW]at q;revert q;cases Rc kvs _<;>exact (fun h=>h)
 | rjust_ h1 h2 h3 h4 q=>
  refine sR ha fun u u' u'' hu hu' hu''=>?_;refine bC (hu) fun t=>?_;obtain ⟨t',rfl⟩:=fM hu';obtain ⟨t'',rfl⟩:=jE hu'';exact rjust_fill (by simp [PadOk,fitsSsize,SD,QH];exact ⟨KP h2 h3,NC h3 (by decide)⟩) h1 fun t' k=>⟨lo,H,R.toks _,rfl,q⟩
 | join_ e2 hs h1 h2 q=>
  refine sN ha fun u u' hu hu'=>?_;refine bC (hu) fun t=>?_;refine az hu' ?_;obtain ⟨items2,n2,g2,z2⟩:=R.list e2;obtain ⟨l,hl,hl2⟩:=rc z2 hs;exact PySem.SC.join (l:=l) (by rw[← hl];exact al g2) hl2 h1 fun t' k=>⟨lo,H,R.toks _,rfl,q⟩
theorem dz(l r:Int):RY l r 1=((r-l).toNat:Int):=by
 unfold RY;rw[if_pos (by decide),Int.ediv_one];by_cases h:l<r
 ·exact (if_pos h).trans ((Int.sub_add_cancel _ _).trans (Pt (PJ (OM h))).symm)
 ·exact (if_neg h).trans (Nw TX (Int.toNat_eq_zero.mpr (Int.sub_nonpos_of_le (Int.not_lt.mp h))).symm)
theorem zt{i:Int}(a : -200000≤i)(b:i≤200000) : -2^63≤i∧i<2^63:=⟨NC (by decide) a,OE b (by decide)⟩
theorem KB{l h:Int}(h1 : -100000≤l)(h3:h≤100000):(h-l).toNat≤200000:=Int.toNat_le.mpr (SQ h3 h1)
theorem hZ{l h:Int}(h1 : -100000≤l)(h2:l≤100000)(h3:h≤100000)(h4 : -100000≤h):Sq l h 1=true:=by
 have fl:=zt (NC (by decide) h1) (NC h2 (by decide));have fh:=zt (NC (by decide) h4) (NC h3 (by decide));simp only [Sq,(dz l h),Builtin.Range.rangeFitsLong,show (1:Int)>0 by decide,TC,NY,PB,PM,beq_iff_eq];exact ⟨⟨⟨⟨fl,fh⟩,by decide⟩,zt (NC (by decide) (NB _)) (Int.ofNat_le.mpr (KB h1 h3))⟩,.inr (by rw[show h+(1-1)=h from Int.add_zero h];exact fh)⟩
theorem ma{lo hi:Int}{n:Nat}{acc:Array Value}(hn:n=(hi-lo).toNat)(h:ItemsOf (fun i v=>∃t,v=Value.int (lo + ↑i*1) t) acc n):acc.toList.map er=aW lo hi:=by
 unfold aW;rw[← hn];apply List.ext_getElem?;intro i;rw[Pd,Pd,Qa];rcases Nat.lt_or_ge i n with hi | hi
 ·have:i<acc.size:=by rw[h.1];exact hi
  rw[Oq this,List.getElem?_range hi];obtain ⟨t,e⟩:=h.2 i acc[i] (Oq this);rw[PS,PS,e];exact Nw (fun j=>some (V.int (lo+j))) (Int.mul_one _)
 ·rw[QU (by rw[h.1];exact hi),Pi (by simpa using hi)];rfl
theorem rY{id:String}{args:List V}{vs:List Value}{Q:Q1}(ha:vs.map er=args)(h:JL id args H Q):W c d x (call (.type id) vs) lo H (QV lo Q) E:=by
 intro base s A ok R;cases h with
 | list_ e l q=>
  refine eW ha ?_;obtain ⟨items,n,g,z⟩:=R.list e;have hsz:=aQ z;exact call_list_seq _ (.inl rfl) g rfl rfl (fun h' c' k hn=>⟨lo,_,R.newAt (o:=.list _) (NX (Oe _)) rfl k fun ζ=>⟨_,_,hn,z⟩,rfl,q _ R.size⟩) (xW hsz l)
 | @listR a l r e h1 h2 h3 h4 q=>
  refine eW ha ?_;obtain ⟨g,o,D',R'⟩:=id R;obtain ⟨t,u,v,hr⟩:=(R'.objs a _ e).1;exact call_list_range (n:=(r-l).toNat) ok.handled hr (hZ h1 h2 h3 h4) (dz l r) (GE (NC (SQ h3 h1) (by decide))) fun h' tk acc c' k hn hI=>
   ⟨lo,_,R.newAt (o:=.list (aW l r)) (NX (Oe _)) rfl k fun ζ=>⟨_,_,hn,ma rfl hI⟩,rfl,q _ R.size⟩
 | @dict_ a es ep e l q=>
  refine eW ha ?_;obtain ⟨kvs,g,z⟩:=R.sdict e;have hl:kvs.length=es.length:=by rw[← z,Nq]
  refine kt_call_dict (R.noSys e) (bj g) (xW hl l) fun h' hd hs=>?_;obtain ⟨ep',hd'⟩:=dN hd;exact ⟨lo,_,R.newAt (o:=.sdict es ep') (NX (Oe _)) rfl (fun b o e=>(hs.2 b (N1 (O5 e))).trans (NR _ e)) fun ζ=>⟨_,hd',z⟩,rfl,q ep' _ R.size⟩
 | rng1 h h' q=>
  refine mE ha fun t=>?_;exact call_range_1 ⟨lo,_,R.new (o:=.rng 0 _) rfl fun ζ=>⟨_,_,_,N9 _ rfl⟩,rfl,q _ R.size⟩
 | rng2 h1 h2 h3 h4 q=>
  refine qK ha fun t u=>?_;exact call_range_2 ⟨lo,_,R.new (o:=.rng _ _) rfl fun ζ=>⟨_,_,_,N9 _ rfl⟩,rfl,q _ R.size⟩
 | @str_ i h q=>
  refine mE ha fun t=>?_;refine P.str_of_int ?_ ⟨lo,H,R.toks _,rfl,q⟩;rcases T1 i.natAbs with z | z
  ·rw[z];decide
  ·have h1:i.natAbs.log2<70:=(Nat.log2_lt (N6 z)).mpr (N2 h (by decide));exact N2 ‹_› (by decide)
end
end
section
set_option genSizeOfSpec false
inductive Gn where
 | fn(i:Nat) | cls (i:Nat) | bi (s:String) | ty (s:String) | int (i:Int)
inductive I where
 | fin | bad | rtn | brk | cnt | rse
 | cst(v:V)(k:I)
 | loc(i:Nat)(k:I)
 | cel(i:Nat)(k:I)
 | glo(g:Gn)(k:I)
 | bin(o:Ph)(k:I)
 | cmp(o:CmpOp)(k:I)
 | aug(o:Ph)(k:I)
 | neg(k:I)
 | not(k:I)
 | att(n:Str)(k:I)
 | sub(k:I)
 | slc(k:I)
 | lst(n:Nat)(k:I)
 | tpl(n:Nat)(k:I)
 | dic(n:Nat)(k:I)
 | cal(n:Nat)(k:I)
 | mth(n:Str)(k:I)
 | ite(t e k:I)
 | and(b k:I)
 | or(b k:I)
 | lcm(m i:Nat)(b k:I)
 | dcm(m i:Nat)(b k:I)
 | lam(body:Nu)(sc:Scope)(p:Pos)(k:I)
 | put(i:Nat)(k:I)
 | ptc(i:Nat)(k:I)
 | sat(n:Str)(k:I)
 | sit(k:I)
 | unp(n:Nat)(k:I)
 | pop(k:I)
 | whl(b k:I)
 | for(i:Nat)(b k:I)
 | try(b:I)
 | fst(a b:Str)(k:I)
abbrev Ls:=List (Option V)
noncomputable def nI:Ls→Nat→Option V
 | [],_=>none
 | v::_,0=>v
 | _::r,n+1=>nI r n
noncomputable def gN:Ls→Nat→V→Ls
 | [],0,v=>[some v]
 | [],n+1,v=>none::gN [] n v
 | _::r,0,v=>some v::r
 | u::r,n+1,v=>u::gN r n v
noncomputable def cw:Nat→Nat→V→Ls
 | 0,_,_=>[]
 | m+1,0,v=>some v::cw m m v
 | m+1,i+1,v=>none::cw m i v
inductive Rs where
 | nx(st:List V) | brk | cnt | ret (v:V)
abbrev QR:=Rs→Ls→AH→Prop
noncomputable def fO:Bool→Prop→Prop→Prop
 | true,p,_=>p
 | false,_,q=>q
def bu(st:List V)(k:V→List V→Prop):Prop:=match st with
 | v::r=>k v r
 | _=>False
def hW(st:List V)(k:V→V→List V→Prop):Prop:=match st with
 | b::a::r=>k a b r
 | _=>False
noncomputable def cX:Nat→List V→List V→(List V→List V→Prop)→Prop
 | 0,st,vs,k=>k vs st
 | n+1,st,vs,k=>bu st fun v r=>cX n r (v::vs) k
def eh(v:V)(k:Bool→Prop):Prop:=match v with
 | .bool b=>k b
 | _=>False
def sO(d:Nat)(p:Prop):Prop:=match d with
 | _+2=>p
 | _=>False
def nc(v:V)(k:V→Prop):Prop:=match v with
 | .int i=>k (.int (-i))
 | _=>False
noncomputable def ev:List (Str×Addr)→Nat→Option Addr
 | [],_=>none
 | p::_,0=>some p.2
 | _::r,n+1=>ev r n
def yR(H:AH)(a:Addr)(k:Option V→Prop):Prop:=match H a with
 | some (.cell v)=>k v
 | _=>False
noncomputable def xn:List V→AH→Q1→Prop
 | [],H,Q=>uL H Q
 | [k,v],H,Q=>iA k fun s=>∀ep,bI (.sdict [(s,v)] ep) H Q
 | [k,v,k',v',k'',v''],H,Q=>dM k k' fun i j=>dM k k'' fun ζ l=>i≠j∧i≠l∧j≠l∧bI (.idict [(i,v),(j,v'),(l,v'')]) H Q
 | _,_,_=>False
noncomputable def z3(J K:Ls→AH→Prop)(Q:QR):QR
 | .nx _,L,H=>J L H
 | .cnt,L,H=>J L H
 | .brk,L,H=>K L H
 | .ret v,L,H=>Q (.ret v) L H
inductive Bu(L:Ls)(H:AH)(body:Ls→AH→QR→Prop)(K:Ls→AH→Prop)(Q:QR):Prop
 | mk(J:Nat→Ls→AH→Prop)(n:Nat)(h0:J n L H)(step:∀m L' H',J m L' H'→body L' H' (z3 (fun L H=>∃j,j<m∧J j L H) K Q))
inductive E8(it:V)(i:Nat)(L:Ls)(H:AH)(body:Ls→AH→QR→Prop)(K:Ls→AH→Prop)(Q:QR):Prop
 | mk(xs:List V)(h:bw it H xs)(J:Nat→Ls→AH→Prop)(h0:J 0 L H)
  (step:∀j v L' H',xs[j]? = some v→J j L' H'→bZ it H H'∧body (gN L' i v) H' (z3 (J (j+1)) K Q)) (fin:∀L' H',J xs.length L' H'→bZ it H H'∧K L' H')
noncomputable def Il(Q:QR):QR
 | .nx _,_,_=>False
 | r,L,H=>Q r L H
noncomputable def cQ(k:Option V→AH→Prop):QR
 | .nx [v],_,H=>k (some v) H
 | .nx [],_,H=>k none H
 | _,_,_=>False
noncomputable def dQ(k:Option (V×V)→AH→Prop):QR
 | .nx [v,kv],_,H=>k (some (kv,v)) H
 | .nx [],_,H=>k none H
 | _,_,_=>False
structure kw where
 code:Addr
 pool:Addr
 qual:Str
def z8(c:Cx)(cl:List (Str×Addr))(lm:Option kw)(body:Nu)(sc:Scope)(p:Pos)(H:AH)(Q:Q1):Prop:=
 au lm fun l=>CodeHd c.h₀ l.code l.pool∧∃ps,H l.pool=some (.tab ps)∧S5 ps.toList∧∀cl',(∀n,(n,NameKind.free)∈sc.names→cl'.lookup n=cl.lookup n)→
  (∃cd,PT p ps.toList=some (.ref cd)∧H cd=some (.code l.qual)∧bI (.lam l.qual body sc cl' cd) H Q)∨
  (PT p ps.toList=none∧∀cd,H cd=none→cd≠l.pool→bI (.lam l.qual body sc cl' cd) (upd (upd H l.pool (.tab (ps ++ #[rawInt p.line,rawInt p.col,.ref cd]))) cd (.code l.qual)) Q)
structure Fr where
 G:Gn→V
 cl:List (Str×Addr)
 lm:Option kw
noncomputable def ao(c:Cx)(F:Fr)(d:Nat):I→XP→List V→Ls→AH→QR→Prop
 | .fin,_,st,L,H,Q=>Q (.nx st) L H
 | .bad,_,_,_,_,_=>False
 | .rtn,_,st,L,H,Q=>bu st fun v ζ=>Q (.ret v) L H
 | .brk,_,_,L,H,Q=>Q .brk L H
 | .cnt,_,_,L,H,Q=>Q .cnt L H
 | .rse,E,st,_,H,_=>bu st fun v ζ=>iA v fun m=>sO d (E (.str m) H)
 | .cst v k,E,st,L,H,Q=>ao c F d k E (v::st) L H Q
 | .loc i k,E,st,L,H,Q=>au (nI L i) fun v=>ao c F d k E (v::st) L H Q
 | .cel i k,E,st,L,H,Q=>au (ev F.cl i) fun a=>yR H a fun o=>au o fun v=>ao c F d k E (v::st) L H Q
 | .glo i k,E,st,L,H,Q=>ao c F d k E (F.G i::st) L H Q
 | .bin o k,E,st,L,H,Q=>hW st fun a b st=>n6 o a b H fun v H=>ao c F d k E (v::st) L H Q
 | .cmp o k,E,st,L,H,Q=>hW st fun a b st=>c8 o a b H fun t=>ao c F d k E (.bool t::st) L H Q
 | .aug o k,E,st,L,H,Q=>hW st fun a b st=>mr o a b fun t=>ao c F d k E (.int t::st) L H Q
 | .neg k,E,st,L,H,Q=>bu st fun v st=>nc v fun v=>ao c F d k E (v::st) L H Q
 | .not k,E,st,L,H,Q=>bu st fun v st=>eh v fun b=>ao c F d k E (.bool (!b)::st) L H Q
 | .att n k,E,st,L,H,Q=>bu st fun v st=>getA c v n H fun v=>ao c F d k E (v::st) L H Q
 | .sub k,E,st,L,H,Q=>hW st fun a i st=>nw a i H fun v=>ao c F d k E (v::st) L H Q
 | .slc k,E,st,L,H,Q=>hW st fun l u st=>bu st fun a st=>lD c a l u H fun v H=>ao c F d k E (v::st) L H Q
 | .lst n k,E,st,L,H,Q=>cX n st [] fun vs st=>bI (.list vs) H fun v H=>ao c F d k E (v::st) L H Q
 | .tpl n k,E,st,L,H,Q=>cX n st [] fun vs st=>bI (.tup vs) H fun v H=>ao c F d k E (v::st) L H Q
 | .dic n k,E,st,L,H,Q=>cX n st [] fun vs st=>xn vs H fun v H=>ao c F d k E (v::st) L H Q
 | .cal n k,E,st,L,H,Q=>cX n st [] fun vs st=>bu st fun f st=>eg c d f vs H (fun v H=>ao c F d k E (v::st) L H Q) E
 | .mth n k,E,st,L,H,Q=>bu st fun o st=>np c o n H fun f=>ao c F d k E (o::f::st) L H Q
 | .ite t e k,E,st,L,H,Q=>bu st fun v st=>eh v fun b=>fO b (ao c F d t E st L H fun r L H=>match r with | .nx st=>ao c F d k E st L H Q | r=>Q r L H) (ao c F d e E st L H fun r L H=>match r with | .nx st=>ao c F d k E st L H Q | r=>Q r L H)
 | .and b k,E,st,L,H,Q=>bu st fun v st=>eh v fun t=>fO t (ao c F d b E st L H fun r L H=>match r with | .nx st=>ao c F d k E st L H Q | r=>Q r L H) (ao c F d k E (.bool false::st) L H Q)
 | .or b k,E,st,L,H,Q=>bu st fun v st=>eh v fun t=>fO t (ao c F d k E (.bool true::st) L H Q) (ao c F d b E st L H fun r L H=>match r with | .nx st=>ao c F d k E st L H Q | r=>Q r L H)
 | .lcm m i b k,E,st,L,H,Q=>bu st fun it st=>jK it H (fun x H₂ kk=>ao c ⟨F.G,F.cl,none⟩ d b pb [] (cw m i x) H₂ (cQ kk)) fun v H=>ao c F d k E (v::st) L H Q
 | .dcm m i b k,E,st,L,H,Q=>bu st fun it st=>jL it H (fun x H₂ kk=>ao c ⟨F.G,F.cl,none⟩ d b pb [] (cw m i x) H₂ (dQ kk)) fun v H=>ao c F d k E (v::st) L H Q
 | .lam b sc p k,E,st,L,H,Q=>z8 c F.cl F.lm b sc p H fun v H=>ao c F d k E (v::st) L H Q
 | .put i k,E,st,L,H,Q=>bu st fun v st=>ao c F d k E st (gN L i v) H Q
 | .ptc i k,E,st,L,H,Q=>bu st fun v st=>au (ev F.cl i) fun a=>yR H a fun ζ=>ao c F d k E st L (upd H a (.cell (some v))) Q
 | .sat n k,E,st,L,H,Q=>hW st fun v o st=>setA c o n v H fun H=>ao c F d k E st L H Q
 | .sit k,E,st,L,H,Q=>hW st fun o i st=>bu st fun v st=>wB o i v H fun H=>ao c F d k E st L H Q
 | .unp n k,E,st,L,H,Q=>bu st fun v st=>kz H v fun xs=>xs.length=n∧ao c F d k E (xs++st) L H Q
 | .pop k,E,st,L,H,Q=>bu st fun ζ st=>ao c F d k E st L H Q
 | .whl b k,E,st,L,H,Q=>Bu L H (fun L H q=>ao c F d b E [] L H q) (fun L H=>ao c F d k E st L H Q) Q
 | .for i b k,E,st,L,H,Q=>bu st fun it st=>E8 it i L H (fun L H q=>ao c F d b E [] L H q) (fun L H=>ao c F d k E st L H Q) Q
 | .fst a b k,E,st,L,H,Q=>bu st fun v st=>iA v fun m=>m.length≤1000∧ao c F d k E (.str (QE++a++m++b)::st) L H Q
 | .try b,_,st,L,H,Q=>∃E₁:XP,ao c F d b E₁ st L H (Il Q)∧∀m L' H',E₁ m H'→m.isBi=false∧Q (.ret m) L' H'
end
section
set_option genSizeOfSpec false
noncomputable section
noncomputable def jF(a b:Str):Bool:=Fast.sEq a b
noncomputable def ef:List Str→Str→Option Nat
 | [],_=>none
 | n::r,y=>bif jF n y then some 0 else (ef r y).map (· + 1)
noncomputable def sq{α:Type} : List (Str×α)→Str→Option α
 | [],_=>none
 | p::r,y=>bif jF p.1 y then some p.2 else sq r y
structure CE where
 ns:List (Str×Ov)
 cn:List Str
 gx:List (Str×Gn)
noncomputable def dL:Ov→Bool
 | .local=>true
 | _=>false
noncomputable def fp:Ov→Bool
 | .cell=>true
 | _=>false
noncomputable def c7:Ov→Bool
 | .free=>true
 | _=>false
noncomputable def ny:Ov→Bool
 | .globalImplicit=>true
 | _=>false
noncomputable def slots(ns:List (Str×Ov)):List Str:=(ns.filter fun p=>dL p.2).map (·.1)
noncomputable def bQ{α:Type}(o:Option α)(f:α→I):I:=match o with
 | some a=>f a
 | none=>.bad
noncomputable def D3(t:CE)(y:Str)(l c:Nat→I)(g:Gn→I):I:=bQ (sq t.ns y) fun kd=>
 bif dL kd then bQ (ef (slots t.ns) y) l else bif fp kd||c7 kd then bQ (ef t.cn y) c else bif ny kd then bQ (sq t.gx y) g else .bad
noncomputable def cN(t:CE)(y:Str)(k:I):I:=bif lO y then D3 t y (.loc · k) (.cel · k) (.glo · k) else .bad
noncomputable def ff(t:CE)(y:Str):Bool:=match sq t.ns y with
 | some kd=>dL kd
 | none=>false
noncomputable def cP(t:CE)(y:Str)(k:I):I:=bQ (sq t.ns y) fun kd=>
 bif dL kd then bQ (ef (slots t.ns) y) (.put · k) else bif fp kd then bQ (ef t.cn y) (.ptc · k) else .bad
noncomputable def cC(v:Const)(k:I):I:=match v with
 | .none=>.cst .none k
 | .bool b=>.cst (.bool b) k
 | .int i=>.cst (.int i) k
 | .str s=>.cst (.str s) k
 | _=>.bad
theorem n8{α:Type}{b:Bool}{x y:α}(h:(bif b then some x else none)=some y):b=true∧x=y:=by
 induction b using Bool.casesOn with
 | false=>exact ac h
 | true=>exact ⟨rfl,Option.some.inj h⟩
theorem wA{e:Nu}{P:Sh→Prop}(k:∀s,Kq e s→P s):P (sh e):=k _ (wz e)
noncomputable def yo:Sh→Option Str
 | .name y _=>some y
 | _=>none
noncomputable def gf(e:Nu):Option Str:=yo (sh e)
noncomputable def u0:Sh→Option Const
 | .const v _ _=>some v
 | _=>none
noncomputable def gY(e:Option Nu):Option Const:=e.bind fun e=>u0 (sh e)
noncomputable def sZ:Sh→Option (Option Nu×Option Nu)
 | .slice l u s _=>bif s.isNone then some (l,u) else none
 | _=>none
noncomputable def lE(e:Nu):Option (Option Nu×Option Nu):=sZ (sh e)
noncomputable def FV:Sh→Option (Nu×Str)
 | .att o n _=>some (o,n)
 | _=>none
noncomputable def FW(e:Nu):Option (Nu×Str):=FV (sh e)
theorem bR{e:Nu}{y:Str} : gf e=some y→∃q,e=.Name y q:=
 wA (P:=fun s=>yo s=some y→∃q,e=.Name y q) fun s b h=>by
  induction s using Sh.casesOn with
  | name y' q=>exact ⟨q,Option.some.inj h▸b⟩
  | _=>exact ac h
theorem jH{e:Option Nu}{v:Const}(h:gY e=some v):∃m p,e=some (.Constant v m p):=by
 obtain ⟨e,rfl,h⟩:=aR h;refine wA (P:=fun s=>u0 s=some v→∃m p,some e=some (.Constant v m p)) (fun s b h=>?_) h
 induction s using Sh.casesOn with
 | const v' m p=>exact ⟨m,p,Nw some (Option.some.inj h▸b)⟩
 | _=>exact ac h
theorem oW{e:Nu}{p} : lE e=some p→∃q,e=.Slice p.1 p.2 none q:=
 wA (P:=fun s=>sZ s=some p→∃q,e=.Slice p.1 p.2 none q) fun s b h=>by
  induction s using Sh.casesOn with
  | slice l u s q=>exact ⟨q,(n8 h).2▸Option.isNone_iff_eq_none.mp (n8 h).1▸b⟩
  | _=>exact ac h
theorem vm{e:Nu}{p} : FW e=some p→∃q,e=.Attribute p.1 p.2 q:=
 wA (P:=fun s=>FV s=some p→∃q,e=.Attribute p.1 p.2 q) fun s b h=>by
  induction s using Sh.casesOn with
  | att o n q=>exact ⟨q,Option.some.inj h▸b⟩
  | _=>exact ac h
noncomputable def u2(sc:Scope)(t:CE)(y:Str):Bool:=
 decide (sc.kind=.function)&&!sc.isCoroutine&&ff { t with ns:=sc.names } y&&sc.names.all fun p=>
  dL p.2&&ff { t with ns:=sc.names } p.1||ny p.2||c7 p.2&&(match sq sc.names p.1 with | some kd=>c7 kd | none=>false)&&(match sq t.ns p.1 with | some kd=>fp kd||c7 kd | none=>false)&&(ef t.cn p.1).isSome
noncomputable def cB(f:Nu→I→I)(op:PySem.BoolOp):List Nu→I→I
 | [],_=>.bad
 | e::r,k=>f e (bif r.isEmpty then k else match op with | .And=>.and (cB f op r .fin) k | .Or=>.or (cB f op r .fin) k)
noncomputable def cD(f:Nu→I→I):List (Option Nu)→List Nu→I→I
 | [],vs,k=>bif vs.isEmpty then k else .bad
 | c::r,vs,k=>bQ (gY c) fun v=>match vs with | e::vs=>cC v (f e (cD f r vs k)) | []=>.bad
noncomputable def uQ(ks:List (Option Nu))(vs:List Nu):Bool:=O8 ks.length vs.length&&ks.all (fun k=>(gY k).isSome)&&S2 ks.length 3&&!O8 ks.length 2
noncomputable def cO(f:Nu→I→I)(o:Option Nu)(k:I):I:=match o with
 | some e=>f e k
 | none=>.cst .none k
noncomputable def cI(f:Nu→I→I)(ifs:List Nu)(b:I):I:=match ifs with
 | []=>b
 | e::r=>bif r.isEmpty then f e (.ite b .fin .fin) else .bad
noncomputable def cG(t:CE)(gs:List P7)(sc:Scope)(k:Nu→List Nu→Nat→CE→I):I:=match gs with
 | g::r=>bif r.isEmpty&&decide (g.is_async=0) then bQ (gf g.target) fun y=>bif u2 sc t y then bQ (ef (slots sc.names) y) fun i=>k g.iter g.ifs i { t with ns:=sc.names } else .bad else .bad
 | []=>.bad
noncomputable def pd(a:P5):Bool:=a.posonlyargs.isEmpty&&a.args.isEmpty&&a.vararg.isNone&&a.kwonlyargs.isEmpty&&a.kw_defaults.isEmpty&&a.kwarg.isNone&&a.defaults.isEmpty
noncomputable def yD(sc:Scope)(t:CE):Bool:=sc.names.all fun p=>!c7 p.2||(match sq t.ns p.1 with | some kd=>fp kd||c7 kd | none=>false)&&(ef t.cn p.1).isSome
noncomputable def Cq(v:Const):Option Str:=match v with
 | .str s=>bif decide (s.length≤100) then some s else none
 | _=>none
noncomputable def zh(e:Nu):Option Str:=(gY (some e)).bind Cq
noncomputable def Fa:Sh→Option Nu
 | .fmt f i o _=>bif decide (i=-1)&&o.isNone then some f else none
 | _=>none
noncomputable def Fb(e:Nu):Option Nu:=Fa (sh e)
theorem sY{v:Const}{s:Str}(h:Cq v=some s):v=.str s∧s.length≤100:=by
 induction v using Const.casesOn with
 | str t=>exact (n8 h).2▸⟨rfl,Nx (n8 h).1⟩
 | _=>exact ac h
theorem mQ{e:Nu}{s:Str}(h:zh e=some s):∃m p,e=.Constant (.str s) m p∧s.length≤100:=by
 obtain ⟨v,h1,h2⟩:=aR h;obtain ⟨m,p,e1⟩:=jH h1;obtain ⟨rfl,h3⟩:=sY h2;exact ⟨m,p,Option.some.inj e1,h3⟩
theorem uC{e f:Nu} : Fb e=some f→∃p,e=.FormattedValue f (-1) none p:=
 wA (P:=fun s=>Fa s=some f→∃p,e=.FormattedValue f (-1) none p) fun s b h=>by
  induction s using Sh.casesOn with
  | fmt v i o p=>
   have w:=aa (n8 h).1;exact ⟨p,(n8 h).2▸Nx w.1▸Option.isNone_iff_eq_none.mp w.2▸b⟩
  | _=>exact ac h
noncomputable def cJ(f:Nu→I→I)(vs:List Nu)(k:I):I:=match vs with
 | [a,e,b]=>bQ (zh a) fun a=>bQ (Fb e) fun e=>bQ (zh b) fun b=>f e (.fst a b k)
 | _=>.bad
noncomputable def KX(f:Nu→I→I)(t:CE)(p:Pos)(as:List Nu)(k:I):Sh→I
 | .att o name ap=>bif lP o&&O8 ap.endLine p.line then f o (.mth name (as.foldr f (.cal (as.length+1) k))) else .bad
 | .name y _=>cN t y (as.foldr f (.cal as.length k))
 | _=>.bad
noncomputable def cE:Nat→CE→Nu→I→I
 | 0,_,_,_=>.bad
 | n+1,t,e,k=>match e with
  | .Constant v _ _=>cC v k
  | .Name y _=>cN t y k
  | .BoolOp op es _=>cB (cE n t) op es k
  | .BinOp l op r _=>cE n t l (cE n t r (.bin op k))
  | .UnaryOp op e _=>(match op with | .USub=>cE n t e (.neg k) | .Not=>cE n t e (.not k) | _=>.bad)
  | .IfExp c b o _=>cE n t c (.ite (cE n t b .fin) (cE n t o .fin) k)
  | .List es _=>bif noStar es then es.foldr (cE n t) (.lst es.length k) else .bad
  | .Tuple es _ _=>bif noStar es then es.foldr (cE n t) (.tpl es.length k) else .bad
  | .Dict ks vs _=>bif uQ ks vs then cD (cE n t) ks vs (.dic (2*ks.length) k) else .bad
  | .Compare l ops rs _=>(match ops with | [op]=>(match rs with | [r]=>cE n t l (cE n t r (.cmp op k)) | _=>.bad) | _=>.bad)
  | .Call f as ks p=>bif ks.isEmpty&&noStar as then KX (cE n t) t p as k (sh f) else .bad
  | .Attribute o name _=>bif lP o then cE n t o (.att name k) else .bad
  | .Subscript o i _=>(match lE i with
   | some p=>cE n t o (cO (cE n t) p.1 (cO (cE n t) p.2 (.slc k)))
   | none=>cE n t o (cE n t i (.sub k)))
  | .ListComp elt gs sc _=>cG t gs sc fun iter ifs i t'=>cE n t iter (.lcm (slots sc.names).length i (cI (cE n t') ifs (cE n t' elt .fin)) k)
  | .DictComp ke ve gs sc _=>cG t gs sc fun iter ifs i t'=>cE n t iter (.dcm (slots sc.names).length i (cI (cE n t') ifs (cE n t' ke (cE n t' ve .fin))) k)
  | .JoinedStr vs _=>cJ (cE n t) vs k
  | .Lambda args body sc p=>bif pd args&&yD sc t then .lam body sc p k else .bad
  | _=>.bad
noncomputable def KY(f:Nu→I→I)(t:CE)(e:Nu)(k:I):Sh→I
 | .name y _=>f e (cP t y k)
 | .tup us _ _=>bif sP e&&decide (us.length<10) then f e (.unp us.length (us.foldr (fun u k=>bQ (gf u) fun y=>cP t y k) k)) else .bad
 | .att o n _=>f e (f o (.sat n k))
 | .sub o i _=>bif b6 i then .bad else f e (f o (f i (.sit k)))
 | _=>.bad
noncomputable def cA(f:Nu→I→I)(t:CE)(u e:Nu)(k:I):I:=KY f t e k (sh u)
noncomputable def lK:Str:=No "Refusal"
noncomputable def qw(t:CE)(y:Str):Bool:=jF y lK&&(match sq t.ns y with | some kd=>ny kd | none=>false)
noncomputable def wM{α:Type} : List α→Option α
 | []=>none
 | a::r=>bif r.isEmpty then some a else none
theorem jg{α:Type}{l:List α}{a:α}(h:wM l=some a):l=[a]:=by
 induction l using List.casesOn with
 | nil=>exact ac h
 | cons b r=>induction r with
  | nil=>injection h with h;subst h;rfl
  | cons=>exact ac h
noncomputable def FZ(t:CE):Sh→Option Nu
 | .call f as ks _=>(gf f).bind fun y=>(wM as).bind fun a=>bif ks.isEmpty&&qw t y&&!b6 a then some a else none
 | _=>none
noncomputable def F0(t:CE)(e:Option Nu):Option Nu:=e.bind fun e=>FZ t (sh e)
noncomputable def De(s:O0):Option Nu:=match s with
 | .Return e _=>e
 | _=>none
noncomputable def MW:Qp→Option Nu
 | .ExceptHandler t _ _ _=>t
noncomputable def MX:Qp→Option Str
 | .ExceptHandler _ n _ _=>n
noncomputable def MY:Qp→List O0
 | .ExceptHandler _ _ b _=>b
noncomputable def nC(t:CE)(hs:List Qp):Option Str:=(wM hs).bind fun h=>(MW h).bind fun e=>(MX h).bind fun n=>(wM (MY h)).bind fun s=>(De s).bind fun r=>(gf e).bind fun y=>(FW r).bind fun q=>(gf q.1).bind fun n'=>
 bif qw t y&&ff t n&&jF n n'&&jF q.2 (No "message")&&!(jF n (No "__debug__")) then some n else none
noncomputable def cS:Nat→CE→O0→I→I
 | 0,_,_,_=>.bad
 | n+1,t,s,k=>match s with
  | .Pass _=>k
  | .Break _=>.brk
  | .Continue _=>.cnt
  | .Expr e _=>bif gb e then cE n t e (.pop k) else .bad
  | .Return e _=>(match e with | none=>.cst .none .rtn | some e=>cE n t e .rtn)
  | .Assign ts e _=>(match ts with | [u]=>cA (cE n t) t u e k | _=>.bad)
  | .AugAssign u op e _=>bQ (gf u) fun y=>cN t y (cE n t e (.aug op (cP t y k)))
  | .If c b o _=>cE n t c (.ite (b.foldr (cS n t) .fin) (o.foldr (cS n t) .fin) k)
  | .While c b o _=>bif o.isEmpty then .whl (cE n t c (.ite (b.foldr (cS n t) .fin) .brk .fin)) k else .bad
  | .For u it b o _=>bif o.isEmpty then bQ (gf u) fun y=>bif ff t y then bQ (ef (slots t.ns) y) fun i=>cE n t it (.for i (b.foldr (cS n t) .fin) k) else .bad else .bad
  | .Raise e c _=>(match c with | none=>bQ (F0 t e) fun a=>cE n t a .rse | _=>.bad)
  | .Try b hs o f _=>bif (nC t hs).isSome&&o.isEmpty&&f.isEmpty then .try (b.foldr (cS n t) .fin) else .bad
  | _=>.bad
structure DC where
 ini:List (Option Nat)
 cin:List (Option Nat)
 cn:List Str
 body:I
noncomputable def dw(ns:List (Str×Ov)):List Str:=(ns.filter fun p=>fp p.2).map (·.1)
noncomputable def fi(ns:List (Str×Ov)):List Str:=(dw ns).reverse
noncomputable def xy(n:Nat)(gx:List (Str×Gn))(ps:List Str)(sc:Scope)(body:List O0):DC:=
 {ini:=(slots sc.names).map (ef ps),cin:=(dw sc.names).map (ef ps),cn:=dw sc.names,
  body:=body.foldr (cS n { ns:=sc.names,cn:=fi sc.names,gx:=gx }) .fin }
end
end
section
def bt(c:Cx)(F:Fr)(d:Nat)(k:I)(E:XP)(st:List V)(L:Ls)(H:AH)(Q:QR):Prop:=ao c F d k E st L H Q
noncomputable def jn(c:Cx)(F:Fr)(d:Nat)(k:I)(E:XP)(Q:QR):QR:=fun r L H=>match r with | .nx st=>bt c F d k E st L H Q | r=>Q r L H
section
variable(c:Cx)(F:Fr)(d:Nat)(k b t e:I)(E:XP)(st:List V)(L:Ls)(H:AH)(Q:QR)(v u a f:V)(i n m:Nat)(g:Gn)(nm:Str)(op:Ph)(cp:CmpOp)(x y:Bool)
theorem DH:ao c F d .fin E st L H Q=Q (.nx st) L H:=rfl
theorem Dq:ao c F d .rtn E (v::st) L H Q=Q (.ret v) L H:=rfl
theorem DR:ao c F d .brk E st L H Q=Q .brk L H:=rfl
theorem DL:ao c F d .cnt E st L H Q=Q .cnt L H:=rfl
theorem Ds:ao c F (d+2) .rse E (.str nm::st) L H Q=E (.str nm) H:=rfl
theorem DK:ao c F d (.cst v k) E st L H Q=ao c F d k E (v::st) L H Q:=rfl
theorem DA:ao c F d (.loc i k) E st L H Q=au (nI L i) fun v=>bt c F d k E (v::st) L H Q:=rfl
theorem DN:ao c F d (.cel i k) E st L H Q=au (ev F.cl i) fun a=>yR H a fun o=>au o fun v=>bt c F d k E (v::st) L H Q:=rfl
theorem DE:ao c F d (.glo g k) E st L H Q=ao c F d k E (F.G g::st) L H Q:=rfl
theorem DS:ao c F d (.bin op k) E (v::u::st) L H Q=n6 op u v H fun v H=>bt c F d k E (v::st) L H Q:=rfl
theorem DM:ao c F d (.cmp cp k) E (v::u::st) L H Q=c8 cp u v H fun t=>bt c F d k E (.bool t::st) L H Q:=rfl
theorem DT:ao c F d (.aug op k) E (v::u::st) L H Q=mr op u v fun t=>bt c F d k E (.int t::st) L H Q:=rfl
theorem Dx(z:Int):ao c F d (.neg k) E (.int z::st) L H Q=ao c F d k E (.int (-z)::st) L H Q:=rfl
theorem Dw:ao c F d (.not k) E (.bool x::st) L H Q=ao c F d k E (.bool (!x)::st) L H Q:=rfl
theorem DU:ao c F d (.att nm k) E (v::st) L H Q=getA c v nm H fun v=>bt c F d k E (v::st) L H Q:=rfl
theorem Dl:ao c F d (.sub k) E (v::u::st) L H Q=nw u v H fun v=>bt c F d k E (v::st) L H Q:=rfl
theorem Dm:ao c F d (.slc k) E (v::u::a::st) L H Q=lD c a u v H fun v H=>bt c F d k E (v::st) L H Q:=rfl
theorem Dz:ao c F d (.lst n k) E st L H Q=cX n st [] fun vs st=>bI (.list vs) H fun v H=>bt c F d k E (v::st) L H Q:=rfl
theorem Dk:ao c F d (.tpl n k) E st L H Q=cX n st [] fun vs st=>bI (.tup vs) H fun v H=>bt c F d k E (v::st) L H Q:=rfl
theorem DI:ao c F d (.dic n k) E st L H Q=cX n st [] fun vs st=>xn vs H fun v H=>bt c F d k E (v::st) L H Q:=rfl
theorem DQ:ao c F d (.cal n k) E st L H Q=cX n st [] fun vs st=>bu st fun f st=>eg c d f vs H (fun v H=>bt c F d k E (v::st) L H Q) E:=rfl
theorem Dy:ao c F d (.mth nm k) E (v::st) L H Q=np c v nm H fun f=>bt c F d k E (v::f::st) L H Q:=rfl
theorem DD:ao c F d (.ite t e k) E (.bool x::st) L H Q=fO x (bt c F d t E st L H (jn c F d k E Q)) (bt c F d e E st L H (jn c F d k E Q)):=rfl
theorem DV:ao c F d (.and b k) E (.bool x::st) L H Q=fO x (bt c F d b E st L H (jn c F d k E Q)) (bt c F d k E (.bool false::st) L H Q):=rfl
theorem Ib:ao c F d (.or b k) E (.bool x::st) L H Q=fO x (bt c F d k E (.bool true::st) L H Q) (bt c F d b E st L H (jn c F d k E Q)):=rfl
theorem DB:ao c F d (.lcm m i b k) E (v::st) L H Q=jK v H (fun x H₂ kk=>bt c ⟨F.G,F.cl,none⟩ d b pb [] (cw m i x) H₂ (cQ kk)) fun v H=>bt c F d k E (v::st) L H Q:=rfl
theorem DJ:ao c F d (.dcm m i b k) E (v::st) L H Q=jL v H (fun x H₂ kk=>bt c ⟨F.G,F.cl,none⟩ d b pb [] (cw m i x) H₂ (dQ kk)) fun v H=>bt c F d k E (v::st) L H Q:=rfl
theorem Dt:ao c F d (.put i k) E (v::st) L H Q=ao c F d k E st (gN L i v) H Q:=rfl
theorem Du:ao c F d (.ptc i k) E (v::st) L H Q=au (ev F.cl i) fun a=>yR H a fun ζ=>bt c F d k E st L (upd H a (.cell (some v))) Q:=rfl
theorem Dp:ao c F d (.sat nm k) E (v::u::st) L H Q=setA c v nm u H fun H=>bt c F d k E st L H Q:=rfl
theorem Dn:ao c F d (.sit k) E (v::u::a::st) L H Q=wB u v a H fun H=>bt c F d k E st L H Q:=rfl
theorem Di:ao c F d (.unp n k) E (v::st) L H Q=kz H v fun xs=>xs.length=n∧bt c F d k E (xs++st) L H Q:=rfl
theorem Dv:ao c F d (.pop k) E (v::st) L H Q=ao c F d k E st L H Q:=rfl
theorem Dh:ao c F d (.whl b k) E st L H Q=Bu L H (fun L H q=>bt c F d b E [] L H q) (fun L H=>bt c F d k E st L H Q) Q:=rfl
theorem DG:ao c F d (.for i b k) E (v::st) L H Q=E8 v i L H (fun L H q=>bt c F d b E [] L H q) (fun L H=>bt c F d k E st L H Q) Q:=rfl
theorem DF(p q:Str):ao c F d (.fst p q k) E (.str nm::st) L H Q=(nm.length≤1000∧bt c F d k E (.str (QE++p++nm++q)::st) L H Q):=rfl
theorem Dj:ao c F d (.try b) E st L H Q=∃E₁:XP,bt c F d b E₁ st L H (Il Q)∧∀m L' H',E₁ m H'→m.isBi=false∧Q (.ret m) L' H':=rfl
theorem wR:Il Q (.ret v) L H=Q (.ret v) L H:=rfl
theorem EO:jn c F d k E Q (.nx st) L H=bt c F d k E st L H Q:=rfl
theorem Ah:jn c F d k E Q (.ret v) L H=Q (.ret v) L H:=rfl
theorem Aj:jn c F d k E Q .brk L H=Q .brk L H:=rfl
theorem Ai:jn c F d k E Q .cnt L H=Q .cnt L H:=rfl
end
theorem Ax(o:Option V)(r:Ls):nI (o::r) 0=o:=rfl
theorem Aw(o:Option V)(r:Ls) (n):nI (o::r) (n+1)=nI r n:=rfl
theorem zw(o:Option V)(r:Ls) (v):gN (o::r) 0 v=some v::r:=rfl
theorem zv(o:Option V)(r:Ls) (n v):gN (o::r) (n+1) v=o::gN r n v:=rfl
theorem Es (J K Q st L H):z3 J K Q (.nx st) L H=J L H:=rfl
theorem zZ (J K Q L H):z3 J K Q .cnt L H=J L H:=rfl
theorem z0 (J K Q L H):z3 J K Q .brk L H=K L H:=rfl
theorem zY (J K Q v L H):z3 J K Q (.ret v) L H=Q (.ret v) L H:=rfl
theorem Jy (k v L H):cQ k (.nx [v]) L H=k (some v) H:=rfl
theorem Jz (k L H):cQ k (.nx []) L H=k none H:=rfl
theorem Jq (k v u L H):dQ k (.nx [v,u]) L H=k (some (u,v)) H:=rfl
theorem Jr (k L H):dQ k (.nx []) L H=k none H:=rfl
theorem JC(a:V) (H k):c8 .Is a .none H k=k (decide (a=.none)):=rfl
theorem xx(a:V) (H k):c8 .IsNot a .none H k=k (!decide (a=.none)):=rfl
theorem JA(i j:Int) (H k):c8 .Lt (.int i) (.int j) H k=k (decide (i<j)):=rfl
theorem JB(i j:Int) (H k):c8 .LtE (.int i) (.int j) H k=k (decide (i≤j)):=rfl
theorem JE(i j:Int) (H k):c8 .Gt (.int i) (.int j) H k=k (decide (j<i)):=rfl
theorem JF(i j:Int) (H k):c8 .GtE (.int i) (.int j) H k=k (decide (j≤i)):=rfl
theorem FI(i j:Int) (H k):c8 .Eq (.int i) (.int j) H k=k (decide (i=j)):=rfl
theorem FF(i j:Int) (H k):c8 .NotEq (.int i) (.int j) H k=k (!decide (i=j)):=rfl
theorem FG(i j:Str) (H k):c8 .Eq (.str i) (.str j) H k=k (decide (i=j)):=rfl
theorem FD(i j:Str) (H k):c8 .NotEq (.str i) (.str j) H k=k (!decide (i=j)):=rfl
theorem AU(j:Int) (H k):c8 .Eq .none (.int j) H k=k false:=rfl
theorem AR(j:Int) (H k):c8 .NotEq .none (.int j) H k=k true:=rfl
theorem AS(j:Str) (H k):c8 .Eq .none (.str j) H k=k false:=rfl
theorem AQ(j:Str) (H k):c8 .NotEq .none (.str j) H k=k true:=rfl
theorem FH(a:V)(b:Addr) (H k):c8 .Eq a (.ref b) H k=yF a (.ref b) H k:=rfl
theorem FE(a:V)(b:Addr) (H k):c8 .NotEq a (.ref b) H k=yF a (.ref b) H fun t=>k (!t):=rfl
theorem JD(a:V)(b:Addr) (H k):c8 .In a (.ref b) H k=EW a (.ref b) H k:=rfl
theorem xw(a:V)(b:Addr) (H k):c8 .NotIn a (.ref b) H k=EW a (.ref b) H fun t=>k (!t):=rfl
theorem FS(i j:Int) (H Q):n6 .Add (.int i) (.int j) H Q=Q (.int (i+j)) H:=rfl
theorem FR(i j:Int) (H Q):n6 .Sub (.int i) (.int j) H Q=Q (.int (i-j)) H:=rfl
theorem Gb(i j:Int) (k):mr .Add (.int i) (.int j) k=k (i+j):=rfl
theorem Ga(i j:Int) (k):mr .Sub (.int i) (.int j) k=k (i-j):=rfl
theorem AO(p:Str×Addr) (r):ev (p::r) 0=some p.2:=rfl
theorem AN(p:Str×Addr) (r n):ev (p::r) (n+1)=ev r n:=rfl
theorem zI (i v):cw 0 i v=[]:=rfl
theorem zH (m v):cw (m+1) 0 v=some v::cw m m v:=rfl
theorem zG (m i v):cw (m+1) (i+1) v=none::cw m i v:=rfl
theorem iZ{α:Type}(a:α)(k:α→Prop):au (some a) k=k a:=rfl
theorem vf (c d id args H Q E):eg c d (.bi id) args H Q E=JM c id args H Q:=rfl
theorem vd (c d id args H Q E):eg c d (.ty id) args H Q E=JL id args H Q:=rfl
theorem rT (c d a args H Q E):eg c d (.ref a) args H Q E=dy c d (.ref a) args H Q E:=rfl
theorem vL (v st k):bu (v::st) k=k v st:=rfl
theorem vK (st vs k):cX 0 st vs k=k vs st:=rfl
theorem vJ (n v st vs k):cX (n+1) (v::st) vs k=cX n st (v::vs) k:=rfl
theorem yO (p q):fO true p q=p:=rfl
theorem yP (p q):fO false p q=q:=rfl
theorem eU{b:Bool}{p q:Prop}(h:b=true→p)(h':b=false→q):fO b p q:=by
 induction b using Bool.casesOn
 ·exact h' rfl
 ·exact h rfl
theorem aC{x:Prop}[i:Decidable x]{p q:Prop}(h:x→p)(h' : ¬ x→q):fO (decide x) p q:=by
 induction i using Decidable.casesOn
 ·exact h' ‹_›
 ·exact h ‹_›
noncomputable def rh(Q:Q1):QR
 | .nx _,_,H=>Q .none H
 | .ret v,_,H=>Q v H
 | _,_,_=>False
theorem wG (Q st L H):rh Q (.nx st) L H=Q .none H:=rfl
theorem tp (Q v L H):rh Q (.ret v) L H=Q v H:=rfl
noncomputable def nth:List V→Nat→Option V
 | [],_=>none
 | v::_,0=>some v
 | _::r,n+1=>nth r n
theorem nth_0 (v r):nth (v::r) 0=some v:=rfl
theorem nth_s (v r n):nth (v::r) (n+1)=nth r n:=rfl
noncomputable def jP(vs:List V):Option Nat→Option V
 | some i=>nth vs i
 | none=>none
theorem argO_s (vs i):jP vs (some i)=nth vs i:=rfl
theorem argO_n (vs):jP vs none=none:=rfl
noncomputable def fq(vs:List V):List (Option Nat)→Ls
 | []=>[]
 | o::r=>jP vs o::fq vs r
theorem ini_0 (vs):fq vs []=[]:=rfl
theorem ini_1 (vs o r):fq vs (o::r)=jP vs o::fq vs r:=rfl
noncomputable def mS:List (Option Nat)→List V→List Str→List (Str×Addr)→AH→(List (Str×Addr)→AH→Prop)→Prop
 | o::r,vs,n::ns,cl,H,k=>∀a,H a=none→mS r vs ns ((n,a)::cl) (upd H a (.cell (jP vs o))) k
 | _,_,_,cl,H,k=>k cl H
theorem runP_0 (vs ns cl H k):mS [] vs ns cl H k=k cl H:=rfl
theorem runP_1 (o r vs n ns cl H k):mS (o::r) vs (n::ns) cl H k=∀a,H a=none→mS r vs ns ((n,a)::cl) (upd H a (.cell (jP vs o))) k:=rfl
def rL(c:Cx)(G:Gn→V)(l:Option kw)(d:Nat)(D:DC)(vs:List V)(H:AH)(Q:Q1)(E:XP):Prop:=
 mS D.cin vs D.cn [] H fun cl H'=>bt c ⟨G,cl,l⟩ d D.body E [] (fq vs D.ini) H' (rh Q)
theorem defR_eq (c G l d i ci b cs vs H Q E):rL c G l d ⟨i,ci,cs,b⟩ vs H Q E=mS ci vs cs [] H fun cl H'=>bt c ⟨G,cl,l⟩ d b E [] (fq vs i) H' (rh Q):=rfl
end
section
section
variable{c:Cx}{d:Nat}{x:Fx}{lo:Lo}{H:AH}{E:XP}
theorem W.andThen{α:Type}{t:Sem Value}{f:Value→Sem α}{P:Q1}{Q:α→Lo→AH→Prop}(h:W c d x t lo H (QV lo P) E)(k:∀u H',P (er u) H'→W c d x (f u) lo H' Q E):W c d x (t >>= f) lo H Q E:=
 W.bind (W.mono h (fun u l h ⟨e,p⟩=>e▸k u h p) fun ζ ζ e=>e)
theorem W.thenB{α:Type}{t:Sem Bool}{f:Bool→Sem α}{P:Bool→AH→Prop}{Q:α→Lo→AH→Prop}(h:W c d x t lo H (QB lo P) E)(k:∀b H',P b H'→W c d x (f b) lo H' Q E):W c d x (t >>= f) lo H Q E:=
 W.bind (W.mono h (fun u l h ⟨e,p⟩=>e▸k u h p) fun ζ ζ e=>e)
theorem W.truthyBool{b:Bool}{Q:Bool→Lo→AH→Prop}(h:Q b lo H):W c d x (truthy (.bool b)) lo H Q E:=fun ζ ζ ζ ζ R=>wpAny_truthy_bool ⟨lo,H,R,h⟩
end
theorem iY{e:Nu}{r:List Nu}{env:Env}(h:b6 e=false):starEach (e::r) env=(false,eval e env)::starEach r env:=by
 induction e using PySem.Expr.casesOn<;>first | rfl | exact NG h
theorem iX{es:List Nu}{env:Env}(h:es.all (fun e=>!b6 e)=true):starEach es env=es.map fun e=>(false,eval e env):=by
 induction es with
 | nil=>rfl
 | cons e r ih=>
  rw[RO,NY,Oi]at h;rw[iY h.1,ih h.2];rfl
theorem b8{es:List Nu}{env:Env}{pos:Pos}(h:es.all (fun e=>!b6 e)=true):backTo pos (starEach es env)=es.map fun e=>(false,eval e env):=by
 rw[iX h];unfold backTo;rw[Oc];rfl
theorem cg{es:List Nu}(h:noStar es=true):es.length<20∧es.all (fun e=>!b6 e)=true:=by
 unfold noStar at h;rw[NY,PM]at h;exact h
theorem aY{a b:Str} : jF a b=true↔a=b:=Fast.sEq_iff
theorem dB{α:Type}(y:Str):∀l:List (Str×α),sq l y=l.lookup y
 | []=>rfl
 | p::r=>by
  show cond (jF p.1 y) (some p.2) (sq r y)=_;rw[dB y r];refine aw (o:=jF p.1 y) (fun h=>?_) (fun h=>?_)
  ·rw[NK,show y=p.1 from (aY.mp h).symm];simp
  ·
   have:(y==p.1)=false:=beq_eq_false_iff_ne.mpr fun e=>by have h:=(aY.mpr e.symm).symm.trans h;exact NG h
   rw[NK,this];rfl
noncomputable def bS:List Str→Ls→Lo
 | n::r,v::L=>fun y=>if y=n then v else bS r L y
 | _,_=>fun ζ=>none
theorem cV (r):bS r []=fun ζ=>none:=by induction r<;>rfl
theorem nF{y:Str} : ∀{sl:List Str}{i:Nat}{L:Ls},ef sl y=some i→nI L i=bS sl L y
 | n::r,i,L,h=>by
  have h:cond (jF n y) (some 0) ((ef r y).map (· + 1))=some i:=h
  induction L using List.casesOn with
  | nil=>rw[cV];rfl
  | cons v L=>
   show _=if y=n then v else bS r L y;refine aw (o:=jF n y) (fun e=>?_) (fun e=>?_)
   ·replace h:=(e)▸h;injection h with h;subst h;rw[if_pos (aY.mp e).symm];rfl
   ·
    rw[e]at h;obtain ⟨j,hj,rfl⟩:=Option.map_eq_some_iff.mp h;rw[if_neg fun w=>by have e:=(aY.mpr w.symm).symm.trans e;exact (Nt e.symm).elim];exact nF hj
theorem eC{y:Str}{v:V} : ∀{sl:List Str}{i:Nat}{L:Ls},ef sl y=some i→bS sl (gN L i v)=bG (bS sl L) y v
 | n::r,i,L,h=>by
  have h:cond (jF n y) (some 0) ((ef r y).map (· + 1))=some i:=h;funext z;unfold bG;refine aw (o:=jF n y) (fun e=>?_) (fun e=>?_)
  ·
   replace h:=(e)▸h;injection h with h;subst h;have e:=aY.mp e;rcases L with _ | ⟨u,L⟩
   ·show (if z=n then some v else bS r [] z)=_;rw[e,cV,cV]
   ·show (if z=n then some v else bS r L z)=if z=y then some v else if z=n then u else bS r L z;rw[e];split<;>rfl
  ·
   rw[e]at h;obtain ⟨j,hj,rfl⟩:=Option.map_eq_some_iff.mp h;have ne:n≠y:=fun w=>by have e:=(aY.mpr w).symm.trans e;exact NG e
   rcases L with _ | ⟨u,L⟩
   ·
    show (if z=n then none else bS r (gN [] j v) z)=_;rw[eC hj];unfold bG;split
    ·rename_i w;rw[w,if_neg ne];rfl
    ·rw[cV,cV]
   ·
    show (if z=n then u else bS r (gN L j v) z)=if z=y then some v else if z=n then u else bS r L z;rw[eC hj];unfold bG;by_cases w:z=n
    ·rw[if_pos w,w,if_neg ne,if_pos rfl]
    ·rw[if_neg w,if_neg w]
theorem nQ{y:Str} : ∀{cl:List (Str×Addr)}{i:Nat},ef (cl.map (·.1)) y=some i→ev cl i=cl.lookup y
 | (n,a)::r,i,h=>by
  have h:cond (jF n y) (some 0) ((ef (r.map (·.1)) y).map (· + 1))=some i:=h;refine aw (o:=jF n y) (fun e=>?_) (fun e=>?_)
  ·replace h:=(e)▸h;injection h with h;subst h;rw[show y=n from (aY.mp e).symm];simp;rfl
  ·
   replace h:=(e)▸h;obtain ⟨j,hj,rfl⟩:=Option.map_eq_some_iff.mp h;have:(y==n)=false:=beq_eq_false_iff_ne.mpr fun w=>by have e:=(aY.mpr w.symm).symm.trans e;exact NG e
   rw[NK,this];exact nQ hj
def Bq(c:Cx)(G:Gn→V)(gx:List (Str×Gn)):Prop:=∀y g,gx.lookup y=some g→c.has y∧c.gl y=G g
structure Fs(c:Cx)(x:Fx)(se:SE)(F:Fr)(gx:List (Str×Gn)):Prop where
 of:x.Of se
 cl:F.cl=se.cl
 g:Bq c F.G gx
 lm:∀l,F.lm=some l→x.env.code=.ref l.code∧x.env.qual++No "<lambda>" = l.qual
abbrev tr(se:SE)(gx:List (Str×Gn)):CE:=⟨se.ns,se.cl.map (·.1),gx⟩
abbrev cb(se:SE)(L:Ls):Lo:=bS (slots se.ns) L
def dc(c:Cx)(n:Nat)(e:Nu):Prop:=∀⦃x:Fx⦄ ⦃se:SE⦄ ⦃F:Fr⦄ ⦃gx d k E st L H Q⦄,Fs c x se F gx→ao c F d (cE n (tr se gx) e k) E st L H Q→
 W c d x (eval e x.env) (cb se L) H (QV (cb se L) fun v H'=>ao c F d k E (v::st) L H' Q) E
def fQ(c:Cx)(F:Fr)(d:Nat)(k:I)(E:XP)(st:List V)(L:Ls)(Q:QR):Prop:=∀v H,ao c F d k E (v::st) L H Q→∃b,v=.bool b
def jY(c:Cx)(n:Nat)(e:Nu):Prop:=∀⦃x:Fx⦄ ⦃se:SE⦄ ⦃F:Fr⦄ ⦃gx d k E st L H Q⦄,Fs c x se F gx→fQ c F d k E st L Q→ao c F d (cE n (tr se gx) e k) E st L H Q→
 W c d x (isTrue e x.env (eval e x.env)) (cb se L) H (QB (cb se L) fun b H'=>ao c F d k E (.bool b::st) L H' Q) E
def Br(c:Cx)(n:Nat)(es:List Nu):Prop:=∀⦃x:Fx⦄ ⦃se:SE⦄ ⦃F:Fr⦄ ⦃gx d k E st L H Q⦄,Fs c x se F gx→ao c F d (es.foldr (cE n (tr se gx)) k) E st L H Q→
 W c d x (spliced (es.map fun e=>(false,eval e x.env))) (cb se L) H (fun vs l h=>l=cb se L∧vs.length=es.length∧ao c F d k E ((vs.map er).reverse++st) L h Q) E
section
variable{c:Cx}{d:Nat}{x:Fx}{se:SE}{F:Fr}{gx:List (Str×Gn)}{H:AH}{E:XP}{k:I}{st:List V}{L:Ls}{Q:QR}{n:Nat}
theorem c4{α:Type}{o:Option α}{f:α→I}{P:Prop}(h:ao c F d (bQ o f) E st L H Q)(k:∀a,o=some a→ao c F d (f a) E st L H Q→P):P:=by
 induction o with
 | none=>exact h.elim
 | some a=>exact k a rfl h
theorem n9{b:Bool}{i:I}(h:ao c F d (bif b then i else .bad) E st L H Q):b=true∧ao c F d i E st L H Q:=by
 induction b
 ·exact h.elim
 ·exact ⟨rfl,h⟩
theorem c9{b:Bool}{i:I}{P:Prop}(h:ao c F d (bif b then i else .bad) E st L H Q)(k:b=true→ao c F d i E st L H Q→P):P:=k (n9 h).1 (n9 h).2
theorem eV{b:Bool}{p q:Prop}(h:fO b p q):(b=true∧p)∨(b=false∧q):=by
 induction b
 ·exact .inr ⟨rfl,h⟩
 ·exact .inl ⟨rfl,h⟩
theorem d6{v:V}{k:Bool→Prop}(h:eh v k):∃b,v=.bool b∧k b:=by
 induction v<;>first | exact h.elim | exact ⟨_,rfl,h⟩
inductive xJ(v:V)(k:Str→Prop):Prop
 | mk(m:Str)(e:v=.str m)(h:k m)
theorem xJ.el{v:V}{k:Str→Prop}{P_:Prop}(h_:xJ v k)(k_:∀(m:Str) (e:v=.str m) (h:k m),P_):P_:=xJ.rec (motive:=fun ζ=>P_) k_ h_
theorem eY{v:V}{k:Str→Prop}(h:iA v k):xJ v k:=by
 induction v with
 | str m=>exact ⟨m,rfl,h⟩
 | _=>exact h.elim
theorem eX{j:I}(p:∀v H,ao c F d j E (v::st) L H Q→∃k',eh v k'):fQ c F d j E st L Q:=fun v H h=>by
 refine Nz (p v H h) fun k' h=>?_;refine Nz (d6 h) fun b zz=>NO (fun e ζ=>?_) (zz);exact ⟨b,e⟩
theorem oN{K:List V→List V→Prop} : ∀(us:List V) (vs:List V),cX us.length (us.reverse++st) vs K→K (us++vs) st
 | us,vs,h=>by
  have key:∀(rs:List V) (vs:List V),cX rs.length (rs++st) vs K→K (rs.reverse++vs) st:=by
   intro rs
   induction rs with
   | nil=>intro vs h;exact h
   | cons u r ih=>
    intro vs h;have:=ih (u::vs) h;rw[PE,Om];exact this
  have:=key us.reverse vs (by rw[Tv];exact h)
  rwa [List.reverse_reverse]at this
theorem dK{kd:Ov}(h:dL kd=true):kd=.local:=by induction kd<;>first | rfl | exact (Nt h).elim
theorem gU{kd:Ov}(h:fp kd=true):kd=.cell:=by induction kd<;>first | rfl | exact (Nt h).elim
theorem fL{kd:Ov}(h:c7 kd=true):kd=.free:=by induction kd<;>first | rfl | exact (Nt h).elim
theorem gT{kd:Ov}(h:ny kd=true):kd=.globalImplicit:=by induction kd<;>first | rfl | exact (Nt h).elim
theorem FA{kd:Ov}(h:(fp kd||c7 kd)=true):kd=.cell∨kd=.free:=(PB _ _▸h).imp gU fL
theorem ji{y:Str}(h:lO y=true):(y==("__debug__" : Str))=false∧(y==("__classdict__" : Str))=false:=by
 unfold lO at h;simpa only [NY,Oi] using h
theorem vn{a:Addr}{k:Option V→Prop}{P:Prop}(h:yR H a k)(p:∀v,H a=some (.cell v)→k v→P):P:=by
 unfold yR at h;refine ay (o:=H a) (fun e=>?_) fun o e=>?_
 ·rw[e]at h;exact h.elim
 rw[e]at h
 induction o using O.casesOn with
 | cell v=>exact p v e h
 | _=>exact h.elim
theorem Fs.cell(fs:Fs c x se F gx){y:Str}{i:Nat}(h:ef (tr se gx).cn y=some i):ev F.cl i=se.cl.lookup y:=by rw[fs.cl];exact nQ h
theorem ib{y:Str}(fs:Fs c x se F gx)(h:ao c F d (cN (tr se gx) y k) E st L H Q):lO y=true∧W c d x (SU x.env y) (cb se L) H (QV (cb se L) fun v H'=>ao c F d k E (v::st) L H' Q) E:=by
 have zz:=n9 h;have hok:=zz.1;have h:=zz.2;refine ⟨hok,?_⟩;refine c4 h fun kd hkd h=>?_;rw[dB]at hkd;have hx:=fs.of.2 y;replace hx:=(hkd)▸hx;refine aw (o:=dL kd) (fun h1=>?_) (fun h1=>?_)
 ·
  obtain rfl:=dK h1;refine c4 h fun i hi h=>?_;refine dm h fun v hv h=>?_;exact W.loadLocal hx ((nF hi).symm.trans hv) fun u hu=>⟨rfl,hu▸h⟩
 ·
  rw[h1]at h;refine aw (o:=fp kd||c7 kd) (fun h2=>?_) (fun h2=>?_)
  ·
   replace h:=(h2)▸h;have hx2:(x.env.kindOf y=some .cell∨x.env.kindOf y=some .free)∧x.env.cells.lookup y=se.cl.lookup y:=by
    rcases FA h2 with e | e<;>replace hx:=(e)▸hx
    ·exact ⟨.inl hx.1,hx.2⟩
    ·exact hx
   clear hx;refine c4 h fun i hi h=>?_;refine dm h fun a ha h=>?_;refine vn h fun o ho h=>?_;obtain ⟨v,rfl,h⟩:=lB h;have ha:=(fs.cell hi).symm.trans ha;exact W.loadCell hx2.1 (hx2.2.trans ha) ho (ji hok).2 fun u hu=>⟨rfl,hu▸h⟩
  ·
   rw[h2]at h;refine c9 h fun h3 h=>?_;refine c4 h fun g hg h=>?_;rw[dB]at hg;refine NO (fun g1 g2=>?_) (fs.g _ _ hg);replace hx:=(gT h3)▸hx;exact W.loadGlobal hx g1 fun u hu=>⟨rfl,(hu.trans g2)▸h⟩
theorem nP{v:Const}{env:Env}{lo:Lo}(h:ao c F d (cC v k) E st L H Q):W c d x (constValue env v) lo H (QV lo fun v H'=>ao c F d k E (v::st) L H' Q) E:=by
 induction v with
 | none=>exact W.pure ⟨rfl,h⟩
 | bool=>exact W.pure ⟨rfl,h⟩
 | int=>exact W.mkInt fun ζ=>⟨rfl,h⟩
 | str=>exact W.mkText fun ζ=>⟨rfl,h⟩
 | _=>exact h.elim
theorem mB{v m p} : dc c (n+1) (.Constant v m p):=fun ζ ζ ζ ζ ζ ζ ζ ζ ζ ζ ζ fs h=>by
 rw[Q7];exact nP h
theorem oj{y p} : dc c (n+1) (.Name y p):=fun ζ ζ ζ ζ ζ ζ ζ ζ ζ ζ ζ fs h=>by
 obtain ⟨h1,h2⟩:=ib fs h;refine W.standAt' ?_;rw[if_neg (by rw[(ji h1).1];simp)];exact h2
theorem sg{l op r p}(hl:dc c n l)(hr:dc c n r):dc c (n+1) (.BinOp l op r p):=fun ζ ζ ζ ζ ζ ζ ζ ζ ζ ζ ζ fs h=>by
 rw[arm_eval_BinOp];refine W.andThen (hl fs h) fun a H₁ h₁=>?_;refine W.andThen (W.holding (hr fs h₁)) fun b H₂ h₂=>?_;exact W.standAt' (W.operate (pG rfl rfl h₂))
theorem oh{op e p}(he:dc c n e):dc c (n+1) (.UnaryOp op e p):=fun ζ ζ ζ ζ ζ ζ ζ ζ ζ ζ ζ fs h=>by
 induction op with
 | USub=>
  refine W.andThen (he fs h) fun a H₁ h₁=>W.standAt' (W.holding ?_)
  induction a<;>first | exact h₁.elim | skip
  rename_i i t;exact fun base s A ok R=>P.neg_int ⟨_,H₁,R,rfl,h₁⟩
 | Not=>
  refine W.andThen (he fs h) fun a H₁ h₁=>W.standAt' (W.holding ?_);obtain ⟨b,e,h₁⟩:=d6 h₁;refine iR e ?_;unfold unaryOp;exact W.holding (W.bind (W.truthyBool (W.pure ⟨rfl,h₁⟩)))
 | _=>exact h.elim
theorem dF{t e k:I} : fQ c F d (.ite t e k) E st L Q:=eX fun v H h=>⟨_,h⟩
theorem ra{t k:I} : fQ c F d (.and t k) E st L Q:=eX fun v H h=>⟨_,h⟩
theorem sS{t k:I} : fQ c F d (.or t k) E st L Q:=eX fun v H h=>⟨_,h⟩
theorem qZ{k:I} : fQ c F d (.not k) E st L Q:=eX fun v H h=>⟨_,h⟩
theorem sd{t b o p}(ht:jY c n t)(hb:dc c n b)(ho:dc c n o):dc c (n+1) (.IfExp t b o p):=fun ζ ζ ζ ζ ζ ζ ζ ζ ζ ζ ζ fs h=>by
 rw[arm_eval_IfExp];refine W.thenB (ht fs dF h) fun r H₁ h₁=>?_;rcases eV h₁ with ⟨rfl,h⟩ | ⟨rfl,h⟩
 ·exact W.mono (hb fs h) (fun ζ ζ ζ q=>q) fun ζ ζ e=>e
 ·exact W.mono (ho fs h) (fun ζ ζ ζ q=>q) fun ζ ζ e=>e
theorem vp{es p}(hl:Br c n es):dc c (n+1) (.List es p):=fun ζ ζ ζ ζ ζ ζ ζ ζ ζ ζ ζ fs h=>by
 rw[arm_eval_List];have zz:=n9 h;have h0:=zz.1;have h:=zz.2;refine W.standAt' ?_;rw[b8 (cg h0).2];refine W.bind (W.mono (hl fs h) (fun vs l H₁ z=>?_) fun a b e=>e);obtain ⟨rfl,h1,h2⟩:=z;have:=(cg h0).1;refine W.newList (Np (NL h1) (Np (OI this) (by decide))) ?_;have h2:=oN (vs.map er) [] (by rw[Nq,h1];exact h2)
 rwa [Nr]at h2
theorem r8{es m p}(hl:Br c n es):dc c (n+1) (.Tuple es m p):=fun ζ ζ ζ ζ ζ ζ ζ ζ ζ ζ ζ fs h=>by
 rw[arm_eval_Tuple];have zz:=n9 h;have h0:=zz.1;have h:=zz.2;refine W.standAt' ?_;rw[b8 (cg h0).2];refine W.bind (W.mono (hl fs h) (fun vs l H₁ z=>?_) fun a b e=>e);obtain ⟨rfl,h1,h2⟩:=z;have:=(cg h0).1;refine W.newTuple (Np (NL h1) (Np (OI this) (by decide))) ?_;have h2:=oN (vs.map er) [] (by rw[Nq,h1];exact h2)
 rwa [Nr]at h2
theorem fj(he:∀e,dc c n e):∀es,Br c n es
 | [],x,se,F,gx,d,k,E,st,L,H,Q,fs,h=>W.pure ⟨rfl,rfl,h⟩
 | e::es,x,se,F,gx,d,k,E,st,L,H,Q,fs,h=>by
  rw[NT];intro base s A ok R;refine Calls.spliced_cons ?_;refine xj (he e fs h base s A ok R) (fun a b e=>e) fun v s' H' R' h'=>?_;exact OJ (fj he es fs h' base s' A ok R') (fun vs s₂ ⟨lo₂,H₂,R₂,e,h1,h₂⟩=>⟨lo₂,H₂,R₂,e,by rw[OY,OY,h1],by rw[NT,PE,Om];exact h₂⟩) fun ζ ζ e=>e
theorem rA{op:CmpOp}{r:Nu} : behindInMarks op r=false∨∀n t k,cE n t r k=.bad:=by
 induction r using PySem.Expr.casesOn<;>first | exact .inl rfl | exact .inr fun n ζ ζ=>by cases n<;>rfl
theorem gq{op:CmpOp}{r:Nu}(hr:dc c n r)(fs:Fs c x se F gx)(h:ao c F d (cE n (tr se gx) r k) E st L H Q) :
  W c d x (markedBehindIn op r (eval r x.env)) (cb se L) H (QV (cb se L) fun v H'=>ao c F d k E (v::st) L H' Q) E:=by
 refine (rA (op:=op) (r:=r)).elim (fun e=>?_) fun e=>?_
 ·unfold markedBehindIn;rw[e];exact hr fs h
 ·rw[e]at h;exact h.elim
theorem u5{op:CmpOp}{a b:V}{va vb:Value}{k:Bool→Prop}{lo:Lo}(ha:er va=a)(hb:er vb=b)(h:c8 op a b H k):W c d x (Q0 op va vb) lo H (fun v l h=>l=lo∧∃b,v=.bool b∧h=H∧k b) E:=
 W.mono (jM (Q:=fun v H'=>∃r,v=.bool r∧H'=H∧k r) ha hb h fun r q=>⟨r,rfl,rfl,q⟩) (fun v l h ⟨e,r,q,e2,z⟩=>⟨e,r,mj q,e2,z⟩) fun ζ ζ e=>e
theorem u4{l ops rs p}(h:ao c F d (cE (n+1) (tr se gx) (.Compare l ops rs p) k) E st L H Q):∃op r,ops=[op]∧rs=[r]∧ao c F d (cE n (tr se gx) l (cE n (tr se gx) r (.cmp op k))) E st L H Q:=by
 rcases ops with _ | ⟨op,_ | _⟩<;>first | exact h.elim | skip
 rcases rs with _ | ⟨r,_ | _⟩<;>first | exact h.elim | exact ⟨op,r,rfl,rfl,h⟩
theorem om{l ops rs p}(he:∀e,dc c n e):dc c (n+1) (.Compare l ops rs p):=fun x se F gx d k E st L H Q fs h=>by
 obtain ⟨op,r,rfl,rfl,h⟩:=u4 h;refine W.andThen (he l fs h) fun a H₁ h₁=>?_;exact W.andThen (W.holding (gq (he r) fs h₁)) fun b H₂ h₂=>W.standAt' (W.operate (jM (k:=fun t=>ao c F d k E (.bool t::st) L H₂ Q) rfl rfl h₂ fun ζ q=>q))
theorem kl{l ops rs p}(he:∀e,dc c n e):jY c (n+1) (.Compare l ops rs p):=fun x se F gx d k E st L H Q fs ht h=>by
 obtain ⟨op,r,rfl,rfl,h⟩:=u4 h;refine W.andThen (he l fs h) fun a H₁ h₁=>?_;refine W.andThen (W.holding (gq (he r) fs h₁)) fun b H₂ h₂=>W.standAt' ?_;refine W.bind (W.mono (W.operate (u5 (k:=fun t=>ao c F d k E (.bool t::st) L H₂ Q) rfl rfl h₂)) (fun v l h z=>?_) fun a b e=>e);obtain ⟨e,r,q,e2,z⟩:=z;subst e e2 q;exact W.holding (W.truthyBool ⟨rfl,z⟩)
theorem io{e:Nu}(he:dc c n e)(hi:∀env m,isTrue e env m=(do let v ← m;Sv e.pos;holding [v] (truthy v))):jY c n e:=fun ζ ζ ζ ζ ζ ζ ζ ζ ζ ζ ζ fs ht h=>by
 rw[hi];refine W.andThen (he fs h) fun v H' h'=>?_;obtain ⟨b,e⟩:=ht _ _ h';obtain rfl:=mj e;exact W.standAt' (W.holding (W.truthyBool ⟨rfl,h'⟩))
theorem sa{e p}(he:jY c n e):jY c (n+1) (.UnaryOp .Not e p):=fun ζ ζ ζ ζ ζ ζ ζ ζ ζ ζ ζ fs ht h=>by
 rw[arm_isTrue_UnaryOp];exact W.bind (W.mono (he fs qZ h) (fun b l h ⟨e,q⟩=>W.pure ⟨e,q⟩) fun ζ ζ e=>e)
theorem ol{t b o p}(ht:jY c n t)(hb:jY c n b)(ho:jY c n o):jY c (n+1) (.IfExp t b o p):=fun ζ ζ ζ ζ ζ ζ ζ ζ ζ ζ ζ fs hk h=>by
 rw[arm_isTrue_IfExp];refine W.thenB (ht fs dF h) fun r H₁ h₁=>?_;rcases eV h₁ with ⟨rfl,h⟩ | ⟨rfl,h⟩
 ·exact W.mono (hb fs (by exact hk) h) (fun ζ ζ ζ q=>q) fun ζ ζ e=>e
 ·exact W.mono (ho fs (by exact hk) h) (fun ζ ζ ζ q=>q) fun ζ ζ e=>e
theorem mx{op}(ht:∀e,jY c n e):∀(es:List Nu) {x:Fx}{se:SE}{F:Fr}{gx d k E st L H Q},Fs c x se F gx→fQ c F d k E st L Q→ao c F d (cB (cE n (tr se gx)) op es k) E st L H Q→
  W c d x (allTrue op es x.env) (cb se L) H (QB (cb se L) fun b H'=>ao c F d k E (.bool b::st) L H' Q) E
 | [],x,se,F,gx,d,k,E,st,L,H,Q,fs,hk,h=>h.elim
 | [e],x,se,F,gx,d,k,E,st,L,H,Q,fs,hk,h=>by
  refine W.thenB (ht e fs hk h) fun b H₁ q=>?_;rw[arm_allTrue_nil]
  induction op<;>induction b<;>exact W.pure ⟨rfl,q⟩
 | e::e'::r,x,se,F,gx,d,k,E,st,L,H,Q,fs,hk,h=>by
  induction op with
  | And=>
   refine W.thenB (ht e fs ra h) fun b H₁ q=>?_;cases b with
   | false=>exact W.pure ⟨rfl,q⟩
   | true=>exact W.mono (mx ht (e'::r) (k:=.fin) fs (by exact hk) q) (fun ζ ζ ζ q=>q) fun ζ ζ e=>e
  | Or=>
   refine W.thenB (ht e fs sS h) fun b H₁ q=>?_;cases b with
   | true=>exact W.pure ⟨rfl,q⟩
   | false=>exact W.mono (mx ht (e'::r) (k:=.fin) fs (by exact hk) q) (fun ζ ζ ζ q=>q) fun ζ ζ e=>e
theorem mw{op}(he:∀e,dc c n e):∀(es:List Nu) {x:Fx}{se:SE}{F:Fr}{gx d k E st L H Q pos},Fs c x se F gx→ao c F d (cB (cE n (tr se gx)) op es k) E st L H Q→
  W c d x (boolOp pos op (evalEach es x.env)) (cb se L) H (QV (cb se L) fun v H'=>ao c F d k E (v::st) L H' Q) E
 | [],x,se,F,gx,d,k,E,st,L,H,Q,pos,fs,h=>h.elim
 | [e],x,se,F,gx,d,k,E,st,L,H,Q,pos,fs,h=>he e fs h
 | e::e'::r,x,se,F,gx,d,k,E,st,L,H,Q,pos,fs,h=>by
  induction op with
  | And=>
   refine W.andThen (he e fs h) fun v H₁ q=>W.standAt' ?_;obtain ⟨b,eb,q⟩:=d6 q;refine iR eb ?_;refine W.bind (W.holding (W.truthyBool ?_));cases b with
   | false=>exact W.pure ⟨rfl,q⟩
   | true=>exact W.mono (mw he (e'::r) fs q) (fun ζ ζ ζ q=>q) fun ζ ζ e=>e
  | Or=>
   refine W.andThen (he e fs h) fun v H₁ q=>W.standAt' ?_;obtain ⟨b,eb,q⟩:=d6 q;refine iR eb ?_;refine W.bind (W.holding (W.truthyBool ?_));cases b with
   | true=>exact W.pure ⟨rfl,q⟩
   | false=>exact W.mono (mw he (e'::r) fs q) (fun ζ ζ ζ q=>q) fun ζ ζ e=>e
theorem pK{op es p}(he:∀e,dc c n e):dc c (n+1) (.BoolOp op es p):=fun ζ ζ ζ ζ ζ ζ ζ ζ ζ ζ ζ fs h=>by
 rw[arm_eval_BoolOp];exact mw he es fs h
theorem mC{op es p}(ht:∀e,jY c n e):jY c (n+1) (.BoolOp op es p):=fun ζ ζ ζ ζ ζ ζ ζ ζ ζ ζ ζ fs hk h=>by
 rw[arm_isTrue_BoolOp];exact mx ht es fs hk h
theorem bE{o:Nu}{attr:Str}{env:Env}{m:Sem Value}(h:lP o=true):attributeBase o attr env m=m:=by
 set_option tactic.hygienic true in induction o using PySem.Expr.casesOn<;>first | rfl | skip
 rename_i f as ks p
 induction f using PySem.Expr.casesOn<;>first | rfl | skip
 induction as<;>first | rfl | skip
 induction ks<;>first | rfl | skip
 exact (Nt h).elim
theorem W.letGo{base:Nu}{o r:Value}{Q:Unit→Lo→AH→Prop}{lo:Lo}(h:Q () lo H):W c d x (R4 base o r) lo H Q E:=fun ζ ζ ζ ζ R=>RU ⟨lo,H,R,h⟩
theorem ko{o name p}(ho:dc c n o):dc c (n+1) (.Attribute o name p):=fun x se F gx d k E st L H Q fs h=>by
 rw[arm_eval_Attribute];have zz:=n9 h;have h0:=zz.1;have h:=zz.2;rw[bE h0];refine W.andThen (ho fs h) fun ov H₁ h₁=>W.standAt' ?_;exact W.andThen (W.holding (pq (Q2:=fun v H'=>ao c F d k E (v::st) L H' Q) rfl h₁ fun ζ q=>q)) fun r H₂ h₂=>W.bind (W.letGo (W.pure ⟨rfl,h₂⟩))
theorem kD(he:∀e,dc c n e){o:Option Nu}(fs:Fs c x se F gx)(h:ao c F d (cO (cE n (tr se gx)) o k) E st L H Q) :
  W c d x (valueOrNone (evalOpt o x.env)) (cb se L) H (QV (cb se L) fun v H'=>ao c F d k E (v::st) L H' Q) E:=by
 induction o with
 | none=>exact W.pure ⟨rfl,h⟩
 | some e=>exact he e fs h
theorem W.newFields{cls:String}{vs:List Value}{Q:Value→Lo→AH→Prop}{lo:Lo}(h:∀base A s,Ok d x A→aq c base (x.fs lo) H s→wpAny c.M A (Sn cls vs) (pP c base x (Q)) (iu c base x E) s):W c d x (Sn cls vs) lo H Q E:=fun base s A ok R=>h base A s ok R
theorem ki{o i p}(he:∀e,dc c n e):dc c (n+1) (.Subscript o i p):=fun x se F gx d k E st L H Q fs h=>by
 have h:ao c F d (match lE i with
   | some p=>cE n (tr se gx) o (cO (cE n (tr se gx)) p.1 (cO (cE n (tr se gx)) p.2 (.slc k)))
   | none=>cE n (tr se gx) o (cE n (tr se gx) i (.sub k))) E st L H Q:=h
 cases hs:lE i with
 | none=>
  replace h:=(hs)▸h;refine W.andThen (he o fs h) fun ov H₁ h₁=>W.andThen (W.holding (he i fs h₁)) fun iv H₂ h₂=>?_;exact nt (Q:=fun v=>ao c F d k E (v::st) L H₂ Q) (Q2:=fun v H'=>ao c F d k E (v::st) L H' Q) rfl rfl h₂ fun ζ q=>q
 | some lu=>
  obtain ⟨q,rfl⟩:=oW hs;clear hs;refine W.andThen (he o fs h) fun ov H₁ h₁=>?_;rw[arm_eval_Slice];intro base s A ok R;refine Nv (Oy (Nv ?_));refine xj (kD he fs h₁ base s A ok R) (fun a b e=>e) fun lv s₁ H₂ R₁ h₂=>?_;refine Nv (Oy (xj (kD he fs h₂ base s₁ A ok R₁) (fun a b e=>e) fun uv s₂ H₃ R₂ h₃=>?_));refine Nv (Oy (NP ?_));unfold Sn;refine PL ?_;exact lC (Q:=fun v H'=>ao c F d k E (v::st) L H' Q) rfl rfl rfl h₃ base s₂ A ok R₂
end
end
section
section
variable{c:Cx}{d:Nat}{x:Fx}{lo:Lo}{H:AH}{E:XP}
theorem jD{M:Model}{A:Around}{E':Value→Shared→Prop}{s:Shared}{f:Value}{env:Env}{es:List Nu}{Q:Args→Shared→Prop}
  (h:wpAny M A (spliced (es.map fun e=>(false,eval e env))) (fun vs s₁=>Q ⟨vs,[]⟩ s₁) E' s):wpAny M A (evalArgs f true (es.map fun e=>(false,eval e env)) []) Q E' s:=by
 have key:∀l:List (Bool×Sem Value),(∀p∈l,p.1=false)→wpAny M A (spliced l) (fun vs s₁=>Q ⟨vs,[]⟩ s₁) E' s→wpAny M A (evalArgs f true l []) Q E' s:=fun l hl h=>by
  match l,hl,h with
  | [],_,h=>
   show wpAny M A (spliced _ >>= _) Q E' s;exact Nv (OJ h (fun vs s₁ q=>Nv (NP (Oy (Nv (NP (Nv (NP (NP q)))))))) fun ζ ζ e=>e)
  | [(b,t)],hl,h=>
   obtain rfl:b=false:=hl _ (.head _);show wpAny M A (spliced _ >>= _) Q E' s;exact Nv (OJ h (fun vs s₁ q=>Nv (NP (Oy (Nv (NP (Nv (NP (NP q)))))))) fun ζ ζ e=>e)
  | (b,t)::q::r,hl,h=>
   obtain rfl:b=false:=hl _ (.head _);show wpAny M A (spliced _ >>= _) Q E' s;exact Nv (OJ h (fun vs s₁ q=>Nv (NP (Oy (Nv (NP (Nv (NP (NP q)))))))) fun ζ ζ e=>e)
 exact key _ (fun p hp=>by obtain ⟨e,_,rfl⟩:=List.mem_map.mp hp;rfl) h
theorem eT{M:Model}{A:Around}{E':Value→Shared→Prop}{s:Shared}{f:Value}{first:List Value}{pos:Pos}{env:Env}{es:List Nu}{P:Heap→Prop}{Q:Value→Shared→Prop}
  (hk:∀h,P h→∃k,(k=Keeper.frame∨k=Keeper.machine∨k=Keeper.boundFrame)∧Looks M h (keeperOf f) k)
  (h:wpAny M A (spliced (es.map fun e=>(false,eval e env))) (fun vs s₁=>P s₁.heap∧wpAny M A (call f (first++vs)) Q E' s₁) E' s):wpAny M A (callWith pos f first (es.map fun e=>(false,eval e env)) []) Q E' s:=by
 refine W.callWith_of (P:=P) ?_ hk (jD h);rw[List.any_nil,O9,List.any_eq_false];intro p hp;obtain ⟨e,_,rfl⟩:=List.mem_map.mp hp;simp
theorem nU{f:V}{args:List V}{fv:Value}{vs:List Value}{Q:Q1}(hf:er fv=f)(ha:vs.map er=args)(h:eg c d f args H Q E):W c d x (call fv vs) lo H (QV lo Q) E:=by
 induction f using V.casesOn with
 | bi id=>obtain rfl:=yE hf;exact rZ ha h
 | ty id=>obtain rfl:=uK hf;exact rY ha h
 | ref a=>exact fun base s A ok R=>Ts (SI (h.2 x lo fv vs hf ha base s A ok R) fun r s' z=>by
   rcases r with e | (v | _ | _ | _)<;>first | exact z | exact z.elim | skip
   obtain ⟨H',R',q⟩:=z;exact ⟨lo,H',R',rfl,q⟩)
 | _=>exact TJ h
theorem nV{f:V}{args:List V}{fv:Value}{Q:Q1}(hf:er fv=f)(h:eg c d f args H Q E){base:Heap}{fs:List Fm}{s:Shared}(R:aq c base fs H s) :
  ∃k,(k=Keeper.frame∨k=Keeper.machine∨k=Keeper.boundFrame)∧Looks c.M s.heap (keeperOf fv) k:=by
 induction f using V.casesOn with
 | bi id=>obtain rfl:=yE hf;exact ⟨.machine,.inr (.inl rfl),.now⟩
 | ty id=>obtain rfl:=uK hf;exact ⟨.machine,.inr (.inl rfl),.now⟩
 | ref a=>
  obtain rfl:=dC hf;rcases h.1 with h | ⟨q,b,sc,cl,cd,h⟩
  ·exact W.keeps_K h _ R.frag
  ·obtain ⟨_,_,D,R'⟩:=R;obtain ⟨⟨pm,ctv,g⟩,_⟩:=R'.objs _ _ h;exact W.keeps_F _ ⟨_,_,_,_,g⟩
 | _=>exact TJ h
theorem mR{es:List Pr}{fs:List (Str×V)}{n:Nat}{name:Str}(h:bK es fs)(hn:Ay fs name=none):W.shadowIn (some (dictOf es n)) name=some false:=by
 unfold W.shadowIn;dsimp only;rw[h.lookIn,h.miss name hn];rfl
structure Go(c:Cx)(C:Addr)(x:Str)(f:Addr):Prop where
 get:findIn c.K (.ref C) "__getattribute__" = some (some (.builtin "object.__getattribute__"))
 get':findIn c.K (.ref C) "__getattr__" = some none
 find:findIn c.K (.ref C) x=some (some (.ref f))
 fn:typeIn c.K (.ref f)=some (.type "function")
theorem wV{C:Addr}{x:Str}{f:Addr}(h:c.meth C x=some f):Go c C x f:=by
 unfold Cx.meth at h;refine ay (o:=findIn c.K (.ref C) x) (fun e=>?_) fun o e=>?_
 ·rw[e]at h;exact ac h
 rw[e]at h
 induction o using Option.casesOn with
 | none=>exact ac h
 | some v=>
  induction v using Value.casesOn with
  | ref f'=>
   refine aG (o:=isFn c.K (.ref f')&&Rf c.K C x) (fun hc=>?_) fun hc=>?_
   ·exact ac ((if_neg (by rw[hc];exact Nt)).symm.trans h)
   ·have q:=Option.some.inj ((if_pos hc).symm.trans h);subst q;have h1:=aa hc;have h2:=aa h1.2;exact ⟨beq_iff_eq.mp h2.1,beq_iff_eq.mp h2.2,e,beq_iff_eq.mp h1.1⟩
  | _=>exact ac h
theorem kG{n:Str}{id:String}(h:rB n=some id):Slot "list" n id∧typeOf (.builtin id)=pure (.type "method_descriptor"):=by
 unfold rB at h;split at h
 ·rename_i e;cases e;injection h with h;subst h;exact ⟨F.slot_list_append,rfl⟩
 split at h
 ·rename_i e;subst e;injection h with h;subst h;exact ⟨Uk,rfl⟩
 split at h
 ·rename_i e;subst e;injection h with h;subst h;exact ⟨F.slot_list_pop,rfl⟩
 split at h
 ·rename_i e;rw[e];injection h with h;subst h;exact ⟨F.slot_list_index,rfl⟩
 split at h
 ·rename_i e;rw[e];injection h with h;subst h;exact ⟨F.slot_list_extend,rfl⟩
 ·exact ac h
theorem iD{ov:V}{name:Str}{u:Value}{pl:Sem Bool}{k:V→Prop}{Q:Value×List Value→Lo→AH→Prop}(hu:er u=ov)(h:np c ov name H k)(hq:∀f,k (er f)→Q (f,[u]) lo H):W c d x (getMethod u name pl) lo H Q E:=by
 intro base s A ok R;have fin:∀{f},k (er f)→pP c base x Q (f,[u]) s:=fun q=>⟨lo,H,R,hq _ q⟩
 induction h with
 | m_rjust q=>obtain ⟨t,rfl⟩:=jE hu;exact PySem.GM.rjust (fin q)
 | m_join q=>obtain ⟨t,rfl⟩:=jE hu;exact PySem.GM.join (fin q)
 | m_list e z q=>
  obtain rfl:=dC hu;obtain ⟨items,n,g,w⟩:=R.list e;exact Sx (al g).typeIs F.plainAttrs_list (kG z).1 (kG z).2 (fun b e=>by injection e with e;subst e;exact ⟨_,g,rfl⟩) (fin q)
 | m_tup e q=>
  obtain rfl:=dC hu;obtain ⟨items,n,g,w⟩:=R.tup e;exact Sx (ba g).typeIs F.plainAttrs_tuple F.slot_tuple_index rfl (fun b e=>by cases e;exact ⟨_,g,rfl⟩) (fin q)
 | m_dict e q=>
  obtain rfl:=dC hu;obtain ⟨kvs,g,w⟩:=R.sdict e;refine Sx (bj g).typeIs F.plainAttrs_dict F.slot_dict_get rfl (fun b e=>?_) (fin q);cases e;obtain ⟨o,es,g1,g2,_⟩:=g;exact ⟨o,g1,g2.2.1⟩
 | @m_own a C fs n f e z hm q=>
  obtain rfl:=dC hu;obtain ⟨_,_,D,R'⟩:=id R;obtain ⟨g1,es,n,g2,g3,g4⟩:=(R'.objs _ _ e).1;have m:=wV hm;exact W.method_fn R.frag ⟨g1,rfl,rfl,g2⟩ m.get m.get' m.find m.fn (mR g3 z) (fin q)
end
section
variable{c:Cx}{d:Nat}{x:Fx}{se:SE}{F:Fr}{gx:List (Str×Gn)}{H:AH}{E:XP}{k:I}{st:List V}{L:Ls}{Q:QR}{n:Nat}
theorem eR{as:List Nu}(hl:Br c n as){fv:Value}{first:List Value}{pos:Pos}(fs:Fs c x se F gx)(hf:(first.map er).reverse=first.map er)
  (h:ao c F d (as.foldr (cE n (tr se gx)) (.cal (as.length+first.length) k)) E (first.map er++er fv::st) L H Q):W c d x (callWith pos fv first (as.map fun e=>(false,eval e x.env)) []) (cb se L) H (QV (cb se L) fun v H'=>ao c F d k E (v::st) L H' Q) E:=by
 intro base s A ok R;refine eT (P:=fun h=>∃k,(k=Keeper.frame∨k=Keeper.machine∨k=Keeper.boundFrame)∧Looks c.M h (keeperOf fv) k) (fun ζ h=>h) ?_;refine xj (hl fs h base s A ok R) (fun a b e=>e) fun vs s₁ H₁ R₁ zz=>?_;obtain ⟨h1,h₁⟩:=zz;have key:eg c d (er fv) ((first++vs).map er) H₁ (fun v H=>ao c F d k E (v::st) L H Q) E:=by
  have:=oN ((first++vs).map er) [] (by rw[Nq,NH,h1,O6,N8,List.reverse_append,hf,Om];exact h₁)
  rwa [Nr]at this
 exact ⟨nV rfl key R₁,nU rfl rfl key base s₁ A ok R₁⟩
theorem km{y q as p}(hl:Br c n as)(fs:Fs c x se F gx)(hn:noStar as=true)(h:ao c F d (cN (tr se gx) y (as.foldr (cE n (tr se gx)) (.cal as.length k))) E st L H Q) :
  W c d x (eval (.Call (.Name y q) as [] p) x.env) (cb se L) H (QV (cb se L) fun v H'=>ao c F d k E (v::st) L H' Q) E:=by
 show W c d x (eval (.Name y q) x.env >>= fun f=>callWith p f [] (backTo p (starEach as x.env)) (backToKw p (keywordEach [] x.env))) _ _ _ _;rw[b8 (cg hn).2];refine W.andThen (oj (n:=0) fs h) fun u H' h'=>eR (first:=[]) hl fs rfl h'
theorem kn{o name ap as p}(ho:dc c n o)(hl:Br c n as)(fs:Fs c x se F gx)(h1:lP o=true)(h2:noStar as=true)(h3:O8 ap.endLine p.line=true)(h:ao c F d (cE n (tr se gx) o (.mth name (as.foldr (cE n (tr se gx)) (.cal (as.length+1) k)))) E st L H Q) :
  W c d x (eval (.Call (.Attribute o name ap) as [] p) x.env) (cb se L) H (QV (cb se L) fun v H'=>ao c F d k E (v::st) L H' Q) E:=by
 have zz:=cg h2;have hlen:=zz.1;have hall:=zz.2;rw[arm_eval_Call,bE h1,b8 hall];refine W.andThen (ho fs h) fun ov H₁ h₁=>W.standAt' ?_;have xi:methodCallForm (as.length+([]:List Keyword).length) (as.map fun e=>(false,eval e x.env)) (backToKw p (keywordEach [] x.env))=true:=by
  unfold methodCallForm;rw[NY,NY];refine ⟨⟨by simp,rfl⟩,?_⟩;rw[PM];show as.length+0+(if ([]:List (Option Str×Sem Value)).isEmpty=true then 0 else 1)<30;simp;exact N2 ‹_› (by decide)
 unfold methodCall;rw[xi];unfold calleeOf methodCallPos;rw[(beq_iff_eq.mpr (OG h3))];refine W.bind (W.holding (iD rfl h₁ fun f hf=>?_));refine W.bind (W.pure ?_);exact eR (first:=[ov]) hl fs rfl hf
theorem vw{f as ks p}(he:∀e,dc c n e):dc c (n+1) (.Call f as ks p):=fun ζ ζ ζ ζ ζ ζ ζ ζ ζ ζ ζ fs h=>by
 refine c9 h fun h0 hh=>?_;clear h;rw[NY]at h0;obtain ⟨h1,h2⟩:=h0;obtain rfl:=List.isEmpty_iff.mp h1;refine wA (e:=f) (P:=fun s=>ao _ _ _ (KX (cE n _) _ p as _ s) _ _ _ _ _→_) (fun s b hh=>?_) hh
 induction s using Sh.casesOn with
 | att o name ap=>
  have b:f=.Attribute o name ap:=b;subst b;refine c9 hh fun h3 h=>?_;have h3:=aa h3;exact kn (he _) (fj he as) fs h3.1 h2 h3.2 h
 | name y q=>
  have b:f=.Name y q:=b;subst b;exact km (fj he as) fs h2 hh
 | _=>exact hh.elim
end
end
section
section
variable{c:Cx}{base base' h h':Heap}{fs:List Fm}{H:AH}{D:Addr→Addr}
theorem aE.hide(R:aE c base fs H h D)(bs:List Addr)(hf:∀b∈bs,aH base H D fs b∧∃o,h.get? b=some o) :
  ∃base',aE c base' fs H h D∧base.StaysIn base'∧∀b∈bs,base'.get? b=h.get? b:=by
 refine Nz (R.widen) fun base' zz=>NO (fun R' zz=>NO (fun k1 zz=>NO (fun k2 k3=>?_) (zz)) (zz)) (zz);refine ⟨base',R',k1,fun b hb=>?_⟩;obtain ⟨⟨f1,f2,f3,f4⟩,o,e⟩:=hf b hb;rw[e];exact k3 b o e f2 f3 f4
theorem aE.unhide(R:aE c base' fs H h D){b:Addr}{o:Obj}(e:base'.get? b=some o)(n:base.get? b=none):aH base H D fs b∧h.get? b=some o:=by
 refine ⟨⟨n,?_,fun a o' ea ia q=>?_,fun f hf q=>?_⟩,R.stays _ _ e⟩
 ·refine ay (o:=H b) (fun q=>?_) (fun o' q=>?_)
  ·rfl
  ·have:=(R.objs b o' q).2.1;rw[e]at this;injection this
 ·have:=(R.dicts a o' ea ia).1;rw[q,e]at this;injection this
 ·have:=(R.frames f hf).1;rw[q,e]at this;injection this
theorem aH.narrow{b:Addr}(k:base.StaysIn base')(f:aH base' H D fs b):aH base H D fs b:=⟨bH k f.1,f.2⟩
theorem aE.touch(R:aE c base fs H h D){n:Addr}(F:aH base H D fs n)(hs:OT n h h'):aE c base fs H h' D:=by
 refine NO (fun F1 zz=>NO (fun F2 zz=>NO (fun F3 F4=>?_) (zz)) (zz)) (F);have ne:∀a o,H a=some o→a≠n:=fun a o e q=>by rw[q,F2]at e;exact ac e
 refine ⟨fun b o e=>(hs.2 b fun q=>by rw[q,F1]at e;exact ac e).trans (R.stays b o e),R.ground,fun a o e=>?_,R.dicts,R.apart,fun f hf=>?_,R.order⟩
 ·refine NO (fun x zz=>NO (fun y z=>?_) (zz)) (R.objs a o e);exact ⟨x.keeps (fun ob q=>(hs.2 a (ne a o e)).trans q) (fun i ob q=>(hs.2 _ (F3 a o e i)).trans q),y,z⟩
 ·obtain ⟨a,m,nn,e⟩:=R.frames f hf;exact ⟨a,m,nn.sameBut hs (F4 f hf),e⟩
theorem aE.adopt(R:aE c base fs H h D){n:Addr}{o:O}(F:aH base H D fs n)(hs:OT n h h')(hi:o.isInst=false)(ho:ce c h' n (D n) o):aE c base fs (upd H n o) h' D:=by
 have R':=R.touch F hs;obtain ⟨F1,F2,F3,F4⟩:=F;refine ⟨R'.stays,R'.ground,fun a o' e=>?_,fun a o' e i=>?_,fun a o₁ a' o₂ e e' i i' q=>?_,R'.frames,R'.order⟩
 ·by_cases q:a=n
  ·subst q;rw[aj]at e;injection e with e;subst e;exact ⟨ho,F1,F4⟩
  ·rw[am q]at e;exact R'.objs a o' e
 ·by_cases q:a=n
  ·subst q;rw[aj]at e;injection e with e;subst e;rw[hi]at i;exact (Nt i).elim
  ·rw[am q]at e;refine NO (fun x zz=>NO (fun y z=>?_) (zz)) (R'.dicts a o' e i);exact ⟨x,by rw[am (F3 a o' e i)];exact y,z⟩
 ·have ne:a≠n:=fun q=>by subst q;rw[aj]at e;injection e with e;subst e;rw[hi]at i;exact (Nt i).elim
  have ne':a'≠n:=fun q=>by subst q;rw[aj]at e';injection e' with e';subst e';rw[hi]at i';exact (Nt i').elim
  rw[am ne]at e;rw[am ne']at e';exact R'.apart a o₁ a' o₂ e e' i i' q
inductive GV(c:Cx)(base:Heap)(fs:List Fm)(H:AH)(bs:List (Addr×Obj))(g:Array Rg)(o:RH)(h:Heap):Prop
 | mk(hg:g=#[])(ho:o=c.os)(D:Addr→Addr)(R:aE c base fs H h D)(F:∀p∈bs,aH base H D fs p.1∧h.get? p.1=some p.2)
theorem GV.el{c:Cx}{base:Heap}{fs:List Fm}{H:AH}{bs:List (Addr×Obj)}{g:Array Rg}{o:RH}{h:Heap}{P_:Prop}(h_:GV c base fs H bs g o h)(k_:∀(hg:g=#[]) (ho:o=c.os) (D:Addr→Addr) (R:aE c base fs H h D) (F:∀p∈bs,aH base H D fs p.1∧h.get? p.1=some p.2),P_):P_:=GV.rec (motive:=fun ζ=>P_) k_ h_
def Rp(c:Cx)(base:Heap)(fs:List Fm)(H:AH)(bs:List (Addr×Obj))(s:Shared):Prop:=GV c base fs H bs s.gens s.os s.heap
theorem Rp.plain{bs:List (Addr×Obj)}{s:Shared}(r:Rp c base fs H bs s):aq c base fs H s:=by
 refine (r).el fun g o D R F=>?_;exact ⟨g,o,D,R⟩
theorem Rp.ground{bs:List (Addr×Obj)}{s:Shared}(r:Rp c base fs H bs s):c.h₀.StaysIn base:=by
 refine (r).el fun g o D R F=>?_;exact R.ground
theorem aq.rp{s:Shared}(r:aq c base fs H s):Rp c base fs H [] s:=by
 refine (r).el fun g o D R=>?_;exact ⟨g,o,D,R,fun p hp=>nomatch hp⟩
theorem Rp.at_{bs:List (Addr×Obj)}{s:Shared}(r:Rp c base fs H bs s){p:Addr×Obj}(hp:p∈bs):s.heap.get? p.1=some p.2:=by
 refine (r).el fun g o D R F=>?_;exact (F p hp).2
theorem Rp.sub{bs bs':List (Addr×Obj)}{s:Shared}(r:Rp c base fs H bs s)(k:∀p∈bs',p∈bs):Rp c base fs H bs' s:=by
 refine (r).el fun g o D R F=>?_;exact ⟨g,o,D,R,fun p hp=>F p (k p hp)⟩
theorem Rp.swap{p q:Addr×Obj}{s:Shared}(r:Rp c base fs H [p,q] s):Rp c base fs H [q,p] s:=r.sub fun z hz=>by
 rcases List.mem_cons.mp hz with rfl | hz
 ·exact .tail _ (.head _)
 ·exact List.mem_singleton.mp hz▸.head _
theorem Rp.new{bs:List (Addr×Obj)}{s:Shared}{h':Heap}{t:Nat}{n:Addr}{o:Obj}(r:Rp c base fs H bs s)(hn:s.heap.get? n=none)(k:∀b ob,s.heap.get? b=some ob→h'.get? b=some ob)(ho:h'.get? n=some o) :
  Rp c base fs H ((n,o)::bs) { s with heap:=h',toks:=t }:=by
 refine (r).el fun g os D R F=>?_;refine ⟨g,os,D,R.mono k,fun p hp=>?_⟩;rcases List.mem_cons.mp hp with rfl | hp
 ·exact ⟨R.fresh hn,ho⟩
 ·exact ⟨(F p hp).1,k _ _ (F p hp).2⟩
theorem Rp.mono{bs:List (Addr×Obj)}{s:Shared}{h':Heap}{t:Nat}(r:Rp c base fs H bs s)(k:∀b ob,s.heap.get? b=some ob→h'.get? b=some ob):Rp c base fs H bs { s with heap:=h',toks:=t }:=by
 refine (r).el fun g os D R F=>?_;exact ⟨g,os,D,R.mono k,fun p hp=>⟨(F p hp).1,k _ _ (F p hp).2⟩⟩
theorem Rp.toks{bs:List (Addr×Obj)}{s:Shared}{t:Nat}(r:Rp c base fs H bs s):Rp c base fs H bs { s with toks:=t }:=r
theorem Rp.set{bs:List (Addr×Obj)}{s:Shared}{h':Heap}{t:Nat}{n:Addr}{o o':Obj}(r:Rp c base fs H ((n,o)::bs) s)(hb:∀p∈bs,p.1≠n)(hs:OT n s.heap h')(ho:h'.get? n=some o') :
  Rp c base fs H ((n,o')::bs) { s with heap:=h',toks:=t }:=by
 refine (r).el fun g os D R F=>?_;refine ⟨g,os,D,R.touch (F _ (.head _)).1 hs,fun p hp=>?_⟩;rcases List.mem_cons.mp hp with rfl | hp
 ·exact ⟨(F _ (.head _)).1,ho⟩
 ·exact ⟨(F p (.tail _ hp)).1,(hs.2 _ (hb p hp)).trans (F p (.tail _ hp)).2⟩
theorem Rp.adopt{bs:List (Addr×Obj)}{s:Shared}{h':Heap}{t:Nat}{n:Addr}{ob:Obj}{o:O}(r:Rp c base fs H ((n,ob)::bs) s)(hb:∀p∈bs,p.1≠n)(hs:OT n s.heap h')(hi:o.isInst=false)(ho:∀d,ce c h' n d o) :
  H n=none∧Rp c base fs (upd H n o) bs { s with heap:=h',toks:=t }:=by
 obtain ⟨g,os,D,R,F⟩:=r;have f:=(F _ (.head _)).1;refine ⟨f.2.1,g,os,D,R.adopt f hs hi (ho _),fun p hp=>?_⟩;obtain ⟨⟨p1,p2,p3,p4⟩,q⟩:=F p (.tail _ hp);refine ⟨⟨p1,by rw[am (hb p hp)];exact p2,fun a o' e i=>?_,p4⟩,(hs.2 _ (hb p hp)).trans q⟩;by_cases z:a=n
 ·subst z;rw[aj]at e;injection e with e;subst e;rw[hi]at i;exact (Nt i).elim
 ·rw[am z]at e;exact p3 a o' e i
end
section
variable{c:Cx}{d:Nat}{x:Fx}{lo:Lo}{H:AH}{E:XP}
theorem iu.narrow{base base':Heap}{e:Value}{s:Shared}(k:base.StaysIn base')(g:c.h₀.StaysIn base)(h:iu c base' x E e s):iu c base x E e s:=by
 obtain ⟨ea,msg,H',lo',e1,e2,e3,e4,D,R,oe,vs,dx,es,n,mv,C,q1,q2,q3,q4,q5,q6,q7,q8,q9,q10,q11,q12⟩:=h;refine ⟨ea,msg,H',lo',e1,e2,e3,e4,D,R.narrow k g,oe,vs,dx,es,n,mv,C,q1,q2,q3,q4,q5,q6.narrow k,q7,q8,q9,q10.narrow k,q11,?_⟩;rcases q12 with h | ⟨T,oT,ts,t1,t2,t3⟩
 ·exact .inl h
 ·exact .inr ⟨T,oT,ts,t1,t2.narrow k,t3⟩
inductive Gj{α:Type}(c:Cx)(base:Heap)(x:Fx)(bs:List (Addr×Obj))(Q:α→Lo→AH→Prop)(a:α)(s':Shared):Prop
 | mk(lo':Lo)(H':AH)(r:Rp c base (x.fs lo') H' bs s')(q:Q a lo' H')
theorem Fg{α:Type}{c:Cx}{base:Heap}{x:Fx}{bs:List (Addr×Obj)}{A:Around}{t:Sem α}{lo:Lo}{R:α→AH→Prop}{E1 E2:Value→Shared→Prop}{Q:α→Shared→Prop}{s:Shared}(h:wpAny c.M A t (Gj c base x bs fun a l h=>l=lo∧R a h) E1 s)(e:∀e s,E1 e s→E2 e s)(k:∀a s' H,Rp c base (x.fs lo) H bs s'→R a H→Q a s'):wpAny c.M A t Q E2 s:=
 OJ h (fun a s' z=>by obtain ⟨l,H,r,rfl,q⟩:=z;exact k a s' H r q) e
theorem W.beside{α:Type}{t:Sem α}{Q:α→Lo→AH→Prop}(hw:W c d x t lo H Q E){base:Heap}{s:Shared}{A:Around}{bs:List (Addr×Obj)}(ok:Ok d x A)(r:Rp c base (x.fs lo) H bs s) :
  wpAny c.M A t (Gj c base x bs Q) (iu c base x E) s:=by
 obtain ⟨g,os,D,R,F⟩:=r;obtain ⟨base',R',k1,k2⟩:=R.hide (bs.map (·.1)) fun b hb=>by
  obtain ⟨p,hp,rfl⟩:=List.mem_map.mp hb;exact ⟨(F p hp).1,_,(F p hp).2⟩
 have gr:=R.ground;refine OJ (hw base' s A ok ⟨g,os,D,R'⟩) (fun a s' h=>?_) fun e s' h=>h.narrow k1 gr;obtain ⟨lo',H',⟨g',os',D',R₂⟩,q⟩:=h;refine ⟨lo',H',⟨g',os',D',R₂.narrow k1 gr,fun p hp=>?_⟩,q⟩;have e:=(k2 p.1 (List.mem_map.mpr ⟨p,hp,rfl⟩)).trans (F p hp).2;exact R₂.unhide e (F p hp).1.1
end
end
section
section
variable{c:Cx}{d:Nat}{x:Fx}{lo:Lo}{H:AH}{E:XP}
theorem gE{P:R6}{w:World}{K:Type}[DecidableEq K]{knd:KeyKind P w K}{h:Heap}{a:Addr}(e:h.get? a=some { cls:=.type "dict",data:=.dict #[] }):Qg knd h a []:=
 ⟨_,#[],0,e,⟨rfl,rfl,rfl⟩,rfl,by intro e he;simp at he,.nil,Qt⟩
theorem Rp.push{base:Heap}{fs:List Fm}{s:Shared}{ob:Obj}(R:aq c base fs H s)(hf:ob.isFreed=false:=by rfl):Rp c base fs H [(s.heap.objs.size,ob)] { s with heap:=s.heap.push ob }:=
 Rp.new (t:=s.toks) R.rp (NX (Oe _)) (fun b o e=>NR _ e) (N9 _ hf)
end
section
variable{c:Cx}{d:Nat}{x:Fx}{se:SE}{F:Fr}{gx:List (Str×Gn)}{H:AH}{E:XP}{k:I}{st:List V}{L:Ls}{Q:QR}{n:Nat}
theorem W.keyN{v:Const}{m p:_}{env:Env}{base:Heap}{fs:List Fm}{s:Shared}{A:Around}{bs:List (Addr×Obj)}{Q':Value→Shared→Prop}{E':Value→Shared→Prop}(r:Rp c base fs H bs s)(h:ao c F d (cC v k) E st L H Q)
  (hq:∀u s',ao c F d k E (er u::st) L H Q→Rp c base fs H bs s'→Q' u s'):wpAny c.M A (eval (.Constant v m p) env) Q' E' s:=by
 rw[Q7]
 induction v with
 | none=>exact NP (hq _ _ h r)
 | bool=>exact NP (hq _ _ h r)
 | int=>exact wpAny_mkInt (hq _ _ h r.toks)
 | str=>exact QI (hq _ _ h r.toks)
 | _=>exact h.elim
theorem dX{v:Const}{m kp pos:_}{e₁:Nu}{ks:List (Option Nu)}{vs:List Nu}{base:Heap}{s:Shared}{A:Around}{bs:List (Addr×Obj)}
  {Q':List (Value×Value)→Shared→Prop}(he:dc c n e₁) (fs:Fs c x se F gx) (ok:Ok d x A) (r:Rp c base (x.fs (cb se L)) H bs s) (hk:ao c F d (cC v (cE n (tr se gx) e₁ k)) E st L H Q)
  (rest:∀kv u s' H',ao c F d k E (er u::er kv::st) L H' Q→Rp c base (x.fs (cb se L)) H' bs s'→wpAny c.M A (S3 (Ua ks vs x.env pos)) (fun l s''=>Q' ((kv,u)::l) s'') (iu c base x E) s') :
  wpAny c.M A (S3 (Ua (some (.Constant v m kp)::ks) (e₁::vs) x.env pos)) Q' (iu c base x E) s:=by
 show wpAny c.M A (S3 ((eval (.Constant v m kp) x.env,do let y ← eval e₁ x.env;Sv pos;pure y)::Ua ks vs x.env pos)) Q' (iu c base x E) s;unfold S3;refine Nv (W.keyN r hk fun kv s₁ hkv r₁=>?_);refine Nv (Oy (Nv ?_));refine Fg ((he fs hkv).beside ok r₁) (fun a b e=>e) fun v s₂ H' r₂ hv=>?_;refine Nv (OH (NP (Nv (Oy (OJ (rest kv v s₂ H' hv r₂) (fun l s₃ q=>NP q) fun ζ ζ e=>e)))))
theorem m5{pos:_}{s:Shared}{A:Around}{Q':List (Value×Value)→Shared→Prop}{E':Value→Shared→Prop}(h:Q' [] s):wpAny c.M A (S3 (Ua [] [] x.env pos)) Q' E' s:=NP h
inductive xQ:List (Option Nu)→List Nu→Prop
 | zero:xQ [] []
 | one (v m p e):xQ [some (.Constant v m p)] [e]
 | three (v m p e v' m' p' e' v'' m'' p'' e''):xQ [some (.Constant v m p),some (.Constant v' m' p'),some (.Constant v'' m'' p'')] [e,e',e'']
theorem Ad{k:Option Nu}(h:(gY k).isSome=true):∃v m p,k=some (.Constant v m p):=by
 obtain ⟨v,hv⟩:=Option.isSome_iff_exists.mp h;exact ⟨v,jH hv⟩
theorem lX{α:Type}{l:List α}{n:Nat}(h:n+1=l.length):∃a r,l=a::r∧n=r.length:=by
 induction l with
 | nil=>exact (Pu _ h).elim
 | cons a r=>exact ⟨a,r,rfl,Nat.succ.inj h⟩
@[elab_as_elim] theorem pj{k:Option Nu}{P:Option Nu→Prop}(h:(gY k).isSome=true)(K:∀v m p,P (some (.Constant v m p))):P k:=by
 obtain ⟨v,m,p,rfl⟩:=Ad h;exact K v m p
@[elab_as_elim] theorem pi{α:Type}{l:List α}{n:Nat}{P:List α→Prop}(h:n+1=l.length)(K:∀a r,n=r.length→P (a::r)):P l:=by
 obtain ⟨a,r,rfl,e⟩:=lX h;exact K a r e
@[elab_as_elim] theorem ph{α:Type}{l:List α}{P:List α→Prop}(h:0=l.length)(K:P []):P l:=(List.length_eq_zero_iff.mp h.symm)▸K
theorem py{ks:List (Option Nu)}{vs:List Nu}(h:uQ ks vs=true):xQ ks vs:=by
 have k3:=aa h;have k2:=aa k3.1;have k1:=aa k2.1;have h1:=OG k1.1;have h2:=k1.2;have h3:=k2.2;have h4:=k3.2;clear h k1 k2 k3
 induction ks using List.casesOn with
 | nil=>exact ph h1 .zero
 | cons a r=>
  have z:=aa h2;refine pi h1 fun e vs h5=>?_;have z1:=z.1;have z:=z.2;clear h2 h1;revert h3 h4;refine pj z1 fun v m p h3 h4=>?_
  induction r using List.casesOn with
  | nil=>exact ph h5 (.one ..)
  | cons b r=>
   have z:=aa z;refine pi h5 fun e' vs h6=>?_;have z1:=z.1;have z:=z.2;clear h5;revert h3 h4;refine pj z1 fun v' m' p' h3 h4=>?_
   induction r using List.casesOn with
   | nil=>exact (Nt h4).elim
   | cons b r=>
    refine pi h6 fun e'' vs h7=>?_
    induction r with
    | nil=>exact ph h7 (pj (aa z).1 fun ζ ζ ζ=>.three ..)
    | cons=>exact (Nt h3).elim
inductive JZ(a b e u v w:V)(H:AH)(Q:Q1):Prop
 | mk(i j l:Int)(ea:a=.int i)(eb:b=.int j)(ee:e=.int l)(n1:i≠j)(n2:i≠l)(n3:j≠l)(q:bI (.idict [(i,u),(j,v),(l,w)]) H Q)
theorem Fq{a b e u v w:V}{Q:Q1}(h:xn [a,u,b,v,e,w] H Q):JZ a b e u v w H Q:=by
 obtain ⟨i,j,ea,eb,h⟩:=fg h;obtain ⟨_,l,_,ee,n1,n2,n3,q⟩:=fg h;exact ⟨i,j,l,ea,eb,ee,n1,n2,n3,q⟩
theorem vt{ks vs p}(he:∀e,dc c n e):dc c (n+1) (.Dict ks vs p):=fun x se F gx d k E st L H Q fs h=>by
 refine c9 h fun h0 hh=>?_;clear h;intro base s A ok R;have r:=Rp.push (ob:={ cls:=.type "dict",data:=.dict #[] }) R;have D:=py h0;clear h0
 induction D with
 | zero=>
  have h:uL H fun v H'=>ao c F d k E (v::st) L H' Q:=hh;refine wpAny_Dict_empty ?_;have e:=r.at_ (.head _);rcases h with h | h
  ·obtain ⟨ep,hd⟩:=dN (gE (knd:=strKind c.prog c.w) e);exact ⟨_,_,R.new (o:=.sdict [] ep) rfl fun ζ=>⟨[],hd,rfl⟩,rfl,h ep _ R.size⟩
  ·exact ⟨_,_,R.new (o:=.idict []) rfl fun ζ=>⟨[],gE e,rfl⟩,rfl,h _ R.size⟩
 | one v m q e=>
  refine wpAny_Dict_walk (knd:=strKind c.prog c.w) rfl rfl (PN _ _) (NJ rfl) ?_;refine dX (he e) fs ok r hh fun kv u s' H' q r'=>m5 ?_;obtain ⟨y,e1,w⟩:=eY q;clear q;refine bC (e1) fun t=>?_;have e:=r'.at_ (.head _);refine ⟨[(y,u)],⟨iW c _ _,rfl,trivial⟩,gE e,fun h' hd hs=>?_⟩;obtain ⟨ep,hd'⟩:=dN hd;obtain ⟨hn,r₂⟩:=r'.adopt (t:=s'.toks+1) (o:=.sdict [(y,er u)] ep) (fun a h=>nomatch h) hs rfl fun ζ=>⟨_,hd',rfl⟩;exact ⟨_,_,r₂.plain,rfl,w ep _ hn⟩
 | three v m q e v' m' q' e' v'' m'' q'' e''=>
  refine wpAny_Dict_walk (knd:=intKind c.prog c.w) rfl rfl (PN _ _) (NJ rfl) ?_;refine dX (he e) fs ok r hh fun kv u s₁ H₁ q r₁=>dX (he e') fs ok r₁ q fun kv' u' s₂ H₂ q r₂=>dX (he e'') fs ok r₂ q fun kv'' u'' s₃ H₃ q r'=>m5 ?_;clear r r₁ r₂ hh;obtain ⟨i,j,l,e1,e2,e3,n1,n2,n3,w⟩:=Fq q;clear q;refine bb (e1) fun t=>?_;obtain ⟨t',rfl⟩:=fM e2;obtain ⟨t'',rfl⟩:=fM e3;have e:=r'.at_ (.head _);refine ⟨[(i,u),(j,u'),(l,u'')],⟨jw c _ _,rfl,jw c _ _,rfl,jw c _ _,rfl,trivial⟩,gE e,fun h' hd hs=>?_⟩;have hm:merged [] [(i,u),(j,u'),(l,u'')]=[(i,u),(j,u'),(l,u'')]:=by
   simp [merged,stored,n1,n2,n3,Pk n1,Pk n2,Pk n3]
  rw[hm]at hd;obtain ⟨hn,r₂⟩:=r'.adopt (t:=s₃.toks+3) (o:=.idict [(i,er u),(j,er u'),(l,er u'')]) (fun a h=>nomatch h) hs rfl fun ζ=>⟨_,hd,rfl⟩;exact ⟨_,_,r₂.plain,rfl,w _ hn⟩
end
end
section
structure yU(T:String)(a:Addr)(i:Nat)(o:Obj):Prop where
 cls:o.cls=.type T
 data:o.data=.fields #[.ref a,.int i 0]
structure Gr(a:Addr)(n ep i:Nat)(o:Obj):Prop where
 cls:o.cls=.type "dict_keyiterator"
 data:o.data=.fields #[.ref a,.int i 0,.int n 0,.int ep 0]
structure Gi(l h:Int)(i:Nat)(o:Obj):Prop where
 le:i≤(h-l).toNat
 eq:o={ cls:=.type "range_iterator",data:=.fields #[rawInt (l+i),rawInt ((h-l).toNat-i:Int),rawInt 1] }
noncomputable def GK(a:Addr)(i:Nat)(o:Obj):O→Prop
 | .list _=>yU "list_iterator" a i o
 | .tup _=>yU "tuple_iterator" a i o
 | .sdict es ep=>Gr a es.length ep i o
 | .rng l h=>Gi l h i o
 | _=>False
inductive bx(iv:V)(H:AH)(i:Nat)(o:Obj):Prop
 | mk(a:Addr)(o':O)(e:iv=.ref a)(h:H a=some o')(q:GK a i o o')
inductive Nl(iv:V)(H H':AH)(xs:List V)(i:Nat)(o:Obj):Prop
 | mk(a:Addr)(o':O)(e:iv=.ref a)(h:H a=some o')(h':H' a=some o')(p:w8 xs o')(q:GK a i o o')
theorem yA{iv:V}{H H':AH}{xs:List V}{i:Nat}{o:Obj}(h:bw iv H xs)(hs:bZ iv H H')(ho:bx iv H i o):Nl iv H H' xs i o:=by
 obtain ⟨a,o',rfl,e,p⟩:=h;obtain ⟨a2,o2,e2,e3,q⟩:=ho;injection e2 with e2;subst e2;replace e3:=(e)▸e3;injection e3 with e3;subst e3;exact ⟨a,o',rfl,e,R0 hs e,p,q⟩
section
variable{c:Cx}{d:Nat}{x:Fx}{lo:Lo}{H:AH}{E:XP}{base:Heap}{fs:List Fm}{s:Shared}{A:Around}{bs:List (Addr×Obj)}{E':Value→Shared→Prop}
theorem Rp.pushed{ob:Obj}(r:Rp c base fs H bs s)(hf:ob.isFreed=false):Rp c base fs H ((s.heap.objs.size,ob)::bs) { s with heap:=s.heap.push ob }:=
 Rp.new (t:=s.toks) r (NX (Oe _)) (fun b o e=>NR _ e) (N9 _ hf)
theorem jv(l h:Int):(aW l h).length=(h-l).toNat:=by simp [aW]
theorem po{l h:Int}{i:Nat}{y:V}(e:(aW l h)[i]? = some y):i<(h-l).toNat∧y=.int (l+i):=by
 unfold aW at e;rw[Pd]at e;obtain ⟨j,hj,rfl⟩:=Option.map_eq_some_iff.mp e;rw[List.getElem?_eq_some_iff]at hj;obtain ⟨h1,h2⟩:=hj;rw[List.getElem_range]at h2;rw[OC]at h1;rw[← h2];exact ⟨h1,rfl⟩
theorem jq{iv:V}{u:Value}{xs:List V}(hu:er u=iv)(h:bw iv H xs)(r:Rp c base fs H bs s){Q:Value→Shared→Prop}
  (hq:∀o s',bx iv H 0 o→(∀p∈bs,p.1≠s.heap.objs.size)→Rp c base fs H ((s.heap.objs.size,o)::bs) s'→Q (.ref s.heap.objs.size) s'):wpAny c.M A (pyIter u) Q E' s:=by
 have R:=r.plain;have hb:∀p∈bs,p.1≠s.heap.objs.size:=fun p hp e=>by have:=r.at_ hp;rw[e]at this;exact absurd (O5 this) (QN _)
 obtain ⟨a,o,rfl,e,p⟩:=h;refine az hu ?_;have go:∀{ob:Obj},GK a 0 ob o→ob.isFreed=false→Q (.ref s.heap.objs.size) { s with heap:=s.heap.push ob }:=fun q hf=>hq _ _ ⟨a,o,rfl,e,q⟩ hb (r.pushed hf);clear hq hb
 induction o with
 | list ys=>
  obtain ⟨items,n,g,q⟩:=R.list e;exact wpAny_pyIter_list (al g) (go ⟨rfl,rfl⟩ rfl)
 | tup ys=>
  obtain ⟨items,n,g,q⟩:=R.tup e;exact wpAny_pyIter_tuple (ba g) (go ⟨rfl,rfl⟩ rfl)
 | sdict es ep=>
  obtain ⟨kvs,g,q⟩:=R.sdict e;exact wpAny_pyIter_dict (R.noSys e) g (go ⟨rfl,by rw[← q,Nq];rfl⟩ rfl)
 | rng l h=>
  obtain ⟨g,o,D',R'⟩:=id R;obtain ⟨t,u,v,hr⟩:=(R'.objs a _ e).1;have h1:=p.1;have h2:=p.2.1;have h3:=p.2.2.1;have h4:=p.2.2.2.1;have h5:=p.2.2.2.2;exact wpAny_pyIter_range hr (hZ h1 h2 h3 h4) (go ⟨Ol _,by rw[dz];simp⟩ rfl)
 | _=>exact p.elim
theorem gR{iv:V}{xs:List V}{H':AH}{n:Addr}{o:Obj}{i:Nat}{y:V}(h:bw iv H xs)(hs:bZ iv H H')(hi:xs[i]? = some y)(ho:bx iv H i o)(hb:∀p∈bs,p.1≠n)
  (r:Rp c base fs H' ((n,o)::bs) s) {Q:Option Value→Shared→Prop}
  (hq:∀v o' s',er v=y→bx iv H (i+1) o'→Rp c base fs H' ((n,o')::bs) s'→Q (some v) s'):wpAny c.M A (pyNext (.ref n)) Q E' s:=by
 have R:=r.plain;have hn:=r.at_ (.head _);obtain ⟨a,ob,rfl,e,e',p,ho⟩:=yA h hs ho;have go:∀{v:Value}{o':Obj}{h':Heap}{t:Nat},er v=y→GK a (i+1) o' ob→OT n s.heap h'→h'.get? n=some o'→Q (some v) { s with heap:=h',toks:=t }:=fun hy q hs' g'=>hq _ _ _ hy ⟨a,ob,rfl,e,q⟩ (r.set hb hs' g');clear hq hb h hs
 induction ob with
 | list ys=>
  obtain ⟨items,k,g,q⟩:=R.list e';obtain ⟨_,rfl⟩:=p;obtain ⟨v,hv,hy⟩:=gV q hi;exact wpAny_pyNext_list_item ⟨o,hn,ho.cls,ho.data⟩ (al g) hv fun h' z hs'=>z.elim fun o' z=>go (t:=s.toks) hy ⟨z.2.1,z.2.2⟩ hs' z.1
 | tup ys=>
  obtain ⟨items,k,g,q⟩:=R.tup e';obtain ⟨_,rfl⟩:=p;obtain ⟨v,hv,hy⟩:=gV q hi;exact wpAny_pyNext_tuple_item ⟨o,hn,ho.cls,ho.data⟩ (ba g) hv fun h' z hs'=>z.elim fun o' z=>go (t:=s.toks) hy ⟨z.2.1,z.2.2⟩ hs' z.1
 | sdict es ep=>
  obtain ⟨kvs,g,q⟩:=R.sdict e';obtain ⟨_,rfl⟩:=p;have hl:kvs.length=es.length:=by rw[← q,Nq]
  rw[← q,Oc,Pd]at hi;obtain ⟨⟨k,v⟩,hk,hy⟩:=Option.map_eq_some_iff.mp hi;refine wpAny_pyNext_dict_item (knd:=strKind c.prog c.w) ⟨o,hn,ho.cls,by rw[hl];exact ho.data⟩ g hk fun key h' hkey z hs'=>z.elim fun o' z=>go (t:=s.toks) ?_ ⟨z.2.1,hl▸z.2.2⟩ hs' z.1;rw[← hy];have:(SP c.prog c.w).is k key=true:=hkey
  induction key with
  | str u t=>rw[show u=k from Nx this];rfl
  | _=>cases this
 | rng l r'=>
  obtain ⟨h1,h2,h3,h4,rfl⟩:=p;obtain ⟨hlt,rfl⟩:=po hi;obtain ⟨_,rfl⟩:=ho;refine wpAny_pyNext_range_item (x:=l+i) (left:=((r'-l).toNat-i:Int)) (step:=1) hn (Int.sub_pos_of_lt (Int.ofNat_lt.mpr hlt)) fun h' hr hs'=>go (t:=s.toks+1) rfl ⟨hlt,?_⟩ hs' hr;rw[show l + ↑i+1=l+((i+1:Nat):Int) from Int.add_assoc _ _ _,show (((r'-l).toNat:Int) - ↑i-1)=((r'-l).toNat:Int)-((i+1:Nat):Int) from Int.sub_sub _ _ _]
 | _=>exact p.elim
theorem Rp.drop{n:Addr}{o:Obj}{h':Heap}(r:Rp c base fs H ((n,o)::bs) s)(hb:∀p∈bs,p.1≠n)(hs:Heap.ExtBut n s.heap h'):Rp c base fs H bs { s with heap:=h' }:=by
 obtain ⟨g,os,D,R,F⟩:=r;have zz:=(F _ (.head _)).1;have F1:=zz.1;have F2:=zz.2.1;have F3:=zz.2.2.1;have F4:=zz.2.2.2;refine ⟨g,os,D,⟨fun b o e=>hs b o (fun q=>by replace e:=(q)▸e;have e:=(F1).symm.trans e;exact ac e) (R.stays b o e),R.ground,fun a o e=>?_,R.dicts,R.apart,fun f hf=>?_,R.order⟩,fun p hp=>⟨(F p (.tail _ hp)).1,hs _ _ (hb p hp) (F p (.tail _ hp)).2⟩⟩
 ·obtain ⟨x,y,z⟩:=R.objs a o e;exact ⟨x.keeps (fun ob q=>hs a ob ((fun a o e q=>by replace e:=(q)▸e;have e:=(F2).symm.trans e;exact ac e) a o e) q) (fun i ob q=>hs _ ob (F3 a o e i) q),y,z⟩
 ·obtain ⟨a,m,nn,e⟩:=R.frames f hf;obtain ⟨o,es,ep,q1,q2⟩:=nn;exact ⟨a,m,⟨o,es,ep,hs _ _ (F4 f hf) q1,q2⟩,e⟩
theorem jr{iv:V}{xs:List V}{H':AH}{n:Addr}{o:Obj}(h:bw iv H xs)(hs:bZ iv H H')(ho:bx iv H xs.length o)(hb:∀p∈bs,p.1≠n)(hA:A.handled=none)
  (r:Rp c base fs H' ((n,o)::bs) s) {Q:Option Value→Shared→Prop}(hq:∀s',Rp c base fs H' bs s'→Q none s'):wpAny c.M A (pyNext (.ref n)) Q E' s:=by
 have R:=r.plain;have hn:=r.at_ (.head _);obtain ⟨a,ob,rfl,e,e',p,ho⟩:=yA h hs ho;have go:∀{h':Heap},Heap.ExtBut n s.heap h'→Q none { s with heap:=h' }:=fun hs'=>hq _ (r.drop hb hs');clear hq hb h hs r
 induction ob with
 | list ys=>
  obtain ⟨items,k,g,q⟩:=R.list e';obtain ⟨_,rfl⟩:=p;exact wpAny_pyNext_list_end hA ⟨o,hn,ho.cls,ho.data⟩ (al g) (by rw[← aQ q];simp) fun h' hs'=>go hs'
 | tup ys=>
  obtain ⟨items,k,g,q⟩:=R.tup e';obtain ⟨_,rfl⟩:=p;exact wpAny_pyNext_tuple_end hA ⟨o,hn,ho.cls,ho.data⟩ (ba g) (by rw[← aQ q];simp) fun h' hs'=>go hs'
 | sdict es ep=>
  obtain ⟨kvs,g,q⟩:=R.sdict e';obtain ⟨_,rfl⟩:=p;have hl:kvs.length=es.length:=by rw[← q,Nq]
  rw[Nq]at ho;exact wpAny_pyNext_dict_end (knd:=strKind c.prog c.w) (i:=es.length) hA ⟨o,hn,ho.cls,by rw[hl];exact ho.data⟩ g (by rw[Pi];exact NL ‹_›) fun h' hs'=>go hs'
 | rng l r'=>
  obtain ⟨h1,h2,h3,h4,rfl⟩:=p;obtain ⟨_,rfl⟩:=ho;rw[jv]at hn;exact wpAny_pyNext_range_end (step:=1) hA hn (Int.le_of_eq (Int.sub_self _)) fun h' hs'=>go hs'
 | _=>exact p.elim
theorem jt{iv:V}{n:Addr}{o:Obj}(ho:bx iv H 0 o)(hn:s.heap.get? n=some o){Q:Value→Shared→Prop}(hq:Q (.ref n) s):wpAny c.M A (pyIter (.ref n)) Q E' s:=by
 obtain ⟨a,ob,rfl,e,q⟩:=ho
 induction ob with
 | list ys=>exact wpAny_pyIter_listiter ⟨o,hn,q.cls,q.data⟩ hq
 | tup ys=>exact wpAny_pyIter_tupleiter ⟨o,hn,q.cls,q.data⟩ hq
 | sdict es ep=>exact wpAny_pyIter_keyiter ⟨o,hn,q.cls,q.data⟩ hq
 | rng l r=>
  obtain ⟨_,rfl⟩:=q;exact wpAny_pyIter_rangeiter hn hq
 | _=>exact q.elim
end
end
section
theorem pD(env:Env):∀(names:List (Str×Ov)) (cs:List (Str×Addr)),(∀p∈names,p.2=.free→(env.cells.lookup p.1).isSome=true)→
  ∃cl,(forIn names cs fun (p:Str×Ov) (r:List (Str×Addr))=>(do
   if p.2 == .free then do
    let a ← cellOf env p.1
    pure (ForInStep.yield ((p.1,a)::r))
   else pure (ForInStep.yield r):Sem _))=pure cl∧(∀n,(n,NameKind.free)∈names→cl.lookup n=env.cells.lookup n)∧∀n,(n,NameKind.free) ∉ names→cl.lookup n=cs.lookup n:=by
 intro names
 induction names with
 | nil=>intro cs h;exact ⟨cs,rfl,by simp,fun ζ ζ=>rfl⟩
 | cons p r ih=>
  intro cs h;obtain ⟨nm,k⟩:=p;by_cases hk:k=.free
  ·subst hk;refine Nz (Option.isSome_iff_exists.mp (h _ (.head _) rfl)) fun a ha=>?_;obtain ⟨cl,h1,h2,h3⟩:=ih ((nm,a)::cs) fun p hp=>h p (.tail _ hp);refine ⟨cl,?_,fun n hn=>?_,fun n hn=>?_⟩
   ·rw[Q9];simp only [Oh,TC,(show cellOf env nm=pure a from by unfold cellOf;rw[ha]),pure_bind];exact h1
   ·refine (List.mem_cons.mp hn).elim (fun e=>?_) fun hn=>?_
    ·cases e
     by_cases hm:(nm,NameKind.free)∈r
     ·exact h2 _ hm
     ·rw[h3 _ hm];simp [ha]
    ·exact h2 _ hn
   ·rw[h3 n fun hm=>hn (.tail _ hm)];have:(n==nm)=false:=beq_eq_false_iff_ne.mpr fun e=>hn (by rw[e];exact .head _);rw[NK,this]
  ·refine Nz (ih cs fun p hp=>h p (.tail _ hp)) fun cl zz=>NO (fun h1 zz=>NO (fun h2 h3=>?_) (zz)) (zz);refine ⟨cl,?_,fun n hn=>?_,fun n hn=>?_⟩
   ·rw[Q9];have:(k==NameKind.free)=false:=beq_eq_false_iff_ne.mpr hk;simp only [this,Qq,TE,pure_bind];exact h1
   ·refine (List.mem_cons.mp hn).elim (fun e=>?_) fun hn=>?_
    ·injection e with e zz;subst e;subst zz;exact absurd rfl hk
    ·exact h2 _ hn
   ·exact h3 n fun hm=>hn (.tail _ hm)
theorem fu(sc:Scope)(env:Env)(h:∀p∈sc.names,p.2=.free→(env.cells.lookup p.1).isSome=true) :
  ∃cl,closureFor sc env=pure cl∧∀n,(n,NameKind.free)∈sc.names→cl.lookup n=env.cells.lookup n:=by
 refine Nz (pD env sc.names [] h) fun cl zz=>NO (fun h1 zz=>NO (fun h2 ζ=>?_) (zz)) (zz);refine ⟨cl,?_,h2⟩;unfold closureFor;rw[bind_pure];exact h1
section
variable{c:Cx}{d:Nat}{x:Fx}{lo:Lo}{H:AH}{E:XP}
def hU(sc:Scope)(se:SE)(y:Str):Prop:=sc.kind=.function∧sc.isCoroutine=false∧sc.names.lookup y=some .local∧
  ∀p∈sc.names,(p.2=.local∧sc.names.lookup p.1=some .local)∨p.2=.globalImplicit∨(p.2=.free∧sc.names.lookup p.1=some .free∧(se.ns.lookup p.1=some .cell∨se.ns.lookup p.1=some .free)∧(se.cl.lookup p.1).isSome=true)
theorem Fx.Of.cells{x:Fx}{se:SE}(hx:x.Of se){n:Str}(h:se.ns.lookup n=some .cell∨se.ns.lookup n=some .free):x.env.cells.lookup n=se.cl.lookup n:=by
 have:=hx.2 n;rcases h with e | e<;>replace this:=(e)▸this<;>exact this.2
theorem Ok.frameAt{A:Around}(ok:Ok d x A){base:Heap}{bs:List (Addr×Obj)}{s:Shared}(r:Rp c base (x.fs lo) H bs s){n:Addr}(hn:s.heap.get? n=none):x.env.frame≠some n:=by
 obtain ⟨g,hg,e⟩:=ok.framed;intro q;replace e:=(q)▸e;refine (r).el fun ζ ζ D R ζ=>?_;have:∃g'∈x.fs lo,g'.env=g.env:=by
  rcases List.mem_cons.mp hg with rfl | hg
  ·exact ⟨_,.head _,rfl⟩
  ·exact ⟨g,.tail _ hg,rfl⟩
 refine Nz (this) fun g' zz=>NO (fun hg' e'=>?_) (zz);refine Nz (R.locGet hg') fun ob z=>?_;rw[e',← (Option.some.inj e),hn]at z;exact ac z
noncomputable def b7(x:Fx)(lo:Lo)(sc:Scope)(L:Addr)(cl:List (Str×Addr)):Fx:=
 ⟨{ newEnv sc L x.env.globals cl x.env.qual none .none (some x.env) Q4 with scope:=relabel sc x.env },x.fs lo⟩
theorem eB(sc:Scope)(env:Env)(n:Str):(relabel sc env).names.lookup n=(sc.names.lookup n).map fun k=>if (k == .free&&env.scope.kind == .function&&env.kindOf n==some .cell) then .cell else k:=by
 unfold relabel;dsimp only
 induction sc.names with
 | nil=>rfl
 | cons p r ih=>
  obtain ⟨m,k⟩:=p;rw[NT];by_cases hm:n=m
  ·subst hm;by_cases hc:(k==NameKind.free&&env.scope.kind==ScopeKind.function&&env.kindOf n==some NameKind.cell)=true
   ·simp only [hc,TC,NK,Oh,PS]
   ·simp only [hc,Qq,TE,NK,Oh,PS]
  ·have hb:(n==m)=false:=beq_eq_false_iff_ne.mpr hm;have:∀q:Str×Ov,q.1=m→OB n (q::(r.map fun x=>match x with | (n,k)=>if (k == .free&&env.scope.kind == .function&&env.kindOf n==some .cell) then (n,.cell) else (n,k)))=(r.lookup n).map fun k=>if (k == .free&&env.scope.kind == .function&&env.kindOf n==some .cell) then .cell else k:=fun q hq=>by
    obtain ⟨q1,q2⟩:=q;obtain rfl:q1=m:=hq;rw[NK,hb];exact ih
   rw[NK (a:=n) (b:=k),hb];refine this _ ?_;split<;>rfl
theorem rS{sc:Scope}{se:SE}{y:Str}{L:Addr}{cl:List (Str×Addr)}(hx:x.Of se)(hok:hU sc se y)(hcl:∀n,(n,NameKind.free)∈sc.names→cl.lookup n=x.env.cells.lookup n) :
  (b7 x lo sc L cl).Of { ns:=sc.names,cl:=se.cl }:=by
 have zz:=id hok;have h1:=zz.1;have h2:=zz.2.1;have h3:=zz.2.2.1;have h4:=zz.2.2.2;refine ⟨trivial,fun n=>?_⟩;have key:(b7 x lo sc L cl).env.kindOf n=(sc.names.lookup n).map fun k=>if (k == .free&&x.env.scope.kind == .function&&x.env.kindOf n==some .cell) then .cell else k:=eB sc x.env n;dsimp only;refine ay (o:=sc.names.lookup n) (fun e=>?_) (fun k e=>?_)
 ·exact trivial
 ·
  rw[e]at key;have hmem:(n,k)∈sc.names:=by
   have:∀l:List (Str×Ov),l.lookup n=some k→(n,k)∈l:=by
    intro l
    induction l with
    | nil=>intro h;exact ac h
    | cons p r ih=>
     intro h;obtain ⟨m,k'⟩:=p;rw[NK]at h;by_cases hm:n=m
     ·subst hm;rw[Oh,Option.some.injEq]at h;rw[h];exact .head _
     ·have hb:(n==m)=false:=beq_eq_false_iff_ne.mpr hm;rw[hb]at h;exact .tail _ (ih h)
   exact this _ e
  rcases h4 _ hmem with ⟨a,b⟩ | a | ⟨a,b,f,g⟩
  ·obtain rfl:k=.local:=a;exact key
  ·obtain rfl:k=.globalImplicit:=a;exact key
  ·obtain rfl:k=.free:=a;refine ⟨?_,((hcl n hmem).trans (hx.cells f))⟩;rw[key];rw[PS];split
   ·exact .inl rfl
   ·exact .inr rfl
theorem rR{sc:Scope}{se:SE}{y:Str}{L:Addr}{cl:List (Str×Addr)}{A:Around}(ok:Ok d x A)(hok:hU sc se y)(hL:x.env.frame≠some L):Ok d (b7 x lo sc L cl) A:=by
 have zz:=id hok;have h1:=zz.1;have h2:=zz.2.1;have h3:=zz.2.2.1;have h4:=zz.2.2.2;refine ⟨ok.handled,ok.depth,ok.units,?_,fun f hf=>?_,?_⟩
 ·rw[ok.frames];have:bq (b7 x lo sc L cl).env=false:=beq_eq_false_iff_ne.mpr hL;show some (bg (x.fs fun ζ=>none))=some (((⟨(b7 x lo sc L cl).env,fun ζ=>none⟩::x.fs lo:List Fm).map (·.env)).filter bq);rw[NT,Pf,this];rfl
 ·rcases List.mem_cons.mp hf with rfl | hf
  ·exact ⟨h1,ok.env.globals,ok.env.builtins,h2⟩
  ·rcases List.mem_cons.mp hf with rfl | hf
   ·exact ok.env
   ·exact ok.envs _ (.tail _ hf)
 ·obtain ⟨g,hg,e⟩:=ok.framed;rcases List.mem_cons.mp hg with rfl | hg
  ·exact ⟨⟨x.env,lo⟩,.tail _ (.head _),e⟩
  ·exact ⟨g,.tail _ (.tail _ hg),e⟩
theorem Rp.popFrame{base:Heap}{f:Fm}{fs:List Fm}{bs:List (Addr×Obj)}{s:Shared}{h':Heap}(r:Rp c base (f::fs) H bs s)(hs:OT f.env.locals s.heap h'):Rp c base fs H bs { s with heap:=h' }:=by
 refine (r).el fun g os D R F=>?_;refine NO (fun f1 f2=>?_) (R.frames f (.head _));have fr:aH base H D fs f.env.locals:=⟨f1,by
   refine ay (o:=H f.env.locals) (fun e=>?_) (fun o e=>?_)
   ·rfl
   ·exact absurd rfl ((R.objs _ _ e).2.2 f (.head _)),
  fun a o e i q=>(R.dicts a o e i).2.2 f (.head _) q.symm,fun g hg q=>(List.nodup_cons.mp R.order).1 (List.mem_map.mpr ⟨g,hg,q⟩)⟩
 refine ⟨g,os,D,R.pop.touch fr hs,fun p hp=>?_⟩;have zz:=F p hp;have p1:=zz.1.1;have p2:=zz.1.2.1;have p3:=zz.1.2.2.1;have p4:=zz.1.2.2.2;have q:=zz.2;exact ⟨⟨p1,p2,p3,fun g hg=>p4 g (.tail _ hg)⟩,(hs.2 _ (fun w=>p4 f (.head _) w.symm)).trans q⟩
theorem Rp.keepFrame{base:Heap}{f:Fm}{fs:List Fm}{bs:List (Addr×Obj)}{s:Shared}(r:Rp c base (f::fs) H bs s):∃o,Rp c base fs H ((f.env.locals,o)::bs) s∧∃m,s.heap.Ns f.env.locals m:=by
 refine (r).el fun g os D R F=>?_;obtain ⟨f1,m,f2,_⟩:=R.frames f (.head _);refine Nz (R.locGet (.head _)) fun ob z=>?_;have fr:aH base H D fs f.env.locals:=⟨f1,by
   refine ay (o:=H f.env.locals) (fun e=>?_) (fun o e=>?_)
   ·rfl
   ·exact absurd rfl ((R.objs _ _ e).2.2 f (.head _)),
  fun a o e i q=>(R.dicts a o e i).2.2 f (.head _) q.symm,fun g hg q=>(List.nodup_cons.mp R.order).1 (List.mem_map.mpr ⟨g,hg,q⟩)⟩
 refine ⟨ob,⟨g,os,D,R.pop,fun p hp=>?_⟩,m,f2⟩;rcases List.mem_cons.mp hp with rfl | hp
 ·exact ⟨fr,z⟩
 ·have zz:=F p hp;have p1:=zz.1.1;have p2:=zz.1.2.1;have p3:=zz.1.2.2.1;have p4:=zz.1.2.2.2;have q:=zz.2;exact ⟨⟨p1,p2,p3,fun g hg=>p4 g (.tail _ hg)⟩,q⟩
end
end
section
section
variable{c:Cx}{d:Nat}{x:Fx}{lo:Lo}{H:AH}{E:XP}
def qL(c:Cx)(d:Nat)(x:Fx)(lo:Lo)(E:XP)(use:Option (Value→Sem Unit))(Q:Q1)(P:Value→Lo→AH→Prop):Prop:=match use with
 | none=>∀acc H',Q (er acc) H'→P acc lo H'
 | some u=>∀acc H',Q (er acc) H'→W c d x (u acc) lo H' (fun ζ l h=>P .none l h) E
def mL(y:Str)(lo:Lo):Prop:=∃o:Option V,lo=fun z=>if z=y then o else none
theorem sE{y:Str}{lo:Lo}{v:V}(h:mL y lo):bG lo y v=jf y v:=by
 obtain ⟨o,rfl⟩:=h;funext z;unfold bG jf;by_cases q:z=y<;>simp [q]
theorem sF(y:Str)(v:V):mL y (jf y v):=⟨some v,rfl⟩
theorem Rp.pushFrame{base:Heap}{fs:List Fm}{bs:List (Addr×Obj)}{s:Shared}{h':Heap}{t:Nat}{env:Env}{lo':Lo}(r:Rp c base fs H bs s)(hn:s.heap.get? env.locals=none)
  (k:∀b o,s.heap.get? b=some o→h'.get? b=some o) (hm:∃m,h'.Ns env.locals m∧∀x,(m x).map er=lo' x):Rp c base (⟨env,lo'⟩::fs) H bs { s with heap:=h',toks:=t }:=by
 obtain ⟨g,os,D,R,F⟩:=r;refine ⟨g,os,D,R.push hn k hm,fun p hp=>?_⟩;have zz:=F p hp;have p1:=zz.1.1;have p2:=zz.1.2.1;have p3:=zz.1.2.2.1;have p4:=zz.1.2.2.2;have q:=zz.2;refine ⟨⟨p1,p2,p3,fun f hf=>?_⟩,k _ _ q⟩;rcases List.mem_cons.mp hf with rfl | hf
 ·intro w;rw[show env.locals=p.1 from w,q]at hn;exact (NN _ hn).elim
 ·exact p4 f hf
theorem Rp.frameTop{base:Heap}{f:Fm}{fs:List Fm}{bs:List (Addr×Obj)}{s:Shared}(r:Rp c base (f::fs) H bs s):base.get? f.env.locals=none∧∃m,s.heap.Ns f.env.locals m∧∀x,(m x).map er=f.lo x:=by
 obtain ⟨g,os,D,R,F⟩:=r;exact R.frames f (.head _)
theorem Rp.touch{base:Heap}{fs:List Fm}{bs:List (Addr×Obj)}{s:Shared}{h':Heap}{n:Addr}{o:Obj}(r:Rp c base fs H ((n,o)::bs) s)(hs:OT n s.heap h'):aq c base fs H { s with heap:=h' }:=by
 obtain ⟨g,os,D,R,F⟩:=r;exact ⟨g,os,D,R.touch (F _ (.head _)).1 hs⟩
theorem Rp.nsHere{base:Heap}{f:Fm}{fs:List Fm}{bs:List (Addr×Obj)}{s:Shared}{o:Obj}(r:Rp c base fs H ((f.env.locals,o)::bs) s)(r':Rp c base (f::fs) H bs s){h':Heap}(e:h'.get? f.env.locals=some o) :
  ∃m,h'.Ns f.env.locals m:=by
 obtain ⟨_,m,f2,_⟩:=r'.frameTop;obtain ⟨o',es,ep,q1,q2⟩:=f2;have:=r.at_ (.head _);have this:=(q1).symm.trans this;cases this;exact ⟨m,o,es,ep,e,q2⟩
inductive mG(c:Cx)(base:Heap)(X:Fx)(Q:Q1)(D:Addr)(r:Result)(s':Shared):Prop
 | mk(e:r=.ok .next)(lo₂:Lo)(H₂:AH)(R:Rp c base (X.fs lo₂) H₂ [] s')(q:Q (.ref D) H₂)
theorem EQ{iv:V}{b}{Q:Q1}(h:jK iv H b Q):∃xs,bw iv H xs:=by
 obtain ⟨xs,h,_,_,_,_⟩:=h;exact ⟨xs,h⟩
theorem ER{iv:V}{b}{Q:Q1}(h:jL iv H b Q):∃xs,bw iv H xs:=by
 obtain ⟨xs,h,_,_,_,_⟩:=h;exact ⟨xs,h⟩
theorem im{e:Nu}{sc:Scope}{se:SE}{y:Str}{p q:Pos}{iter:Nu}{ifs:List Nu}{use:Option (Value→Sem Unit)}{newAcc:Sem Value}{Q:Q1}{P:Value→Lo→AH→Prop}
  {It:Q1}{oAcc:Obj}(hfreed:oAcc.isFreed=false)
  (hset:∀v,foldedSetIterable iter x.env v=pure v) (he:clausesOf e=[⟨.Name y q,iter,ifs,0⟩]) (hx:x.Of se) (hok:hU sc se y) (hit:W c d x (eval iter x.env) lo H (QV lo It) E)
  (hxs:∀v H',It v H'→∃xs,bw v H' xs)
  (hnew:∀A s (E':Value→Shared→Prop) (Q':Value→Shared→Prop),Q' (.ref s.heap.objs.size) { s with heap:=s.heap.push oAcc }→wpAny c.M A newAcc Q' E' s)
  (hu:qL c d x lo E use Q P)
  (loop:∀base A cl L D n oi s iv xs H',It iv H'→bw iv H' xs→Ok d (b7 x lo sc L cl) A→(b7 x lo sc L cl).Of { ns:=sc.names,cl:=se.cl }→bx iv H' 0 oi→n≠D→
   Rp c base ((b7 x lo sc L cl).fs fun ζ=>none) H' [(D,oAcc),(n,oi)] s→
   Re c.M A (.compStart e 0 (.ref n) (.ref D) (b7 x lo sc L cl).env) (mG c base (b7 x lo sc L cl) Q D) s) :
  W c d x (comprehension e sc x.env p newAcc false (eval iter x.env) use) lo H P E:=by
 intro base s A ok R;have zz:=id hok;have k1:=zz.1;have k2:=zz.2.1;have k3:=zz.2.2.1;have k4:=zz.2.2.2;obtain ⟨cl,hcl,hcl2⟩:=fu sc x.env (fun p hp hf=>by
  rcases k4 p hp with ⟨a,_⟩ | a | ⟨_,_,f,g⟩
  ·have hf:=(a).symm.trans hf;injection hf
  ·have hf:=(a).symm.trans hf;injection hf
  ·rw[hx.cells f];exact g)
 refine wpAny_comprehension_free ((he)) ?_ hcl k1 (fun p hp hl=>?_) ?_
 ·exact hset
 ·rcases k4 p hp with ⟨_,b⟩ | a | ⟨a,_⟩
  ·exact b
  ·have hl:=(a).symm.trans hl;injection hl
  ·have hl:=(a).symm.trans hl;injection hl
 refine xj (hit base s A ok R) (fun a b e=>e) fun u s₁ H₁ R₁ h₁=>?_;obtain ⟨xs,hxs⟩:=hxs _ _ h₁;refine jq rfl hxs R₁.rp fun oi s₂ ho ζ r₂=>?_;refine hnew _ _ _ _ ?_;have r₃:=r₂.pushed hfreed;have hDn:s₁.heap.objs.size≠s₂.heap.objs.size:=fun q=>by
  exact QN _ (Nat.lt_of_lt_of_eq (O5 (r₂.at_ (.head _))) q.symm)
 refine Ql (fun p hp hc=>?_) (fun p hp=>by cases hp) (fun h' hn hs=>?_) k1
 ·rcases k4 p hp with ⟨a,_⟩ | a | ⟨a,_⟩<;>have hc:=(a).symm.trans hc<;>injection hc
 have hLn:=NX (h:=s₂.heap.push oAcc) (Oe _);have r₄:Rp c base ((b7 x lo sc (s₂.heap.push oAcc).objs.size cl).fs fun ζ=>none) H₁ [(s₂.heap.objs.size,oAcc),(s₁.heap.objs.size,oi)] { s₂ with heap:=h',toks:=s₂.toks }:=
  r₃.pushFrame (env:=(b7 x lo sc (s₂.heap.push oAcc).objs.size cl).env) hLn (fun b ob e=>?_) ⟨_,hn,fun ζ=>rfl⟩
 ·refine SI (loop base A cl _ _ _ oi _ _ xs H₁ h₁ hxs (rR ok hok (ok.frameAt r₃ hLn)) (rS hx hok hcl2) ho hDn r₄) fun r s' z=>?_;obtain ⟨rfl,l₂,H₂,r₅,q⟩:=z
  induction use with
  | none=>
   obtain ⟨f1,m,f2,f3⟩:=r₅.frameTop;exact ⟨m,f2,fun h'' hs''=>⟨lo,H₂,(r₅.popFrame hs'').plain,hu (.ref _) _ q⟩⟩
  | some u=>
   obtain ⟨o,r₆,m,_⟩:=r₅.keepFrame;have:=(hu (.ref _) _ q).beside ok r₆;refine OJ this (fun ζ s'' z=>?_) fun a b e=>e;obtain ⟨l₃,H₃,r₇,q₃⟩:=z;obtain ⟨m,hm⟩:=r₆.nsHere r₅ (r₇.at_ (.head _));exact ⟨m,hm,fun h'' hs''=>⟨l₃,H₃,r₇.touch hs'',q₃⟩⟩
 ·exact (hs.2 _ (N1 (O5 e))).trans (NR _ e)
end
end
section
section
variable{c:Cx}{d:Nat}{x:Fx}{lo:Lo}{H:AH}{E:XP}
theorem iu.no{base:Heap}{e:Value}{s:Shared}(h:iu c base x pb e s):False:=by
 obtain ⟨ea,msg,H',lo',e1,e2,_⟩:=h;exact e2
theorem W.bindName{y:Str}{q:Pos}{u:Value}{Q:Unit→Lo→AH→Prop}(hk:x.env.kindOf y=some .local)(h:Q () (bG lo y (er u)) H):W c d x (assign (.Name y q) x.env u) lo H Q E:=by
 rw[arm_assign_Name];refine W.standAt' ?_;unfold Pa;exact W.bind (W.holding (W.point (W.bind (W.storeLocal hk (W.point h)))))
abbrev gw(items:Array Value)(k:Nat):Obj:={ cls:=.type "list",data:=.seq items k }
theorem ig{iv:V}{H:AH}{xs:List V}(hxs:bw iv H xs):xs.length≤200000:=by
 obtain ⟨a,o,_,_,p⟩:=hxs
 induction o with
 | list ys=>exact Np (NL (Nw _ p.2.symm)) (Np p.1 (by decide))
 | tup ys=>exact Np (NL (Nw _ p.2.symm)) (Np p.1 (by decide))
 | sdict es ep=>obtain ⟨a,rfl⟩:=p;rw[Nq];exact Np ‹_› (by decide)
 | rng l h=>obtain ⟨a1,a2,a3,a4,rfl⟩:=p;rw[jv];exact KB a1 a3
 | _=>exact p.elim
end
section
variable{c:Cx}{d:Nat}{x:Fx}{se:SE}{F:Fr}{gx:List (Str×Gn)}{H:AH}{E:XP}{k b:I}{st:List V}{L:Ls}{Q:QR}{n:Nat}
theorem rF(ht:∀e,jY c n e){ifs:List Nu}(fs:Fs c x se F gx)(h:ao c F d (cI (cE n (tr se gx)) ifs b) E st L H Q) :
  W c d x (forIn ifs true (fun g r=>if r=true then (do let ok ← isTrue g x.env (eval g x.env);pure (ForInStep.yield ok)) else pure (ForInStep.yield r))) (cb se L) H
   (QB (cb se L) fun ok H'=>(ok=true∧∃Q',ao c F d b E st L H' Q'∧∀st L H,Q' (.nx st) L H→Q (.nx st) L H)∨(ok=false∧Q (.nx st) L H')) E:=by
 induction ifs using List.casesOn with
 | nil=>exact W.pure ⟨rfl,.inl ⟨rfl,Q,h,fun ζ ζ ζ q=>q⟩⟩
 | cons e r=>
  refine c9 h fun h1 h=>?_;obtain rfl:=List.isEmpty_iff.mp h1;simp only [Q9,List.forIn_nil,TC,bind_assoc,pure_bind];refine W.thenB (ht e fs dF h) fun r H₁ h₁=>W.pure ⟨rfl,?_⟩;rcases eV h₁ with ⟨rfl,h⟩ | ⟨rfl,h⟩
  ·exact .inl ⟨rfl,_,h,fun ζ ζ ζ q=>q⟩
  ·exact .inr ⟨rfl,h⟩
theorem kE{y:Str}{i:Nat}{v:V} : ∀{sl:List Str},ef sl y=some i→bS sl (cw sl.length i v)=jf y v:=by
 have none_:∀(sl:List Str) (m:Nat),m=sl.length→bS sl (cw m m v)=fun ζ=>none:=by
  intro sl
  induction sl with
  | nil=>rintro m rfl;rfl
  | cons a r ih=>
   rintro m rfl;funext z;show (if z=a then none else bS r (cw r.length r.length v) z)=none;rw[ih _ rfl];split<;>rfl
 intro sl
 induction sl generalizing i with
 | nil=>intro h;exact ac h
 | cons n r ih=>
  intro h;have h:cond (jF n y) (some 0) ((ef r y).map (· + 1))=some i:=h;funext z;unfold jf;refine aw (o:=jF n y) (fun e=>?_) (fun e=>?_)
  ·
   replace h:=(e)▸h;injection h with h;subst h;show (if z=n then some v else bS r (cw r.length r.length v) z)=_;rw[none_ _ _ rfl,aY.mp e]
  ·
   rw[e]at h;obtain ⟨j,hj,rfl⟩:=Option.map_eq_some_iff.mp h;show (if z=n then none else bS r (cw r.length j v) z)=_;rw[ih hj];unfold jf;split
   ·rename_i w;rw[w,if_neg fun q=>by have e:=(aY.mpr q).symm.trans e;exact (Nt e.symm).elim]
   ·rfl
inductive Ge(c:Cx)(F:Fr)(d:Nat)(b:I)(L:Ls)(Q:QR)(t:Bool)(H:AH):Prop
 | yes(e:t=true)(Q':QR)(h:ao c F d b pb [] L H Q')(k:∀st L H,Q' (.nx st) L H→Q (.nx st) L H)
 | no(e:t=false)(h:Q (.nx []) L H)
theorem k7{A:Around}{base:Heap}{X:Fx}{y:Str}{q:Pos}{i:Nat}{ifs:List Nu}{bs:List (Addr×Obj)}{s:Shared}{lo':Lo}{H':AH}{v:Value}{Q':Bool→Shared→Prop}
  {E₁ E₂:Value→Shared→Prop}(ht:∀e,jY c n e) (fs:Fs c X se F gx) (hi:ef (slots se.ns) y=some i) (ok:Ok d X A) (hk:X.env.kindOf y=some .local) (hu:mL y lo')
  (r:Rp c base (X.fs lo') H' bs s) (h:ao c F d (cI (cE n (tr se gx)) ifs b) pb [] (cw (slots se.ns).length i (er v)) H' Q)
  (hq:∀t s' H'',Ge c F d b (cw (slots se.ns).length i (er v)) Q t H''→Rp c base (X.fs (cb se (cw (slots se.ns).length i (er v)))) H'' bs s'→Q' t s') :
  wpAny c.M A (assign (.Name y q) X.env v) (fun ζ s₂=>wpAny c.M A (forIn ifs true fun g r=>if r=true then (do let ok ← isTrue g X.env (eval g X.env);pure (ForInStep.yield ok)) else pure (ForInStep.yield r)) Q' E₂ s₂) E₁ s:=by
 refine OJ ((W.bindName (x:=X) (E:=pb) (Q:=fun ζ l h=>l=bG lo' y (er v)∧h=H') hk ⟨rfl,rfl⟩).beside ok r) (fun a s₂ z=>?_) fun a b e=>e.no.elim;obtain ⟨l₂,H₂,r₂,e1,rfl⟩:=z;obtain rfl:l₂=cb se (cw (slots se.ns).length i (er v)):=e1.trans ((sE hu).trans (kE hi).symm);refine Fg ((rF ht fs h).beside ok r₂) (fun a b e=>e.no.elim) fun t s₃ H₃ r₃ p=>?_;exact hq t s₃ H₃ (p.elim (fun z=>z.2.elim fun Q' w=>.yes z.1 Q' w.1 w.2) fun z=>.no z.1 z.2) r₃
inductive qM(c:Cx)(base:Heap)(X:Fx)(J:Nat→List V→AH→Prop)(iv:V)(H₁:AH)(y:Str)(N:Nat)(D m:Addr)(k:Nat)(s:Shared):Prop
 | mk(j:Nat)(ys:List V)(H':AH)(lo':Lo)(oi:Obj)(items:Array Value)(kk:Nat)(hik:j+k=N)(hJ:J j ys H')(hup:mL y lo')(ho:bx iv H₁ j oi)(hys:items.toList.map er=ys)(r:Rp c base (X.fs lo') H' [(D,gw items kk),(m,oi)] s)
theorem qM.el{c:Cx}{base:Heap}{X:Fx}{J:Nat→List V→AH→Prop}{iv:V}{H₁:AH}{y:Str}{N:Nat}{D m:Addr}{k:Nat}{s:Shared}{P_:Prop}(h_:qM c base X J iv H₁ y N D m k s)(k_:∀(j:Nat) (ys:List V) (H':AH) (lo':Lo) (oi:Obj) (items:Array Value) (kk:Nat) (hik:j+k=N) (hJ:J j ys H') (hup:mL y lo') (ho:bx iv H₁ j oi) (hys:items.toList.map er=ys) (r:Rp c base (X.fs lo') H' [(D,gw items kk),(m,oi)] s),P_):P_:=qM.rec (motive:=fun ζ=>P_) k_ h_
theorem lZ{xs:List V}{j k:Nat}(hg:xs[j]? = none)(h:j+k=xs.length):j=xs.length:=Sz (h▸NS _ _) (List.getElem?_eq_none_iff.mp hg)
theorem fV{y:Str}{i:Nat}{v:V}(hi:ef (slots se.ns) y=some i):mL y (cb se (cw (slots se.ns).length i v)):=by
 rw[show cb se (cw (slots se.ns).length i v)=jf y v from kE hi];exact sF _ _
theorem lM{D m:Addr}{o:Obj}(h:m≠D):∀p∈[(D,o)],p.1≠m:=fun p hp=>by
 rw[List.mem_singleton.mp hp];exact h.symm
theorem jI{A:Around}{base:Heap}{X:Fx}{sc:Scope}{D m:Addr}{y:Str}{q p:Pos}{i:Nat}{elt iter:Nu}{ifs:List Nu}{s:Shared}{iv:V}{H₁:AH}{oi:Obj}{Q:Q1}
  (he:∀e,dc c n e) (ht:∀e,jY c n e) (fs:Fs c X se F gx) (hi:ef (slots se.ns) y=some i) (ok:Ok d X A) (hk:X.env.kindOf y=some .local) (hnD:m≠D)
  (h:jK iv H₁ (fun v H₂ kk=>ao c F d (cI (cE n (tr se gx)) ifs (cE n (tr se gx) elt .fin)) pb [] (cw (slots se.ns).length i v) H₂ (cQ kk)) Q)
  (ho:bx iv H₁ 0 oi) (r:Rp c base (X.fs fun ζ=>none) H₁ [(D,gw #[] 0),(m,oi)] s) :
  Re c.M A (.compLoop (.ListComp elt [⟨.Name y q,iter,ifs,0⟩] sc p) 0 (.ref m) (.ref D) X.env) (mG c base X Q D) s:=by
 refine (h).el fun xs hxs J hJ0 hstep hend=>?_;have hxl:=ig hxs;refine codeAny_compLoop_tests (qM c base X J iv H₁ y xs.length D m) ?_ xs.length ⟨0,[],H₁,_,oi,#[],0,Ot _,hJ0,⟨none,by funext z;simp⟩,ho,rfl,r⟩;intro k s z;refine (z).el fun j ys H' lo' oi items kk hik hJ hup hoi hys r=>?_;have r':=r.swap;have hb:=lM (o:=gw items kk) hnD;refine ay (o:=xs[j]?) (fun hg=>?_) (fun yv hg=>?_)
 ·
  obtain rfl:=lZ hg hik;refine NO (fun hs hf=>?_) (hend ys H' hJ);refine jr hxs hs hoi hb ok.handled r' fun s' r₂=>?_;have zz:=r₂.adopt (t:=s'.toks) (o:=.list ys) (fun p hp=>nomatch hp) (PP _ _) rfl fun ζ=>⟨items,kk,r₂.at_ (.head _),hys⟩;have hn:=zz.1;have r₃:=zz.2;exact ⟨rfl,_,_,r₃,hf D hn⟩
 ·
  obtain ⟨hs,hlen,hbody⟩:=hstep j yv ys H' hg hJ;have hilt:=(List.getElem?_eq_some_iff.mp hg).1;refine gR hxs hs hg hoi hb r' fun v oi' s₁ hv hoi' r₁=>?_;subst hv;refine k7 ht fs hi ok hk hup r₁ hbody fun t s₂ H₂ hbr r₂=>?_;have hk1:=IV hik hilt;have hk2:=IU hik hilt;clear hik hg hJ hs hbody hend
  induction hbr with
  | yes e Q' hel hQ'=>
   rw[e];rw[if_pos rfl];refine Fg ((he elt fs hel).beside ok r₂) (fun a b e=>e.no.elim) fun u s₃ H₃ r₃ hJ3=>?_;have r₃:=r₃.swap;have hD:=r₃.at_ (.head _);have hsz:=aQ hys;exact Qr PySem.F.slot_list_append (al hD).typeIs PySem.F.entry_list_append (PySem.F.args_list_append_2 _ _) (list_append _ items kk u (Np (NL hsz) (Np hlen (Np (OI hilt) (Np hxl (NJ rfl)))))) ⟨hD,k-1,hk2,j+1,ys++[er u],H₃,_,oi',items.push u,_,hk1,hQ' _ _ _ hJ3,fV hi,hoi',by rw[TU,N8,hys,TM],
    r₃.set (t:=s₃.toks) (lM hnD.symm) (OQ _ _ _) (OL _ hD rfl)⟩
  | no e hno=>
   rw[e];rw[if_neg Nt];exact ⟨k-1,hk2,j+1,_,H₂,_,oi',items,kk,hk1,hno,fV hi,hoi',hys.trans (Nr _).symm,r₂.swap⟩
def iT(c:Cx)(D:Addr)(o:Obj)(kvs:List (Str×Value)):Prop:=∀h:Heap,h.get? D=some o→Qg (strKind c.prog c.w) h D kvs
theorem pz{c:Cx}{h:Heap}{D:Addr}{kvs:List (Str×Value)}(x:Qg (strKind c.prog c.w) h D kvs):∃o,h.get? D=some o∧iT c D o kvs:=by
 refine Nz (x) fun o zz=>Nz (zz) fun es zz=>Nz (zz) fun ep zz=>NO (fun e r=>?_) (zz);exact ⟨o,e,fun h' e'=>⟨o,es,ep,e',r⟩⟩
inductive qN(c:Cx)(base:Heap)(X:Fx)(J:Nat→List (Str×V)→AH→Prop)(iv:V)(H₁:AH)(y:Str)(N:Nat)(D m:Addr)(k:Nat)(s:Shared):Prop
 | mk(j:Nat)(ys:List (Str×V))(H':AH)(lo':Lo)(oi od:Obj)(kvs:List (Str×Value))(hik:j+k=N)(hJ:J j ys H')(hup:mL y lo')(ho:bx iv H₁ j oi)(hys:kvs.map (fun p=>(p.1,er p.2))=ys)(hod:iT c D od kvs)(r:Rp c base (X.fs lo') H' [(D,od),(m,oi)] s)
theorem qN.el{c:Cx}{base:Heap}{X:Fx}{J:Nat→List (Str×V)→AH→Prop}{iv:V}{H₁:AH}{y:Str}{N:Nat}{D m:Addr}{k:Nat}{s:Shared}{P_:Prop}(h_:qN c base X J iv H₁ y N D m k s)(k_:∀(j:Nat) (ys:List (Str×V)) (H':AH) (lo':Lo) (oi od:Obj) (kvs:List (Str×Value)) (hik:j+k=N) (hJ:J j ys H') (hup:mL y lo') (ho:bx iv H₁ j oi) (hys:kvs.map (fun p=>(p.1,er p.2))=ys) (hod:iT c D od kvs) (r:Rp c base (X.fs lo') H' [(D,od),(m,oi)] s),P_):P_:=qN.rec (motive:=fun ζ=>P_) k_ h_
theorem jJ{A:Around}{base:Heap}{X:Fx}{sc:Scope}{D m:Addr}{y:Str}{q p:Pos}{i:Nat}{ke ve iter:Nu}{ifs:List Nu}{s:Shared}{iv:V}{H₁:AH}{oi od:Obj}{Q:Q1}
  (he:∀e,dc c n e) (ht:∀e,jY c n e) (fs:Fs c X se F gx) (hi:ef (slots se.ns) y=some i) (ok:Ok d X A) (hk:X.env.kindOf y=some .local) (hnD:m≠D)
  (h:jL iv H₁ (fun v H₂ kk=>ao c F d (cI (cE n (tr se gx)) ifs (cE n (tr se gx) ke (cE n (tr se gx) ve .fin))) pb [] (cw (slots se.ns).length i v) H₂ (dQ kk)) Q)
  (hod:iT c D od []) (ho:bx iv H₁ 0 oi) (r:Rp c base (X.fs fun ζ=>none) H₁ [(D,od),(m,oi)] s) :
  Re c.M A (.compLoop (.DictComp ke ve [⟨.Name y q,iter,ifs,0⟩] sc p) 0 (.ref m) (.ref D) X.env) (mG c base X Q D) s:=by
 refine (h).el fun xs hxs J hJ0 hstep hend=>?_;have hxl:=ig hxs;refine codeAny_compLoop_testsD (qN c base X J iv H₁ y xs.length D m) ?_ xs.length ⟨0,[],H₁,_,oi,od,[],Ot _,hJ0,⟨none,by funext z;simp⟩,ho,rfl,hod,r⟩;intro k s z;refine (z).el fun j ys H' lo' oi od kvs hik hJ hup hoi hys hod r=>?_;have r':=r.swap;have hb:=lM (o:=od) hnD;refine ay (o:=xs[j]?) (fun hg=>?_) (fun yv hg=>?_)
 ·
  obtain rfl:=lZ hg hik;refine NO (fun hs hf=>?_) (hend ys H' hJ);refine jr hxs hs hoi hb ok.handled r' fun s' r₂=>?_;refine Nz (dN (hod _ (r₂.at_ (.head _)))) fun ep hd=>?_;obtain ⟨hn,r₃⟩:=r₂.adopt (t:=s'.toks) (o:=.sdict ys ep) (fun p hp=>nomatch hp) (PP _ _) rfl fun ζ=>⟨kvs,hd,hys⟩;exact ⟨rfl,_,_,r₃,hf ep D hn⟩
 ·
  obtain ⟨hs,hlen,hbody⟩:=hstep j yv ys H' hg hJ;have hilt:=(List.getElem?_eq_some_iff.mp hg).1;refine gR hxs hs hg hoi hb r' fun v oi' s₁ hv hoi' r₁=>?_;subst hv;refine k7 ht fs hi ok hk hup r₁ hbody fun t s₂ H₂ hbr r₂=>?_;have hk1:=IV hik hilt;have hk2:=IU hik hilt;clear hik hg hJ hs hbody hend
  induction hbr with
  | yes e Q' hel hQ'=>
   rw[e];rw[if_pos rfl];refine Fg ((he ke fs hel).beside ok r₂) (fun a b e=>e.no.elim) fun ku s₃ H₃ r₃ hJ3=>?_;refine Fg ((he ve fs hJ3).beside ok r₃) (fun a b e=>e.no.elim) fun u s₄ H₄ r₄ hJ4=>?_;have hJ4:uV (J (j+1)) ys (some (er ku,er u)) H₄:=hQ' _ _ _ hJ4;refine (eY hJ4).el fun ks hks hJ4=>?_;refine bC (hks) fun t=>?_;have r₄:=r₄.swap;have hkl:kvs.length=ys.length:=by rw[← hys,Nq]
   refine wpAny_dictSet_pairs (iW c _ _) (hod _ (r₄.at_ (.head _))) (fun h' hd hs'=>?_) (Np (NL hkl) (Np hlen (Np (OI hilt) (Np hxl (NJ rfl)))));obtain ⟨od',g',hod'⟩:=pz hd;exact ⟨k-1,hk2,j+1,iB ys ks (er u),H₄,_,oi',od',stored kvs ks u,hk1,hJ4,fV hi,hoi',by rw[fC,hys],hod',r₄.set (t:=s₄.toks+1) (lM hnD.symm) hs' g'⟩
  | no e hno=>
   rw[e];rw[if_neg Nt];exact ⟨k-1,hk2,j+1,ys,H₂,_,oi',od,kvs,hk1,hno,fV hi,hoi',hys,hod,r₂.swap⟩
end
end
section
section
variable{c:Cx}{d:Nat}{x:Fx}{se:SE}{F:Fr}{gx:List (Str×Gn)}{H:AH}{E:XP}{k b:I}{st:List V}{L:Ls}{Q:QR}{n:Nat}
theorem dq{t:CE}{y:Str}(h:ff t y=true):t.ns.lookup y=some .local:=by
 unfold ff at h;rw[dB]at h;refine ay (o:=t.ns.lookup y) (fun e=>?_) (fun kd e=>?_)
 ·rw[e]at h;exact NG h
 ·rw[e]at h;rw[dK h]
theorem yL{o:Option Ov}(h:(match o with | some kd=>fp kd||c7 kd | none=>false)=true):o=some .cell∨o=some .free:=by
 induction o with
 | none=>exact NG h
 | some kd=>exact (FA h).imp (Nw _) (Nw _)
theorem jz{y:Str} : ∀{cl:List (Str×Addr)},(ef (cl.map (·.1)) y).isSome=true→(cl.lookup y).isSome=true
 | [],h=>by exact (Nt h).elim
 | (n,a)::r,h=>by
  have h:(cond (jF n y) (some 0) ((ef (r.map (·.1)) y).map (· + 1))).isSome=true:=h;rw[NK];refine aw (o:=y==n) (fun e=>?_) (fun e=>?_)
  ·rfl
  ·
   have:jF n y=false:=Bool.eq_false_iff.mpr fun w=>by rw[aY.mp w]at e;simp at e
   rw[this]at h;exact jz (by simpa using h)
theorem u1{sc:Scope}{y:Str}(h:u2 sc (tr se gx) y=true):hU sc se y:=by
 unfold u2 at h;simp only [NY,PM,Oi]at h;obtain ⟨⟨⟨h1,h2⟩,h3⟩,h4⟩:=h;refine ⟨h1,h2,dq h3,fun p hp=>?_⟩;have:=List.all_eq_true.mp h4 p hp;simp only [PB (dL p.2&&_||ny p.2),PB (dL p.2&&_),NY]at this;rcases this with (⟨a,b⟩ | a) | ⟨⟨⟨a,b⟩,e⟩,f⟩
 ·exact .inl ⟨dK a,dq b⟩
 ·exact .inr (.inl (gT a))
 ·refine .inr (.inr ⟨fL a,?_,?_,jz f⟩)
  ·rw[dB]at b;refine ay (o:=sc.names.lookup p.1) (fun e=>?_) (fun kd e=>?_)
   ·rw[e]at b;exact NG b
   ·rw[e]at b;rw[fL b]
  ·rw[dB]at e;exact yL e
theorem yN{gs:List P7}{sc:Scope}{kf}(h:ao c F d (cG (tr se gx) gs sc kf) E st L H Q):∃y q iter ifs i,gs=[⟨.Name y q,iter,ifs,0⟩]∧hU sc se y∧ef (slots sc.names) y=some i∧
  ao c F d (kf iter ifs i (tr { ns:=sc.names,cl:=se.cl } gx)) E st L H Q:=by
 rcases gs with _ | ⟨⟨tg,it,fs,a⟩,r⟩
 ·exact h.elim
 ·refine c9 h fun h1 h'=>?_;clear h;rw[NY,PM]at h1;refine NO (fun h1 h2=>?_) (h1);refine c4 h' fun y hy h=>?_;clear h';have zz:=n9 h;have h3:=zz.1;have h':=zz.2;clear h;refine c4 h' fun i hi h=>?_;refine Nz (bR hy) fun q hq=>?_;exact ⟨y,q,it,fs,i,by rw[List.isEmpty_iff.mp h1,show tg=.Name y q from hq,show a=0 from h2],u1 h3,hi,h⟩
theorem pa{iter:Nu}(h:ao c F d (cE n (tr se gx) iter k) E st L H Q){env:Env} : ∀v,foldedSetIterable iter env v=pure v:=by
 intro v
 induction iter using PySem.Expr.casesOn<;>first | rfl | (induction n<;>exact h.elim)
theorem gz{sc:Scope}{y:Str}{lo:Lo}{A₁:Addr}{cl:List (Str×Addr)}(hok:hU sc se y):(b7 x lo sc A₁ cl).env.kindOf y=some .local:=by
 have h1:=hok.1;have h2:=hok.2.1;have h3:=hok.2.2.1;have h4:=hok.2.2.2;have:(b7 x lo sc A₁ cl).env.kindOf y=(sc.names.lookup y).map fun k=>if (k == .free&&x.env.scope.kind == .function&&x.env.kindOf y==some .cell) then .cell else k:=eB sc x.env y;rw[this,h3];rfl
theorem Fs.comp(fs:Fs c x se F gx){x':Fx}{ns:List (Str×Ov)}(hx:x'.Of { ns:=ns,cl:=se.cl }):Fs c x' { ns:=ns,cl:=se.cl } ⟨F.G,F.cl,none⟩ gx:=⟨hx,fs.cl,fs.g,nofun⟩
theorem k8{elt:Nu}{gs:List P7}{sc:Scope}{p:Pos}{use:Option (Value→Sem Unit)}{P:Value→Lo→AH→Prop}(he:∀e,dc c n e)(ht:∀e,jY c n e)(fs:Fs c x se F gx)
  (h:ao c F d (cE (n+1) (tr se gx) (.ListComp elt gs sc p) k) E st L H Q) (hu:qL c d x (cb se L) E use (fun v H'=>ao c F d k E (v::st) L H' Q) P) :
  ∃y q iter ifs,gs=[⟨.Name y q,iter,ifs,0⟩]∧∀p':Pos,W c d x (comprehension (.ListComp elt gs sc p) sc x.env p' (newList []) false (eval iter x.env) use) (cb se L) H P E:=by
 have h:ao c F d (cG (tr se gx) gs sc fun iter ifs i t'=>cE n (tr se gx) iter (.lcm (slots sc.names).length i (cI (cE n t') ifs (cE n t' elt .fin)) k)) E st L H Q:=h;have h2:=yN h;clear h;obtain ⟨y,q,iter,ifs,i,rfl,hok,hi,h⟩:=h2;refine ⟨y,q,iter,ifs,rfl,fun p'=>?_⟩;refine im (oAcc:=gw #[] 0) rfl (pa h) rfl fs.of hok (he iter fs h) (fun v H' z=>EQ z) (fun A s E' Q' hq=>PL hq) hu ?_;intro base A cl A₁ D m oi s iv xs' H' hc hxs ok' hx' ho hnD r;have key:=jI (sc:=sc) (p:=p) (q:=q) (iter:=iter) he ht (fs.comp hx') hi ok' (gz hok) hnD hc ho r;exact codeAny_compStart_list key (jt ho (r.at_ (.tail _ (.head _))) key)
theorem k9{ke ve:Nu}{gs:List P7}{sc:Scope}{p:Pos}{use:Option (Value→Sem Unit)}{P:Value→Lo→AH→Prop}(he:∀e,dc c n e)(ht:∀e,jY c n e)(fs:Fs c x se F gx)
  (h:ao c F d (cE (n+1) (tr se gx) (.DictComp ke ve gs sc p) k) E st L H Q) (hu:qL c d x (cb se L) E use (fun v H'=>ao c F d k E (v::st) L H' Q) P) :
  ∃y q iter ifs,gs=[⟨.Name y q,iter,ifs,0⟩]∧∀p':Pos,W c d x (comprehension (.DictComp ke ve gs sc p) sc x.env p' newDict false (eval iter x.env) use) (cb se L) H P E:=by
 have h:ao c F d (cG (tr se gx) gs sc fun iter ifs i t'=>cE n (tr se gx) iter (.dcm (slots sc.names).length i (cI (cE n t') ifs (cE n t' ke (cE n t' ve .fin))) k)) E st L H Q:=h;have h2:=yN h;clear h;obtain ⟨y,q,iter,ifs,i,rfl,hok,hi,h⟩:=h2;refine ⟨y,q,iter,ifs,rfl,fun p'=>?_⟩;refine im (oAcc:={ cls:=.type "dict",data:=.dict #[] }) rfl (pa h) rfl fs.of hok (he iter fs h) (fun v H' z=>ER z) (fun A s E' Q' hq=>by unfold newDict;exact PL hq) hu ?_;intro base A cl A₁ D m oi s iv xs' H' hc hxs ok' hx' ho hnD r;have key:=jJ (sc:=sc) (p:=p) (q:=q) (iter:=iter) he ht (fs.comp hx') hi ok' (gz hok) hnD hc (fun h e=>gE e) ho r;exact codeAny_compStart_dict key (jt ho (r.at_ (.tail _ (.head _))) key)
theorem pV{lo:Lo}{Q:Q1} : qL c d x lo E none Q (QV lo Q):=fun acc H' q=>⟨rfl,q⟩
theorem my{elt gs sc p}(he:∀e,dc c n e)(ht:∀e,jY c n e):dc c (n+1) (.ListComp elt gs sc p):=fun ζ ζ ζ ζ ζ ζ ζ ζ ζ ζ ζ fs h=>by
 obtain ⟨y,q,iter,ifs,rfl,h⟩:=k8 he ht fs h pV;rw[arm_eval_ListComp];exact h _
theorem mz{ke ve gs sc p}(he:∀e,dc c n e)(ht:∀e,jY c n e):dc c (n+1) (.DictComp ke ve gs sc p):=fun ζ ζ ζ ζ ζ ζ ζ ζ ζ ζ ζ fs h=>by
 obtain ⟨y,q,iter,ifs,rfl,h⟩:=k9 he ht fs h pV;rw[arm_eval_DictComp];exact h _
end
end
section
section
variable{c:Cx}{d:Nat}{x:Fx}{lo:Lo}{H:AH}{E:XP}
theorem aE.setX{base h h':Heap}{fs:List Fm}{D:Addr→Addr}(R:aE c base fs H h D){a:Addr}{o o':O}(e:H a=some o)(hi:o.isInst=false)(hi':o'.isInst=false)(hs:∀b ob,b≠a→h.get? b=some ob→h'.get? b=some ob)(ho:ce c h' a (D a) o') :
  aE c base fs (upd H a o') h' D:=by
 obtain ⟨_,hb,hl⟩:=R.objs a o e;have nd:∀x ox,H x=some ox→ox.isInst=true→D x≠a:=fun x ox ex ix q=>by
  have:=(R.dicts x ox ex ix).2.1;rw[q,e]at this;exact (NN _ this).elim
 refine ⟨fun b o e=>hs b o (fun q=>by rw[q,hb]at e;exact ac e) (R.stays b o e),R.ground,fun y oy ey=>?_,fun y oy ey iy=>?_,fun y o₁ z o₂ ey ez iy iz q=>?_,fun f hf=>?_,R.order⟩
 ·by_cases q:y=a
  ·subst q;rw[aj]at ey;injection ey with ey;subst ey;exact ⟨ho,hb,hl⟩
  ·have ey:=(am q).symm.trans ey;have zz:=R.objs y oy ey;have u:=zz.1;have v:=zz.2.1;have w:=zz.2.2;exact ⟨u.keeps (fun ob z=>hs y ob q z) (fun i ob z=>hs _ ob (nd y oy ey i) z),v,w⟩
 ·by_cases q:y=a
  ·subst q;rw[aj]at ey;injection ey with ey;subst ey;have iy:=(hi').symm.trans iy;exact (Nt iy).elim
  ·have ey:=(am q).symm.trans ey;have zz:=R.dicts y oy ey iy;have u:=zz.1;have v:=zz.2.1;have w:=zz.2.2;exact ⟨u,by rw[am (nd y oy ey iy)];exact v,w⟩
 ·have ne:y≠a:=fun q=>by cases q;rw[aj]at ey;injection ey with ey;subst ey;have iy:=(hi').symm.trans iy;exact (Nt iy).elim
  rw[am ne]at ey;have ez:=(am (fun q=>by cases q;rw[aj]at ez;injection ez with ez;subst ez;have iz:=(hi').symm.trans iz;exact (Nt iz).elim)).symm.trans ez;exact R.apart y o₁ z o₂ ey ez iy iz q
 ·obtain ⟨u,m,⟨o,es,ep,q1,q2⟩,v⟩:=R.frames f hf;exact ⟨u,m,⟨o,es,ep,hs _ _ (hl f hf) q1,q2⟩,v⟩
theorem ud{cc P:Addr}{ps:Array Value}{qual:Str}{body:Nu}{sc:Scope}{p:Pos}{se:SE}{Q:Q1}(hx:x.Of se)(hcode:x.env.code=.ref cc)(hqual:x.env.qual++No "<lambda>" = qual)(hC:CodeHd c.h₀ cc P)
  (hP:H P=some (.tab ps)) (ht:S5 ps.toList) (hfree:∀q∈sc.names,q.2=.free→(se.ns.lookup q.1=some .cell∨se.ns.lookup q.1=some .free)∧(se.cl.lookup q.1).isSome=true)
  (h:∀cl,(∀n,(n,NameKind.free)∈sc.names→cl.lookup n=se.cl.lookup n)→(∃cd,PT p ps.toList=some (.ref cd)∧H cd=some (.code qual)∧bI (.lam qual body sc cl cd) H Q)∨
   (PT p ps.toList=none∧∀cd,H cd=none→cd≠P→bI (.lam qual body sc cl cd) (upd (upd H P (.tab (ps ++ #[rawInt p.line,rawInt p.col,.ref cd]))) cd (.code qual)) Q)) :
  W c d x (eval (.Lambda ⟨[],[],none,[],[],none,[]⟩ body sc p) x.env) lo H (QV lo Q) E:=by
 obtain ⟨cl,hcl,hcl2⟩:=fu sc x.env fun q hq hf=>by
  rw[hx.cells (hfree q hq hf).1];exact (hfree q hq hf).2
 intro base s A ok R;refine kla_eval rfl ?_;rw[hqual];have g:=R.ground;have hC':CodeHd s.heap cc P:=by
  obtain ⟨o,vs,file,tf,flags,tg,inF,text,tt,e1,e2⟩:=hC;exact ⟨o,vs,file,tf,flags,tg,inF,text,tt,g _ _ e1,e2⟩
 obtain ⟨gg,oo,D,R'⟩:=id R;have hPt:=(R'.objs _ _ hP).1;have hPb:=(R'.objs _ _ hP).2.1;have hPo:c.h₀.get? P=none:=bH R'.ground hPb;have hgP:OW≠P:=fun q=>by
  obtain ⟨o,es,ep,e1,_⟩:=c.G;rw[q,hPo]at e1;exact (NN _ e1.symm).elim
 have hB:s.heap.BuiltinsAt c.mg P:=by
  obtain ⟨bm,ob,b1,b2,b3,b4⟩:=c.bmain;have:bm≠P:=fun q=>by rw[q,hPo]at b3;exact (NN _ b3.symm).elim
  have hbg:bm≠OW:=fun q=>by
   obtain ⟨o,es,ep,e1,e2,_⟩:=c.G;rw[← q,b3]at e1;injection e1 with e1;subst e1;have e2:=(b4.2.2).symm.trans e2;exact (by injection e2)
  exact ⟨bm,ob,b1,b2,hbg,this,g _ _ b3,b4⟩
 clear hPb;clear hPo;rcases (h cl fun n hn=>(hcl2 n hn).trans (hx.cells (hfree _ hn rfl).1)) with ⟨cd,f1,f2,f3⟩ | ⟨f1,f2⟩
 ·refine kla_makeFunctionHit hcl ok.env.globals (c.G.keeps g) hcode hC' hPt ht f1 hB fun ctv h' tk k hsz=>?_;have hn0:s.heap.get? h'.objs.size=none:=NX hsz;exact ⟨lo,_,R.newAt (o:=.lam qual body sc cl cd) hn0 rfl (fun b o e=>NR _ (k b o e)) (fun ζ=>⟨_,ctv,N9 _ rfl⟩),rfl,f3 _ (R.freshN hn0)⟩
 ·refine kla_makeFunction hcl ok.env.globals (c.G.keeps g) hcode hC' hPt ht f1 hgP hB fun cd ctv h' tk k hsz hlt hcr hPt'=>?_;have hcn:s.heap.get? cd=none:=NX hsz;have hcP:cd≠P:=fun q=>by rw[q,hPt]at hcn;exact (NN _ hcn).elim
  have R₁:=R'.setX (o':=.tab (ps ++ #[rawInt p.line,rawInt p.col,.ref cd])) hP rfl rfl (fun b ob hb e=>k b ob hb e) hPt';clear hC';clear hPt;clear hgP;have zz:=R'.fresh hcn;have F1:=zz.1;have F2:=zz.2.1;have F3:=zz.2.2.1;have F4:=zz.2.2.2;have R₂:=R₁.adopt (n:=cd) (h':=h') (o:=.code qual) ⟨F1,by rw[am hcP];exact F2,fun a o e i=>by
   clear R₁;by_cases q:a=P
   ·cases q;rw[aj]at e;injection e with e;subst e;exact (Nt i).elim
   ·have e:=(am q).symm.trans e;exact F3 a o e i,F4⟩ (PP _ _) rfl (by
    obtain ⟨c1,o1,vs,t,e1,e2,e3,e4⟩:=hcr;injection e1 with e1;subst e1;exact ⟨o1,vs,t,e2,e3,e4⟩)
  have hn:h'.get? h'.objs.size=none:=NX (Oe _);exact ⟨lo,_,⟨gg,oo,D,(R₂.add (n:=h'.objs.size) (o:=.lam qual body sc cl cd) hn (fun b o e=>NR _ e) rfl ⟨(c.mg "__name__").getD .none,ctv,N9 _ rfl⟩)⟩,rfl,f2 cd F2 hcP _ (R₂.fresh hn).2.1⟩
end
section
variable{c:Cx}{d:Nat}{x:Fx}{se:SE}{F:Fr}{gx:List (Str×Gn)}{H:AH}{E:XP}{k b:I}{st:List V}{L:Ls}{Q:QR}{n:Nat}
theorem pc{a:P5}(h:pd a=true):a=⟨[],[],none,[],[],none,[]⟩:=by
 unfold pd at h;simp only [NY,OO,Pj]at h;obtain ⟨⟨⟨⟨⟨⟨h1,h2⟩,h3⟩,h4⟩,h5⟩,h6⟩,h7⟩:=h
 induction a using PySem.Arguments.casesOn
 simp_all
theorem rI{sc:Scope}(h:yD sc (tr se gx)=true):∀q∈sc.names,q.2=.free→(se.ns.lookup q.1=some .cell∨se.ns.lookup q.1=some .free)∧(se.cl.lookup q.1).isSome=true:=fun q hq e=>by
 have:=List.all_eq_true.mp h q hq;rw[e]at this;have:((match sq se.ns q.1 with | some kd=>fp kd||c7 kd | none=>false)&&(ef (se.cl.map (·.1)) q.1).isSome)=true:=this;rw[NY,dB]at this;exact ⟨yL this.1,jz this.2⟩
theorem pJ{args body sc p} : dc c (n+1) (.Lambda args body sc p):=fun x se F gx d k E st L H Q fs h=>by
 refine c9 h fun h0 h'=>?_;clear h;rw[NY]at h0;obtain rfl:=pc h0.1;obtain ⟨l,hl,hC,ps,hP,ht,h⟩:=lB h';obtain ⟨hc,hq⟩:=fs.lm l hl;exact ud (Q:=fun v H'=>ao c F d k E (v::st) L H' Q) fs.of hc hq hC hP ht (rI h0.2) fun cl hcl=>h cl (by rw[fs.cl];exact hcl)
theorem kj{vs p}(he:∀e,dc c n e):dc c (n+1) (.JoinedStr vs p):=fun x se F gx d k E st L H Q fs h=>by
 rcases vs with _ | ⟨a,_ | ⟨e,_ | ⟨b,_ | _⟩⟩⟩<;>first | exact h.elim | skip
 refine c4 h fun pre h1 h'=>?_;clear h;refine c4 h' fun e h2 h=>?_;clear h';refine c4 h fun post h3 h'=>?_;clear h;obtain ⟨m1,p1,rfl,hpre⟩:=mQ h1;obtain ⟨p2,rfl⟩:=uC h2;obtain ⟨m3,p3,rfl,hpost⟩:=mQ h3;intro base s A ok R;refine JoinedStr_many (Th ?_);have hkst:∀(pr:Str) (s₁:Shared) (H₁:AH) (Q':Value→Shared→Prop),aq c base (x.fs (cb se L)) H₁ s₁→(∀t s₂,aq c base (x.fs (cb se L)) H₁ s₂→Q' (.str pr t) s₂)→wpAny c.M A (constValue x.env (Const.str pr)) Q' (iu c base x E) s₁:=by
  intro pr s₁ H₁ Q' R₁ hq;exact QI (hq _ _ R₁)
 have he0:Str.empty.length=0:=rfl;rw[Q7];refine hkst pre s H _ R fun t s₁ R₁=>⟨Np (xH (NL he0) hpre) (NJ rfl),Th (FormattedValue_plain ?_)⟩;refine xj (he e fs h' base s₁ A ok R₁) (fun a b e=>e) fun v s₂ H₂ R₂ hQ=>?_;obtain ⟨m,hm,hml,hQ2⟩:=eY hQ;obtain ⟨t₂,rfl⟩:=jE hm;refine formatField_str (fun t' tk=>⟨Np (xH (xH (NL he0) hpre) hml) (NJ rfl),?_⟩) (by rw[Po];exact Np ‹_› (by decide));refine joinParts_consE (Th ?_);rw[Q7];refine hkst post _ H₂ _ R₂ fun t₃ s₃ R₃=>⟨Np (xH (xH (xH (NL he0) hpre) hml) hpost) (NJ rfl),joinParts_nilE ?_⟩;show wpAny c.M A (mkStr (QE++pre++m++post)) _ _ s₃;exact wpAny_mkStr ⟨_,H₂,R₃,rfl,hQ2⟩ (Np (xH (xH (xH (NL he0) hpre) hml) hpost) (NJ rfl))
theorem FQ{n:Nat}{e:Nu}(z:∀t k,cE (n+1) t e k=.bad):dc c (n+1) e:=fun ζ ζ ζ ζ ζ ζ ζ ζ ζ ζ ζ ζ h=>by rw[z]at h;exact h.elim
theorem d3(n:Nat):(∀e,dc c n e)∧∀e,jY c n e:=by
 induction n with
 | zero=>exact ⟨fun ζ ζ ζ ζ ζ ζ ζ ζ ζ ζ ζ ζ ζ h=>h.elim,fun ζ ζ ζ ζ ζ ζ ζ ζ ζ ζ ζ ζ ζ ζ h=>h.elim⟩
 | succ n ih=>
  have he:=ih.1;have ht:=ih.2;have key:∀e,dc c (n+1) e:=fun e=>by
   induction e using PySem.Expr.casesOn with
   | Constant=>exact mB
   | Name=>exact oj
   | BoolOp=>exact pK he
   | BinOp l op r=>exact sg (he l) (he r)
   | UnaryOp op e=>exact oh (he e)
   | IfExp t b o=>exact sd (ht t) (he b) (he o)
   | List es=>exact vp (fj he es)
   | Tuple es=>exact r8 (fj he es)
   | Dict=>exact vt he
   | Compare=>exact om he
   | Call=>exact vw he
   | Attribute o=>exact ko (he o)
   | Subscript=>exact ki he
   | ListComp=>exact my he ht
   | DictComp=>exact mz he ht
   | Lambda=>exact pJ
   | JoinedStr=>exact kj he
   | _=>exact FQ fun ζ ζ=>rfl
  refine ⟨key,fun e=>?_⟩
  induction e using PySem.Expr.casesOn with
  | UnaryOp op e p=>
   induction op with
   | Not=>exact sa (ht e)
   | _=>exact io (key _) fun ζ ζ=>rfl
  | BoolOp=>exact mC ht
  | Compare=>exact kl he
  | IfExp t b o=>exact ol (ht t) (ht b) (ht o)
  | _=>exact io (key _) fun ζ ζ=>rfl
end
end
section
section
variable{c:Cx}{d:Nat}{x:Fx}{lo:Lo}{H:AH}{E:XP}{base h h':Heap}{fs:List Fm}{D:Addr→Addr}
theorem aE.slots(R:aE c base fs H h D){S:List Addr}(hs:Heap.SlotsOnly S h h')(hS:∀b∈S,∃f∈fs,f.env.locals=b):aE c base fs H h' D:=by
 have out:∀b,(∀f∈fs,f.env.locals≠b)→h'.get? b=h.get? b:=fun b hb=>hs.2.1 b fun hm=>by
  obtain ⟨f,hf,e⟩:=hS b hm;exact hb f hf e
 refine ⟨fun b o e=>(out b fun f hf q=>?_).trans (R.stays b o e),R.ground,fun a o e=>?_,R.dicts,R.apart,fun f hf=>?_,R.order⟩
 ·have:=(R.frames f hf).1;rw[q,e]at this;exact (NN _ this).elim
 ·obtain ⟨u,y,z⟩:=R.objs a o e;exact ⟨u.keeps (fun ob q=>(out a z).trans q) (fun i ob q=>(out _ (R.dicts a o e i).2.2).trans q),y,z⟩
 ·obtain ⟨a,m,⟨o,es,ep,e1,e2⟩,q⟩:=R.frames f hf;obtain ⟨sl,hsl⟩:=hs.2.2 _ _ e1;exact ⟨a,m,⟨_,es,ep,hsl,e2⟩,q⟩
inductive JX(c:Cx)(base:Heap)(fs:List Fm)(E:XP)(fl:Value)(e:Value)(g:Array Rg)(o:RH)(h:Heap):Prop
 | mk(ea:Addr)(msg:V)(H:AH)(e1:e=.ref ea)(e2:E msg H)(e3:g=#[])(e4:o=c.os)(D:Addr→Addr)(R:aE c base fs H h D)(oe:Obj)(vs:Array Value)(dx:Addr)(es:List Pr)(n:Nat)(mv:Value)(C T:Addr)(oT:Obj)(ts:Array Value)(q1:h.get? ea=some oe)(q2:nsIn c.K OW (No "Refusal")=some (some (.ref C)))(q3:oe.cls=.ref C)(q4:oe.data=.fields vs)(q5:oe.dict=some dx)
  (q6:aH base H D fs ea) (q7:h.get? dx=some (dictOf es n)) (q8:bK es [(No "message",msg)]) (q9:er mv=msg) (q10:aH base H D fs dx) (q11:dx≠ea)
  (t1:vs[1]? = some (.ref T)) (t2:aH base H D fs T) (t3:T≠ea) (t4:T≠dx) (t5:h.get? T=some oT) (t6:oT.data=.fields ts) (t7:ts[3]? = some fl)
def dE(c:Cx)(base:Heap)(fs:List Fm)(E:XP)(fl:Value)(e:Value)(s:Shared):Prop:=JX c base fs E fl e s.gens s.os s.heap
theorem dE.exc{fl e:Value}{s:Shared}(h:dE c base (x.fs lo) E fl e s)(hf:fl=.none∨fl=rawInt x.loc):iu c base x E e s:=by
 obtain ⟨ea,msg,H,e1,e2,e3,e4,D,R,oe,vs,dx,es,n,mv,C,T,oT,ts,q1,q2,q3,q4,q5,q6,q7,q8,q9,q10,q11,t1,t2,t3,t4,t5,t6,t7⟩:=h;refine ⟨ea,msg,H,lo,e1,e2,e3,e4,D,R,oe,vs,dx,es,n,mv,C,q1,q2,q3,q4,q5,q6,q7,q8,q9,q10,q11,.inr ⟨T,oT,ts,t1,t2,t3,t4,t5,t6,?_⟩⟩;rcases hf with rfl | rfl
 ·exact .inl t7
 ·exact .inr t7
theorem Ok.real{A:Around}(ok:Ok d x A)(hr:bq x.env=true):A.frames=some (x.env::bg x.outer):=by
 rw[ok.frames];unfold Fx.fs bg;rw[NT,Pf,hr];rfl
theorem aE.fun(R:aE c base fs H h D)(he:∀f∈fs,fw f.env):h.FunFrames base (bg fs):=by
 have:∀l:List Fm,(∀f∈l,f∈fs)→h.FunFrames base (bg l):=by
  intro l
  induction l with
  | nil=>intro _;trivial
  | cons f r ih=>
   intro hl;unfold bg;rw[NT,Pf];split
   ·rename_i hr;refine ⟨by rw[(he f (hl f (.head _))).kind];decide,?_,ih fun g hg=>hl g (.tail _ hg)⟩;obtain ⟨a,m,⟨o,es,ep,e1,e2,_⟩,q⟩:=R.frames f (hl f (.head _));exact ⟨f.env.locals,o,beq_iff_eq.mp hr,a,e1,fun vs q=>by have q:=(e2).symm.trans q;injection q⟩
   ·exact ih fun g hg=>hl g (.tail _ hg)
 exact this fs fun ζ h=>h
theorem o5{b:Addr}(hb:b∈(bg fs).filterMap (·.frame)):∃f∈fs,f.env.locals=b:=by
 obtain ⟨env,he,hf⟩:=List.mem_filterMap.mp hb;obtain ⟨he,hr⟩:=List.mem_filter.mp he;obtain ⟨f,hf',rfl⟩:=List.mem_map.mp he;have:=beq_iff_eq.mp hr;rw[this]at hf;exact ⟨f,hf',Option.some.inj hf⟩
theorem xk{A:Around}(ok:Ok d x A)(lo:Lo):∀f∈x.fs lo,fw f.env:=fun f hf=>by
 rcases List.mem_cons.mp hf with rfl | hf
 ·exact ok.env
 ·exact ok.envs f (.tail _ hf)
theorem nM{A:Around}{s:Shared}{ea dx C:Addr}{oe:Obj}{vs:Array Value}{es n mv}{msg:V}{head:Value}{hadNext:Bool}{E':Value→Shared→Prop}{Q:Unit→Shared→Prop}(ok:Ok d x A)(hr:bq x.env=true)(hE:E msg H)
  (g:s.gens=#[]) (o:s.os=c.os) (R:aE c base (x.fs lo) H s.heap D) (q1:s.heap.get? ea=some oe) (q2:nsIn c.K OW (No "Refusal")=some (some (.ref C))) (q3:oe.cls=.ref C) (q4:oe.data=.fields vs) (q5:oe.dict=some dx)
  (q6:aH base H D (x.fs lo) ea) (q7:s.heap.get? dx=some (dictOf es n)) (q8:bK es [(No "message",msg)]) (q9:er mv=msg) (q10:aH base H D (x.fs lo) dx) (q11:dx≠ea) (hsz:1<vs.size)
  (hq:∀s',dE c base (x.fs lo) E (rawInt x.env.locals) (.ref ea) s'→Q () s') :
  wpAny c.M A (do let a ← frameOf x.env;let pl ← entryPlaceOf x.env.locals hadNext;let b ← EntryCells.newEntry head a .none (rawInt x.env.locals) .none pl;setField (.ref ea) 1 b) Q E' s:=by
 have hf:=beq_iff_eq.mp hr;have hfun:s.heap.FunFrames base (x.env::bg x.outer):=by
  have:=R.fun (xk ok lo);unfold Fx.fs bg at this;rw[NT,Pf,hr]at this;exact this
 refine Nv (wpAny_frameOf_fun (ok.real hr) hfun hf fun h₁ hs₁=>?_);have hS:∀b∈(x.env::bg x.outer).filterMap (·.frame),∃f∈x.fs lo,f.env.locals=b:=fun b hb=>by
  refine o5 (fs:=x.fs lo) ?_;unfold Fx.fs bg;rw[NT,Pf,hr];exact hb
 have keep:∀b ob,(∀f∈x.fs lo,f.env.locals≠b)→s.heap.get? b=some ob→h₁.get? b=some ob:=fun b ob hb e=>(hs₁.2.1 b fun hm=>by
  obtain ⟨f,hf,q⟩:=hS b hm;exact hb f hf q).trans e
 have R₁:=R.slots hs₁ hS;refine Nv (wpAny_entryPlaceOf fun pl hpl=>?_);refine Nv (PL ?_ (hpl.sizeOk5 _ _ _ _ _));have he₁:=keep ea oe q6.2.2.2 q1;have hd₁:=keep dx _ q10.2.2.2 q7;have he₂:(h₁.push { cls:=.type "traceback",dict:=none,data:=.fields ([head,.ref x.env.locals,.none,rawInt x.env.locals,.none]++(if pl.isEmpty then NM 6 Value.none else pl)).toArray }).get? ea=some oe:=NR _ he₁;refine R1 he₂ q4 hsz (hq _ ?_);have hTe:h₁.objs.size≠ea:=N6 (O5 he₁);have hd₃:=RV q4 (·.setIfInBounds 1 (Value.ref h₁.objs.size));refine ⟨ea,msg,H,rfl,hE,g,o,D,(R₁.mono fun b o e=>NR _ e).touch q6 (OQ _ _ _),_,_,dx,es,n,mv,C,h₁.objs.size,_,_,
  OL _ he₂ (Rn hd₃),q2,(Obj.cls_mapFields _ _).trans q3,hd₃,?_,q6,?_,q8,q9,q10,q11,?_,R₁.fresh (NX (h:=h₁) (Oe _)),hTe,(N6 (O5 hd₁)),(Px _ _ (Pk hTe)).trans (N9 _ rfl),rfl,?_⟩
 ·obtain ⟨a,b,e,f⟩:=oe;clear he₁
  induction e<;>exact q5
 ·exact (Px _ _ (Pk q11)).trans (NR _ hd₁)
 ·simp [hsz]
 ·first | (simp;done) | (rcases hpl with rfl | ⟨_,_,_,_,_,_,_,rfl⟩<;>simp)
theorem fK{A:Around}{s:Shared}{e:Value}{E':Value→Shared→Prop}{Q:Unit→Shared→Prop}(ok:Ok d x A)(hr:bq x.env=true)(h:iu c base x E e s)
  (hq:∀s' lo',dE c base (x.fs lo') E (rawInt x.env.locals) e s'→Q () s'):wpAny c.M A (noteFrame e x.env) Q E' s:=by
 have hf:x.env.frame=some x.env.locals:=beq_iff_eq.mp hr;have hloc:x.loc=x.env.locals:=by unfold Fx.loc;rw[hf];rfl
 obtain ⟨ea,msg,H,lo,rfl,e2,e3,e4,D,R,oe,vs,dx,es,n,mv,C,q1,q2,q3,q4,q5,q6,q7,q8,q9,q10,q11,q12⟩:=h;unfold noteFrame;rw[hf];rcases q12 with h1 | ⟨T,oT,ts,t1,t2,t3,t4,t5,t6,t7⟩
 ·refine Nv (Qy q1 q4 h1 ?_);rw[if_neg (by decide)];exact nM ok hr e2 e3 e4 R q1 q2 q3 q4 q5 q6 q7 q8 q9 q10 q11 (Array.getElem?_eq_some_iff.mp h1).1 fun s' h=>hq s' lo h
 ·refine Nv (Qy q1 q4 t1 ?_);rw[if_pos (show (Value.ref T != Value.none)=true from by simp)];rcases t7 with t7 | t7
  ·refine Nv (Qy t5 t6 t7 ?_);rw[if_neg (show ¬ ((Value.none==rawInt x.env.locals)=true) from by simp [rawInt])];refine Nv (R1 t5 t6 (Array.getElem?_eq_some_iff.mp t7).1 ?_);have other:∀b,b≠T→(s.heap.update T (RT (·.setIfInBounds 3 Value.none))).get? b=s.heap.get? b:=fun b hb=>Px _ _ (Pk hb);exact nM (s:={ s with heap:=s.heap.update T (RT (·.setIfInBounds 3 Value.none)) }) ok hr e2 e3 e4 (R.touch t2 (OQ _ _ _)) ((other _ (Pk t3)).trans q1) q2 q3 q4 q5 q6 ((other _ (Pk t4)).trans q7) q8 q9 q10 q11
    (Array.getElem?_eq_some_iff.mp t1).1 fun s' h=>hq s' lo h
  ·rw[hloc]at t7;refine Nv (Qy t5 t6 t7 ?_);rw[if_pos (by simp [rawInt])];exact NP (hq s lo ⟨ea,msg,H,rfl,e2,e3,e4,D,R,oe,vs,dx,es,n,mv,C,T,oT,ts,q1,q2,q3,q4,q5,q6,q7,q8,q9,q10,q11,t1,t2,t3,t4,t5,t6,t7⟩)
theorem fo{A:Around}{s:Shared}{e:Value}{E':Value→Shared→Prop}{Q:Unit→Shared→Prop}(ok:Ok d x A)(hr:bq x.env=true)(h:iu c base x E e s)
  (hq:∀s' lo',dE c base (x.fs lo') E .none e s'→Q () s'):wpAny c.M A (leaving x.env e) Q E' s:=by
 unfold leaving;refine Nv (fK ok hr h fun s' lo' h'=>?_);clear ok hr h;obtain ⟨ea,msg,H,rfl,e2,e3,e4,D,R,oe,vs,dx,es,n,mv,C,T,oT,ts,q1,q2,q3,q4,q5,q6,q7,q8,q9,q10,q11,t1,t2,t3,t4,t5,t6,t7⟩:=h';unfold setFlight;refine Nv (Qy q1 q4 t1 ?_);rw[if_pos (show (Value.ref T != Value.none)=true from by simp)];refine R1 t5 t6 (Array.getElem?_eq_some_iff.mp t7).1 (hq _ lo' ?_);have other:∀b,b≠T→(s'.heap.update T (RT (·.setIfInBounds 3 Value.none))).get? b=s'.heap.get? b:=fun b hb=>Px _ _ (Pk hb);have hd₃:=RV t6 (·.setIfInBounds 3 Value.none);refine ⟨ea,msg,H,rfl,e2,e3,e4,D,R.touch t2 (OQ _ _ _),oe,vs,dx,es,n,mv,C,T,_,_,(other _ (Pk t3)).trans q1,q2,q3,q4,q5,q6,(other _ (Pk t4)).trans q7,q8,q9,q10,q11,t1,t2,t3,t4,
  OL _ t5 (Rn hd₃),hd₃,?_⟩
 have:=(Array.getElem?_eq_some_iff.mp t7).1;simp [this]
end
end
section
section
variable{c:Cx}{d:Nat}{x:Fx}{lo:Lo}{H:AH}{E:XP}
theorem oX{a b:Str}{v w:V}(h:a≠b):bG (bG lo a v) b w=bG (bG lo b w) a v:=by
 funext z;unfold bG;by_cases h1:z=a
 ·subst h1;simp [h]
 ·by_cases h2:z=b
  ·skip;simp [h1]
  ·simp [h1,h2]
theorem W.unpackTuple{a:Addr}{xs:List V}(e:H a=some (.tup xs)){Q:List Value→Lo→AH→Prop}(h:∀vs,vs.map er=xs→Q vs lo H):W c d x (unpackItems (.ref a) xs.length none) lo H Q E:=by
 intro base s A ok R;refine (R.tup e).el fun items n g q=>?_;rw[← aQ q];refine unpackItems_tuple ok.handled ⟨_,g,rfl,n,rfl⟩ fun h' hs=>?_;have:aq c base (x.fs lo) H { s with heap:=h',toks:=s.toks }:=R.mono fun b o e=>hs b o (N1 (O5 e)) e;exact ⟨lo,H,this,h _ q⟩
theorem W.storeL{y:Str}{u:Value}{Q:Unit→Lo→AH→Prop}(hk:x.env.kindOf y=some .local)(h:Q () (bG lo y (er u)) H):W c d x (Pa x.env y u) lo H Q E:=by
 unfold Pa;exact W.bind (W.holding (W.point (W.bind (W.storeLocal hk (W.point h)))))
theorem AC{α:Type}{f:α→Option Str}{us:List α}(h:us.length=2)(h':(us.filterMap f).length=us.length):∃u v a b,us=[u,v]∧f u=some a∧f v=some b∧us.filterMap f=[a,b]:=by
 obtain ⟨u,r,rfl,h1⟩:=lX h.symm;clear h;obtain ⟨v,r,rfl,h2⟩:=lX h1;clear h1;obtain rfl:=List.length_eq_zero_iff.mp h2.symm;rw[O2]at h';refine ay (o:=f u) (fun e=>?_) (fun a e=>?_)
 ·rw[e]at h';exact absurd (Np (NL (Eq.symm h')) (QD f [v])) (Nat.not_succ_le_self 1)
 ·
  rw[e,O2]at h';refine ay (o:=f v) (fun e'=>?_) (fun b e'=>?_)
  ·rw[e']at h';exact nomatch h'
  ·exact ⟨u,v,a,b,rfl,e,e',by rw[O2,e,O2,e'];rfl⟩
inductive GU(us:List Nu)(env:Env):Option (List Str)→Prop
 | no:GU us env none
 | yes(a b:Str)(q r:Pos)(e:us=[.Name a q,.Name b r])(ha:env.kindOf a=some .local)(hb:env.kindOf b=some .local)(ne:a≠b):GU us env (some [a,b])
theorem vQ{env:Env}{ln:Nat}{y id:Str}{q:Pos}(e:(if (env.kindOf y==some .local&&q.line==ln)=true then some y else none)=some id):y=id∧env.kindOf y=some .local:=by
 by_cases hc:(env.kindOf y==some .local&&q.line==ln)=true
 ·exact ⟨Option.some.inj ((if_pos hc).symm.trans e),beq_iff_eq.mp (aa hc).1⟩
 ·exact ac ((if_neg hc).symm.trans e)
theorem zc{us:List Nu}{env:Env}{f:Nu→Option Str}(hn:∀u∈us,∃y q,u=.Name y q)(hf:∀y q id,f (.Name y q)=some id→y=id∧env.kindOf y=some .local)(hu:us.length=2)(h : ¬ ((us.filterMap f).length != us.length||(us.filterMap f).eraseDups.length != (us.filterMap f).length)=true):GU us env (some (us.filterMap f)):=by
 rw[PB,bne_iff_ne,not_or,Decidable.not_not]at h;obtain ⟨u,v,a,b,e1,e2,e3,e4⟩:=AC hu h.1;refine Nz (hn u (e1▸.head _)) fun y zz=>Nz (zz) fun q e5=>?_;refine Nz (hn v (e1▸.tail _ (.head _))) fun z zz=>Nz (zz) fun r e6=>?_;have ha:=hf y q a (e5▸e2);have hb:=hf z r b (e6▸e3);have h:=h.2;rw[e4]at h ⊢;refine .yes a b q r (by rw[e1,e5,e6,ha.1,hb.1]) (ha.1▸ha.2) (hb.1▸hb.2) fun e=>h ?_;rw[e];simp [List.eraseDups_cons]
theorem w9{p:Prop}[Decidable p]{x:Sem (Option (List Str))}{P:Option (List Str)→Prop}(hn:P none)(h : ¬ p→∃o,x=pure o∧P o):∃o,(if p then pure none else x)=pure o∧P o:=by
 by_cases hp:p
 ·exact ⟨none,if_pos hp,hn⟩
 ·exact (h hp).elim fun o z=>⟨o,(if_neg hp).trans z.1,z.2⟩
theorem j0{us:List Nu}{k:Nat}{p:Pos}{value:Nu}{env:Env}(hn:∀u∈us,∃y q,u=.Name y q)(hv:sP value=true):∃o,TF [.Tuple us k p] value env=pure o∧GU us env o:=by
 induction value using PySem.Expr.casesOn with
 | Tuple vs k' p'=>
  have hv:=aa hv;have hv1:vs.length=2:=Nx hv.1;unfold TF;dsimp only;refine w9 .no fun h1=>w9 .no fun ζ=>w9 .no fun h3=>w9 .no fun ζ=>?_;rw[(Oi _).mp hv.2];exact ⟨_,rfl,zc hn (fun y q id e=>vQ e) ((bne_eq_false_iff_eq.mp (Bool.or_eq_false_iff.mp ((Bool.or_eq_false_iff.mp (Bool.eq_false_iff.mpr h1)).1)).2).symm.trans hv1) h3⟩
 | _=>exact ⟨_,rfl,.no⟩
theorem oM{v:V}{k:List V→Prop}(h:kz H v k):∃a xs,v=.ref a∧H a=some (.tup xs)∧k xs:=by
 unfold kz at h
 induction v using V.casesOn with
 | ref a=>
  dsimp only at h;refine ay (o:=H a) (fun e=>?_) fun o e=>?_
  ·rw[e]at h;exact h.elim
  rw[e]at h
  induction o using O.casesOn with
  | tup xs=>exact ⟨a,xs,rfl,e,h⟩
  | _=>exact h.elim
 | _=>exact h.elim
theorem uH{env:Env} : ∀(us:List Nu),(∀u∈us,∃y q,u=.Name y q)→(Q5 us env).findIdx? (·.1)=none∧(Q5 us env).length=us.length:=by
 intro us
 induction us with
 | nil=>intro _;exact ⟨rfl,rfl⟩
 | cons u r ih=>
  intro h;obtain ⟨y,q,rfl⟩:=h _ (.head _);refine NO (fun h1 h2=>?_) (ih fun u hu=>h u (.tail _ hu));rw[(show Q5 (.Name y q::r) env=(false,assign (.Name y q) env)::Q5 r env from rfl)];refine ⟨?_,by simp [h2]⟩;rw[TP];simp [h1]
theorem lz{t:Option Nu}{n:Nat}{env:Env}{P:Bool→Sem Bool→Prop}(h0:P true (pure false))(h1:∀e gs sc p,P false (swapsWith (.ListComp e gs sc p) t n env))(h2:∀e gs sc p,P false (swapsWith (.SetComp e gs sc p) t n env))(h3:∀k v gs sc p,P false (swapsWith (.DictComp k v gs sc p) t n env))(e:Nu):P (gb e) (swapsWith e t n env):=by
 induction e using PySem.Expr.casesOn<;>first | exact h0 | exact h1 .. | exact h2 .. | exact h3 ..
theorem j8{e:Nu}{t:Option Nu}{n:Nat}{env:Env} : gb e=true→swapsWith e t n env=pure false:=
 lz (P:=fun b s=>b=true→s=pure false) (fun ζ=>rfl) (fun ζ ζ ζ ζ h=>(Nt h).elim) (fun ζ ζ ζ ζ h=>(Nt h).elim) (fun ζ ζ ζ ζ ζ h=>(Nt h).elim) e
theorem W.dropValue{e:Nu}{p:Pos}{v:Value}{Q:Flow→Lo→AH→Prop}(h:Q .next lo H):W c d x (Uf e p v) lo H Q E:=fun base s A ok R=>by
 have fin:(pP c base x (Q)) Flow.next s:=⟨lo,H,R,h⟩
 unfold Uf;split
 ·exact NP fin
 ·exact Nv (OH (Nv (wpAny_runValue (RM entry_let_go (NP (NP fin))))))
 ·exact NP fin
theorem oQ(value:Nu)(y:Str)(q:Pos)(n:Nat)(env:Env):∃b,swapsWith value (some (.Name y q)) n env=pure b∧(b=true→gb value=false):=
 lz (P:=fun c s=>∃b,s=pure b∧(b=true→c=false)) ⟨false,rfl,fun h=>(Nt h).elim⟩ (fun ζ ζ ζ ζ=>⟨_,rfl,fun ζ=>rfl⟩) (fun ζ ζ ζ ζ=>⟨_,rfl,fun ζ=>rfl⟩) (fun ζ ζ ζ ζ ζ=>⟨_,rfl,fun ζ=>rfl⟩) value
theorem dk{e t:Nu}{n:Nat}{env:Env}(h1:∀e gs sc p,swapsWith (.ListComp e gs sc p) (some t) n env=pure false)(h2:∀e gs sc p,swapsWith (.SetComp e gs sc p) (some t) n env=pure false)(h3:∀k v gs sc p,swapsWith (.DictComp k v gs sc p) (some t) n env=pure false):swapsWithSole [t] e n env=pure false:=
 lz (P:=fun ζ s=>s=pure false) rfl h1 h2 h3 e
end
section
variable{c:Cx}{d:Nat}{x:Fx}{se:SE}{F:Fr}{gx:List (Str×Gn)}{H:AH}{E:XP}{k b:I}{st:List V}{L:Ls}{Q:QR}{n:Nat}
abbrev QP(c:Cx)(F:Fr)(d:Nat)(k:I)(E:XP)(se:SE)(st:List V)(Q:QR){α:Type} : α→Lo→AH→Prop:=fun ζ l h=>∃L',l=cb se L'∧ao c F d k E st L' h Q
theorem W.bindN{y:Str}{u:Value}(fs:Fs c x se F gx)(h:ao c F d (cP (tr se gx) y k) E (er u::st) L H Q):W c d x (Pa x.env y u) (cb se L) H (QP c F d k E se st Q) E:=by
 unfold Pa;refine W.bind (W.holding (W.point (W.bind ?_)));refine c4 h fun kd hkd h'=>?_;clear h;rw[dB]at hkd;have hx:=fs.of.2 y;rw[show se.ns.lookup y=some kd from hkd]at hx;refine aw (o:=dL kd) (fun h1=>?_) (fun h1=>?_)
 ·
  rw[h1]at h';refine c4 h' fun i hi h=>?_;rw[dK h1]at hx;exact W.storeLocal hx (W.point ⟨_,(eC hi).symm,h⟩)
 ·
  rw[h1]at h';refine c9 h' fun h2 h=>?_;clear h';refine c4 h fun i hi h'=>?_;clear h;refine dm h' fun a ha h=>?_;refine vn h fun o ho h'=>?_;rw[fs.cell hi]at ha;rw[gU h2]at hx;exact W.storeCell hx.1 (hx.2.trans ha) ho (W.point ⟨_,rfl,h'⟩)
theorem W.assignN{y:Str}{q:Pos}{u:Value}(fs:Fs c x se F gx)(h:ao c F d (cP (tr se gx) y k) E (er u::st) L H Q):W c d x (assign (.Name y q) x.env u) (cb se L) H (QP c F d k E se st Q) E:=by
 rw[arm_assign_Name];exact W.standAt' (W.bindN fs h)
noncomputable abbrev FJ(t:CE)(us:List Nu)(k:I):I:=us.foldr (fun u k=>bQ (gf u) fun y=>cP t y k) k
theorem W.stores(fs:Fs c x se F gx)(us:List Nu):∀(vs:List Value) {L:Ls}{H:AH},us.length=vs.length→ao c F d (FJ (tr se gx) us k) E (vs.map er++st) L H Q→
  W c d x (Sl ((Q5 us x.env).map (·.2)) vs) (cb se L) H (QP c F d k E se st Q) E:=by
 induction us with
 | nil=>intro vs L H hl h;obtain rfl:=List.length_eq_zero_iff.mp hl.symm;exact W.pure ⟨L,rfl,h⟩
 | cons u r ih=>
  intro vs L H hl h;obtain ⟨v,vs,rfl,hl'⟩:=lX hl;refine c4 h fun y hy h'=>?_;clear h;obtain ⟨q,rfl⟩:=bR hy;show W c d x (PySem.holding vs (assign (.Name y q) x.env v) >>= fun ζ=>Sl ((Q5 r x.env).map (·.2)) vs) _ H _ E;refine W.bind (W.holding (W.mono (W.assignN fs h') (fun a l h z=>?_) fun ζ ζ e=>e));obtain ⟨L',rfl,h₁⟩:=z;exact ih vs hl' h₁
theorem lh:∀(us:List Nu) (vs:List V) {L:Ls}{H:AH},us.length=vs.length→ao c F d (FJ (tr se gx) us k) E (vs++st) L H Q→∀u∈us,∃y q,u=.Name y q
 | [],_,L,H,_,h=>fun ζ h=>absurd h Oo
 | u::r,[],L,H,hl,h=>by exact (Pu _ hl).elim
 | u::r,v::vs,L,H,hl,h=>fun w hw=>by
  refine c4 h fun y hy h'=>?_;clear h;obtain ⟨q,rfl⟩:=bR hy;rcases List.mem_cons.mp hw with rfl | hw
  ·exact ⟨y,q,rfl⟩
  ·have:∃L' H',ao c F d (FJ (tr se gx) r k) E (vs++st) L' H' Q:=by
    refine c4 h' fun kd ζ h=>?_;refine aw (o:=dL kd) (fun h1=>?_) (fun h1=>?_)
    ·
     rw[h1]at h;refine c4 h fun i ζ h=>?_;exact ⟨_,_,h⟩
    ·
     rw[h1]at h;refine c9 h fun ζ h=>?_;refine c4 h fun i ζ h=>?_;refine dm h fun a ζ h=>?_;refine vn h fun o ζ h=>?_;exact ⟨_,_,h⟩
   refine Nz (this) fun L' zz=>Nz (zz) fun H' h=>?_;exact lh r vs (Nat.succ.inj hl) h w hw
theorem nX{y:Str}{v:V}(fs:Fs c x se F gx)(hk:x.env.kindOf y=some .local)(h:ao c F d (cP (tr se gx) y k) E (v::st) L H Q):∃L',cb se L'=bG (cb se L) y v∧ao c F d k E st L' H Q:=by
 refine c4 h fun kd hkd h'=>?_;clear h;rw[dB]at hkd;have hx:=fs.of.2 y;rw[show se.ns.lookup y=some kd from hkd]at hx;refine aw (o:=dL kd) (fun h1=>?_) (fun h1=>?_)
 ·
  rw[h1]at h';refine c4 h' fun i hi h=>?_;exact ⟨_,eC hi,h⟩
 ·
  rw[h1]at h';refine c9 h' fun h2 h=>?_;rw[gU h2,hk]at hx;exact nomatch hx.1
theorem W.swapped{a b:Str}{p q:Pos}(fs:Fs c x se F gx)(ha:x.env.kindOf a=some .local)(hb:x.env.kindOf b=some .local)(hne:a≠b){v w:Value}
  (h:ao c F d (FJ (tr se gx) [PySem.Expr.Name a p,PySem.Expr.Name b q] k) E ([er v,er w]++st) L H Q):W c d x (Sl (([a,b]:List Str).reverse.map fun n=>Pa x.env n) [w,v]) (cb se L) H (QP c F d k E se st Q) E:=by
 refine Nz (nX fs ha h) fun L₁ zz=>NO (fun e1 h1=>?_) (zz);refine Nz (nX fs hb h1) fun L₂ zz=>NO (fun e2 h2=>?_) (zz);show W c d x (Sl [Pa x.env b,Pa x.env a] [w,v]) _ H _ E;refine W.bind (W.holding (W.storeL hb (W.bind (W.holding (W.storeL ha (W.pure ⟨L₂,?_,h2⟩))))));rw[e2,e1,oX hne]
theorem gH{us:List Nu}{m:Nat}{p:Pos}{value:Nu}{v:Value}(fs:Fs c x se F gx)(hv:sP value=true)(h:ao c F d (.unp us.length (FJ (tr se gx) us k)) E (er v::st) L H Q) :
  W c d x (do assignStores x.env v (← TF [.Tuple us m p] value x.env) ((Q5 [.Tuple us m p] x.env).map (·.2))) (cb se L) H (fun f l h=>f=.next∧QP c F d k E se st Q () l h) E:=by
 obtain ⟨a,xs,e,ha,hlen,h'⟩:=oM h;clear h;refine az e ?_;have hn:=lh us xs hlen.symm h';obtain ⟨sw,e,hsw⟩:=j0 (us:=us) (k:=m) (p:=p) (env:=x.env) hn hv;rw[e,pure_bind];clear e
 induction hsw with
 | no=>
  show W c d x (assign (.Tuple us m p) x.env (.ref a) >>= fun ζ=>pure Flow.next) _ H _ E
  rw[arm_assign_Tuple];refine W.bind (W.standAt' ?_);unfold unpack;refine NO (fun f1 f2=>?_) (uH (env:=x.env) us hn);rw[f1,f2,← hlen];refine W.bind (W.holding (W.unpackTuple ha fun vs hvs=>?_));subst hvs;exact W.mono (W.stores fs us vs (by rw[← hlen,Nq]) h') (fun ζ l h q=>W.pure ⟨rfl,q⟩) fun ζ ζ e=>e
 | yes y z q r e0 hy hz hne=>
  subst e0;unfold assignStores;refine W.bind (W.rule ?_);rw[show [y,z].length=xs.length from hlen.symm];refine W.bind (W.unpackTuple ha fun vs hvs=>?_);subst hvs;rw[Nq]at hlen;obtain ⟨v,w,rfl⟩:∃v w,vs=[v,w]:=by
   rcases vs with _ | ⟨v,_ | ⟨w,_ | _⟩⟩<;>first | (cases hlen;done) | exact ⟨_,_,rfl⟩
  exact W.bind (W.mono (W.swapped fs hy hz hne h') (fun ζ l h q=>W.pure ⟨rfl,q⟩) fun ζ ζ e=>e)
end
end
section
noncomputable def qI(names:List (Str×Ov))(binds:List (Str×V))(cl:List (Str×Addr))(H:AH)(k:List (Str×Addr)→AH→Prop):Prop:=match names with
 | []=>k cl H
 | (n,.cell)::r=>∀a,H a=none→qI r binds ((n,a)::cl) (upd H a (.cell (binds.lookup n))) k
 | _::r=>qI r binds cl H k
noncomputable def pg(names:List (Str×Ov))(binds:List (Str×V)):Lo:=fun y=>if names.lookup y=some .local then binds.lookup y else none
noncomputable def eP:Nat→List (Str×Ov)→List (Str×V)→AH→AH
 | _,[],_,H=>H
 | n,(x,k)::r,bs,H=>if k == .cell then eP (n+1) r bs (upd H n (.cell (bs.lookup x))) else eP n r bs H
noncomputable def bc:Nat→List (Str×Ov)→List (Str×Addr)
 | _,[]=>[]
 | n,(x,k)::r=>if k == .cell then (x,n)::bc (n+1) r else bc n r
theorem cR:∀(names:List (Str×Ov)) (n:Nat) (acc:List (Str×Addr)),Qf n names acc=(bc n names).reverse++acc
 | [],n,acc=>rfl
 | (x,k)::r,n,acc=>by
  show (if (k==NameKind.cell)=true then Qf (n+1) r ((x,n)::acc) else Qf n r acc)=(if (k==NameKind.cell)=true then (x,n)::bc (n+1) r else bc n r).reverse++acc;refine dP (o:=k == .cell) (cR r n acc) ((cR r (n+1) _).trans ?_);show _=((x,n)::bc (n+1) r).reverse++acc;rw[PE,Om];rfl
theorem jN{binds:List (Str×V)}{k:List (Str×Addr)→AH→Prop} : ∀(names:List (Str×Ov)) (n:Nat) (acc:List (Str×Addr)) (H:AH),qI names binds acc H k→(∀j,n≤j→H j=none)→k (Qf n names acc) (eP n names binds H)
 | [],n,acc,H,h,hf=>h
 | (x,kd)::r,n,acc,H,h,hf=>by
  induction kd with
  | cell=>
   exact jN r (n+1) _ _ (h n (hf n (Oe _))) fun j hj=>by rw[am (show j≠n from N6 hj)];exact hf j (Np (PC _) ‹_›)
  | _=>exact jN r n acc H h hf
theorem lb:∀(names:List (Str×Ov)) (n:Nat),∀p∈bc n names,n≤p.2
 | [],n=>fun ζ h=>absurd h Oo
 | (x,k)::r,n=>by
  show ∀p∈(if (k==NameKind.cell)=true then (x,n)::bc (n+1) r else bc n r),n≤p.2;refine dP (o:=k == .cell) (lb r n) fun p hp=>?_;refine (List.mem_cons.mp hp).elim (fun e=>e▸Oe _) fun hp=>OI (lb r (n+1) p hp)
theorem gZ{c:Cx}{base h:Heap}{fs:List Fm}{D:Addr→Addr}{bs:List (Str×V)} : ∀(names:List (Str×Ov)) (n:Nat) (H:AH),aE c base fs H h D→(∀j,n≤j→aH base H D fs j)→
  (∀p∈bc n names,∃cv,h.IsCell p.2 cv∧cv.map er=bs.lookup p.1)→aE c base fs (eP n names bs H) h D
 | [],n,H,R,hf,hc=>R
 | (x,k)::r,n,H,R,hf,hc=>by
  replace hc:∀p∈(if (k==NameKind.cell)=true then (x,n)::bc (n+1) r else bc n r),∃cv,h.IsCell p.2 cv∧cv.map er=bs.lookup p.1:=hc;show aE c base fs (if (k==NameKind.cell)=true then eP (n+1) r bs (upd H n (.cell (bs.lookup x))) else eP n r bs H) h D;refine aw (o:=k == .cell) (fun hk=>?_) fun hk=>?_
  ·rw[hk]at hc;refine gZ r (n+1) _ (R.adopt (h':=h) (o:=.cell (bs.lookup x)) (hf n (Oe _)) (PP _ _) rfl (hc _ (.head _))) (fun j hj=>?_) fun p hp=>hc p (.tail _ hp);obtain ⟨f1,f2,f3,f4⟩:=hf j (OI ‹_›);refine ⟨f1,by rw[am (show j≠n from N6 hj)];exact f2,fun a o e i=>?_,f4⟩;by_cases q:a=n
   ·cases q;rw[aj]at e;injection e with e;subst e;exact (Nt i).elim
   ·have e:=(am q).symm.trans e;exact f3 a o e i
  ·rw[hk]at hc;exact gZ r n H R hf hc
theorem e9{α:Type}{y n:Str}{v:α}{r:List (Str×α)}(h:y≠n):OB y ((n,v)::r)=r.lookup y:=by
 rw[NK,(beq_eq_false_iff_ne.mpr h)]
theorem fb{α:Type}{n:Str}{v:α}{r:List (Str×α)} : OB n ((n,v)::r)=some v:=by
 rw[NK,Oh]
theorem qt{α:Type}{n:Str}{r:List (Str×α)}(h:n ∉ r.map (·.1)):r.lookup n=none:=
 List.lookup_eq_none_iff.mpr fun p hp=>bne_iff_ne.mpr fun q=>h (List.mem_map.mpr ⟨p,hp,q.symm⟩)
theorem nZ{kd:Str→Option Ov}(y:Str):∀(binds:List (Str×Value)) (m:Str→Option Value),(binds.map (·.1)).Nodup→bindL kd binds m y=if kd y=some .local then (binds.lookup y).or (m y) else m y
 | [],m,_=>(ite_self _).symm
 | (n,v)::r,m,hn=>by
  refine (nZ y r _ (List.nodup_cons.mp hn).2).trans ?_;by_cases h:y=n
  ·subst h;rw[qt (List.nodup_cons.mp hn).1,fb];by_cases hy:kd y=some .local
   ·rw[if_pos hy,if_pos hy,if_pos hy];exact if_pos rfl
   ·rw[if_neg hy,if_neg hy,if_neg hy]
  ·rw[e9 h];have e:(if kd n=some .local then fun y=>if y=n then some v else m y else m) y=m y:=by
    by_cases hn:kd n=some .local
    ·rw[if_pos hn];exact if_neg h
    ·rw[if_neg hn]
   rw[e]
theorem n5{kd:Str→Option Ov}(y:Str):∀(binds:List (Str×Value)) (m:Str→Option Value),(binds.map (·.1)).Nodup→bindC kd binds m y=if kd y=some .local then m y else (binds.lookup y).or (m y)
 | [],m,_=>(ite_self _).symm
 | (n,v)::r,m,hn=>by
  refine (n5 y r _ (List.nodup_cons.mp hn).2).trans ?_;by_cases h:y=n
  ·subst h;rw[qt (List.nodup_cons.mp hn).1,fb];by_cases hy:kd y=some .local
   ·rw[if_pos hy,if_pos hy,if_pos hy]
   ·rw[if_neg hy,if_neg hy,if_neg hy];exact if_pos rfl
  ·rw[e9 h];have e:(if kd n=some .local then m else fun y=>if y=n then some v else m y) y=m y:=by
    by_cases hn:kd n=some .local
    ·rw[if_pos hn]
    ·rw[if_neg hn];exact if_neg h
   rw[e]
theorem dA(y:Str):∀(l:List (Str×Value)),(l.lookup y).map er=(l.map fun p=>(p.1,er p.2)).lookup y
 | []=>rfl
 | (n,v)::r=>by
  by_cases h:y=n
  ·rw[h,fb];exact fb.symm
  ·rw[e9 h];exact (dA y r).trans (e9 h).symm
inductive Nn(c:Cx)(f:Addr)(qual:Str)(params:P5)(body:List O0)(scope:Scope)(dV:Value)(cdv:Value):Prop
 | mk (oc od osl name kV doc pm an ct) (h:c.K.lookup f=some ⟨oc,od,.func (fnOf name qual params body scope dV kV doc pm an cdv ct),osl⟩)
structure oB(c:Cx)(f:Addr)(qual:Str)(params:P5)(body:List O0)(scope:Scope)(dV:Value)(cdv:Value):Prop where
 at_:Nn c f qual params body scope dV cdv
 code:codeIn c.K cdv qual=true
noncomputable def f7(sc:Scope)(ps:List Str):Bool:=
 decide (sc.kind=.function)&&!sc.isCoroutine&&!sc.isGenerator&&decide ps.Nodup&&decide ((sc.names.map (·.1)).Nodup)&&ps.all fun p=>decide (sc.names.lookup p=some .local)||decide (sc.names.lookup p=some .cell)
section
variable{c:Cx}{d:Nat}{E:XP}
theorem fN{x:Str} : ∀(names:List (Str×Ov)) (n:Nat),(x,NameKind.cell)∈names→∃a,(x,a)∈bc n names
 | (y,k)::r,n,h=>by
  rcases List.mem_cons.mp h with e | h
  ·injection e with e zz;subst e;subst zz;exact ⟨n,.head _⟩
  ·show ∃a,(x,a)∈(if (k==NameKind.cell)=true then (y,n)::bc (n+1) r else bc n r);exact dP (o:=k == .cell) (fN r n h) ((fN r (n+1) h).elim fun a ha=>⟨a,.tail _ ha⟩)
theorem bJ{x:Str}{k:Ov} : ∀(l:List (Str×Ov)),l.lookup x=some k→(x,k)∈l
 | (m,k')::r,h=>by
  by_cases hm:x=m
  ·subst hm;exact (Option.some.inj (fb.symm.trans h))▸.head _
  ·exact .tail _ (bJ r ((e9 hm).symm.trans h))
theorem cM{x:Str}{a:Addr} : ∀(names:List (Str×Ov)) (n:Nat),(x,a)∈bc n names→(x,NameKind.cell)∈names
 | [],n,h=>by cases h
 | (y,k)::r,n,h=>by
  replace h:(x,a)∈(if (k==NameKind.cell)=true then (y,n)::bc (n+1) r else bc n r):=h;revert h;refine aG (o:=k == .cell) (fun ζ h=>.tail _ (cM r _ h)) fun hk h=>?_;rcases List.mem_cons.mp h with e | h
  ·injection e with e;subst e;exact (beq_iff_eq.mp hk)▸.head _
  ·exact .tail _ (cM r _ h)
theorem cz{α:Type}{x:Str}{a:α} : ∀(l:List (Str×α)),(l.map (·.1)).Nodup→(x,a)∈l→l.lookup x=some a
 | (y,b)::r,hn,h=>by
  rcases List.mem_cons.mp h with e | h
  ·injection e with e zz;subst e;subst zz;exact fb
  ·exact (e9 fun q=>(List.nodup_cons.mp hn).1 (List.mem_map.mpr ⟨(x,a),h,q⟩)).trans (cz r (List.nodup_cons.mp hn).2 h)
theorem d4:∀(names:List (Str×Ov)) (n:Nat),(names.map (·.1)).Nodup→((bc n names).map (·.1)).Nodup
 | [],n,h=>Qt
 | (y,k)::r,n,h=>by
  rw[NT,Op]at h;show ((if (k==NameKind.cell)=true then (y,n)::bc (n+1) r else bc n r).map (·.1)).Nodup;refine dP (o:=k == .cell) (d4 r _ h.2) (List.nodup_cons.mpr ⟨fun q=>h.1 ?_,d4 r _ h.2⟩);obtain ⟨p,hp,e⟩:=List.mem_map.mp q;exact List.mem_map.mpr ⟨_,cM r _ hp,e⟩
theorem hY{sc:Scope}{ps:List Str}(h:f7 sc ps=true):sc.kind=.function∧sc.isCoroutine=false∧sc.isGenerator=false∧ps.Nodup∧(sc.names.map (·.1)).Nodup∧∀p∈ps,sc.names.lookup p=some .local∨sc.names.lookup p=some .cell:=by
 have h5:=aa h;have h4:=aa h5.1;have h3:=aa h4.1;have h2:=aa h3.1;have h1:=aa h2.1;exact ⟨Nx h1.1,(Oi _).mp h1.2,(Oi _).mp h2.2,Nx h3.2,Nx h4.2,fun p hp=>((PB _ _).mp (List.all_eq_true.mp h5.2 p hp)).imp Nx Nx⟩
theorem dE.pop{base:Heap}{f:Fm}{fs:List Fm}{fl e:Value}{s:Shared}(h:dE c base (f::fs) E fl e s):dE c base fs E fl e s:=by
 obtain ⟨ea,msg,H,rfl,e2,e3,e4,D,R,oe,vs,dx,es,n,mv,C,T,oT,ts,q1,q2,q3,q4,q5,q6,q7,q8,q9,q10,q11,t1,t2,t3,t4,t5,t6,t7⟩:=h;have p:∀{b},aH base H D (f::fs) b→aH base H D fs b:=fun ⟨a,b,c,d⟩=>⟨a,b,c,fun g hg=>d g (.tail _ hg)⟩;exact ⟨ea,msg,H,rfl,e2,e3,e4,D,R.pop,oe,vs,dx,es,n,mv,C,T,oT,ts,q1,q2,q3,q4,q5,p q6,q7,q8,q9,p q10,q11,t1,p t2,t3,t4,t5,t6,t7⟩
end
end
section
section
variable{c:Cx}{d:Nat}{E:XP}
theorem Ok.made{x:Fx}{A:Around}{C:Addr}{vals:List Value}(ok:Ok (d+1) x A):Ok d x (A.under (.builtin "type.__call__" ⟨.ref C::vals,[]⟩)):=by
 refine ⟨ok.handled,?_,?_,ok.frames,ok.envs,ok.framed⟩
 ·exact Js ok.depth
 ·exact Lc ok.units
structure vA(c:Cx)(C fI:Addr):Prop where
 keep:keepIn c.K (.ref C)=true
 makes:makesIn c.K C=true
 init:findIn c.K (.ref C) "__init__" = some (some (.ref fI))
 fn:typeIn c.K (.ref fI)=some (.type "function")
theorem dv{C fI:Addr}{args:List V}{H:AH}{Q:Q1}(hc:vA c C fI)
  (h:∀n,H n=none→dy c d (.ref fI) (.ref n::args) (upd H n (.inst C [])) (fun v H'=>v=.none∧Q (.ref n) H') E):dy c (d+1) (.ref C) args H Q E:=by
 refine ⟨.inl hc.keep,fun x lo fv vs hf ha base s A ok R=>?_⟩;refine az hf ?_;have X:=R.frag;obtain ⟨hh,g,dr,t,os⟩:=s;refine make_core (makes_of X hc.makes) (SH X hc.init) (fun self=>bind_fn X self hc.fn) (.inl rfl) ?_;have hn:hh.get? (hh.objs.size+1)=none:=NX (PC _);have hd:hh.get? hh.objs.size=none:=NX (Oe _);have k:∀b o,hh.get? b=some o→((hh.push emptyDict).push (S1 C hh.objs.size)).get? b=some o:=fun b o e=>NR _ (NR _ e);have hHn:=R.freshN hn;have R₁:aq c base (x.fs lo) (upd H (hh.objs.size+1) (.inst C [])) ⟨(hh.push emptyDict).push (S1 C hh.objs.size),g,dr,t,os⟩:=by
  obtain ⟨g,o,D,R⟩:=R;refine ⟨g,o,_,R.addInst (d:=hh.objs.size) hn hd (QW _) k ⟨?_,[],0,?_,.nil,Qt⟩⟩
  ·have:=N9 (hh.push emptyDict) (o:=S1 C hh.objs.size) rfl;rw[Heap.size_push]at this;exact this
  ·exact NR _ (N9 _ rfl)
 refine SI ((h _ hHn).2 x lo (.ref fI) (.ref (hh.objs.size+1)::vs) rfl (by rw[NT,ha];rfl) base _ _ ok.made R₁) fun r s' z=>?_;rcases r with e | (v | _ | _ | _)<;>first | exact z | exact z.elim | skip
 obtain ⟨H',R',q1,q2⟩:=z;exact ⟨gD q1,H',R',q2⟩
end
end
section
structure XF(B newId initId:String)(bm:List Value):Prop extends ExcCallFacts B newId initId where
 newSplit:splitId newId=some (B,"__new__")
 newKind:builtinKind newId=some .builtinFn
 newRow:Manifest.signature? newId=some ⟨.any,B,B,.cls,[⟨"args",.varPos,false⟩,⟨"kwargs",.varKw,false⟩]⟩
 hasB:bm.contains (.type B)=true
 hasBase:bm.contains (.type "BaseException")=true
 noAttr:bm.contains (.type "AttributeError")=false
 noName:bm.contains (.type "NameError")=false
 canon:Ta newId=Ta "BaseException.__new__"
theorem XF.of{B newId initId:String}{bm:List Value}(F:ExcBaseFacts B newId initId bm)(C2:Addr):XF B newId initId (.ref C2::bm) where
 toExcCallFacts:=F.toExcCallFacts
 newSplit:=F.newSplit
 newKind:=F.newKind
 newRow:=F.newRow
 hasB:=by rw[Ox,F.hasB,PA]
 hasBase:=by rw[Ox,F.hasBase,PA]
 noAttr:=(F.noAttr)
 noName:=(F.noName)
 canon:=F.canon
section
variable{M:Model}{A:Around}{E:Value→Shared→Prop}{h:Heap}{g:Array Rg}{d:Drawn}{t:Nat}{os:RH}
variable{nm q:Str}{C N:Addr}{bs bm:List Value}{hdct:Bool}{sn:List Str}{sub:List Value}{ab:Bool}{col:Option Bool}{dd:Option Addr}{k0 k1 k2 k3 k5:Option Value}{B newId initId:String}
theorem lq(F:XF B newId initId bm){rest:List Value}{Q:Unit→Shared→Prop}(hC:h.get? C=some (P1 nm q C N bs bm hdct sn sub ab col dd k0 k1 k2 k3 k5 newId))
  (hq:Q () ⟨h,g,d,t,os⟩):wpAny M A (checkBuiltinCall newId ⟨.ref C::rest,[]⟩) Q E ⟨h,g,d,t,os⟩:=by
 have hstar:=F.noStar;rw[checkBuiltinCall,F.newKind,F.newSplit,F.newRow]
 repeat (first | refine Ps hC ?_ | (refine QA hC ?_;rw[(show (Value.ref C::bm).contains (.type B)=true from by rw[Ox,F.hasB,PA])]) | refine wpAny_staticBase_exc hC ?_ | refine wpAny_madeBy_exc hC ?_ | rw[bne_self_eq_false,Qq,TE] | wp_step)
 exact hq
end
section
variable{prog:R6}{w:World}{A:Around}{R:Result→Shared→Prop}{E:Value→Shared→Prop}{h:Heap}{g:Array Rg}{d:Drawn}{t:Nat}{os:RH}
variable{nm q:Str}{C N:Addr}{bs bm:List Value}{hdct:Bool}{sn:List Str}{sub:List Value}{ab:Bool}{col:Option Bool}{dd:Option Addr}{k0 k1 k2 k3 k5:Option Value}{B newId initId:String}
theorem yY(F:XF B newId initId bm){rest:List Value}(hC:h.get? C=some (P1 nm q C N bs bm hdct sn sub ab col dd k0 k1 k2 k3 k5 newId))
  (hq:R (.ok (.ret (.ref (h.objs.size+1)))) ⟨(h.push { cls:=.type "tuple",data:=.seq rest.toArray }).push
   {cls:=.ref C,data:=.fields #[.ref h.objs.size,.none,.none,.none,.bool false,.none] },g,d,t,os⟩) (hrest:rest.length≤QH) :
  Re (model prog w) A (.builtin newId ⟨.ref C::rest,[]⟩) R ⟨h,g,d,t,os⟩:=by
 have hends:=F.ends;have hcB:(Value.ref C::bm).contains (.type B)=true:=by rw[Ox,F.hasB,PA]
 have hcA:(Value.ref C::bm).contains (.type "AttributeError")=false:=by rw[Ox,F.noAttr];rfl
 have hcN:(Value.ref C::bm).contains (.type "NameError")=false:=by rw[Ox,F.noName];rfl
 refine codeAny_builtinAt F.entry ?_;unfold Builtin.«BaseException.__new__»;refine Ue ?_;show PySem.wpAt _ _ _ (stack >>= _) _ _ _;refine Ue (PySem.wpAt_stack fun p below=>Tl ?_);wp_walk;refine Tl ?_;rw[F.owner]
 repeat (first | with_reducible refine wpAny_madeHere_exc F.canon hC ?_ | with_reducible refine Ps hC ?_ | (with_reducible refine QA hC ?_;simp only [hcB,hcA,hcN]) | wp_step)
 show R _ _;rw[Heap.size_push];exact hq
theorem mI{K:W.Frag}(X:K.In h)(F:XF B newId initId bm){rest:List Value}{fI:Addr}{Q:Fin→Shared→Prop}
  (hC:h.get? C=some (P1 nm q C N bs bm hdct sn sub ab col dd k0 k1 k2 k3 k5 newId)) (hi:W.findIn K (.ref C) "__init__" = some (some (.ref fI))) (hf:W.typeIn K (.ref fI)=some (.type "function"))
  (hq:∀h' e,Heap.MadeExcOf h h' e (.ref C) rest→
   wpAny (model prog w) A (call (.ref fI) (.ref e::rest)) (fun r s'=>r=.none∧Q (.done (.ret (.ref e))) s') E ⟨h',g,d,t,os⟩) (hrest:rest.length≤QH) :
  wpAny (model prog w) A (Builtin.«type.__call__» ⟨.ref C::rest,[]⟩) Q E ⟨h,g,d,t,os⟩:=by
 repeat (first | with_reducible refine Ps hC ?_ | with_reducible refine wpAny_madeBy_exc hC ?_ | wp_step)
 refine codeAny_call_builtin_code (TT _ F.quiet) (lq F hC ?_);refine yY F hC ?_ hrest;show wpAny _ _ _ _ _ _;have hk:∀b o,h.get? b=some o→((h.push { cls:=.type "tuple",data:=.seq rest.toArray }).push { cls:=.ref C,data:=.fields #[.ref h.objs.size,.none,.none,.none,.bool false,.none] }).get? b=some o:=
  fun b o e=>NR _ (NR _ e)
 have X₁:K.In ((h.push { cls:=.type "tuple",data:=.seq rest.toArray }).push { cls:=.ref C,data:=.fields #[.ref h.objs.size,.none,.none,.none,.bool false,.none] }):=fun a o e=>hk _ _ (X a o e);have hget:((h.push { cls:=.type "tuple",data:=.seq rest.toArray }).push
   {cls:=.ref C,data:=.fields #[.ref h.objs.size,.none,.none,.none,.bool false,.none] }).get? (h.objs.size+1)=some
   {cls:=.ref C,data:=.fields #[.ref h.objs.size,.none,.none,.none,.bool false,.none] }:=by heap_get
 unfold isInstance
 repeat (first | with_reducible refine Ps hget ?_ | (with_reducible refine QA (hk _ _ hC) ?_;rw[(show (Value.ref C::bm).contains (.ref C)=true from by simp)]) | wp_step)
 show wpAny _ _ (typeLookup (.ref C) _) _ _ _;refine (W.looks_findIn X₁ hi).here ?_;refine Oy (Nv ?_);refine (W.bind_fn X₁ _ hf).here ?_;refine Nv (OJ (hq _ (h.objs.size+1) ⟨hk,NX (PC _),h.objs.size,hget,NX (Oe _),?_⟩) (fun r s' hr=>?_) fun ζ ζ x=>x)
 ·exact NR _ (T5 rfl rfl)
 ·obtain ⟨rfl,hQ⟩:=hr;wp_walk;exact hQ
theorem vF{K:W.Frag}(X:K.In h)(F:XF B newId initId bm){rest:List Value}{fI:Addr}{Q:Value→Shared→Prop}
  (hC:h.get? C=some (P1 nm q C N bs bm hdct sn sub ab col dd k0 k1 k2 k3 k5 newId)) (hi:W.findIn K (.ref C) "__init__" = some (some (.ref fI))) (hf:W.typeIn K (.ref fI)=some (.type "function"))
  (hq:∀h' e,Heap.MadeExcOf h h' e (.ref C) rest→
   wpAny (model prog w) (A.under (.builtin "type.__call__" ⟨.ref C::rest,[]⟩)) (call (.ref fI) (.ref e::rest)) (fun r s'=>r=.none∧Q (.ref e) s') E ⟨h',g,d,t,os⟩) (hrest:rest.length≤QH) :
  wpAny (model prog w) A (call (.ref C) rest) Q E ⟨h,g,d,t,os⟩:=by
 have f1:=tc_lookup;have f2:=tc_bind (.ref C);have hT:(⟨h,g,d,t,os⟩:Shared).TypeIs (.ref C) "type":=⟨_,hC,rfl⟩;refine Ts (codeAny_of_tree ?_);show wpAny _ _ (callAny (.ref C) _) _ _ _
 repeat (any_goals (first | assumption | with_reducible refine Ps hC ?_ | wp_step))
 refine ⟨rfl,?_⟩;refine codeAny_call_builtin_at (TT _ (by decide +kernel)) entry_typeCall (wpAny_check_type_call_sub hC (mI X F hC hi hf (fun h' e hm=>?_) hrest));exact hq h' e hm
end
end
section
open Builtin Builtin.ObjectAttr
abbrev ik(C2:Addr):List Value:=[.ref C2,.type "Exception",.type "BaseException",.type "object"]
inductive GB(c:Cx)(C C2:Addr):Prop
 | mk (nm q N bs sn sub ab col dd k0 k1 k2 k3 k5) (h:c.K.lookup C=some (P1 nm q C N bs (ik C2) true sn sub ab col dd k0 k1 k2 k3 k5 "Exception.__new__"))
structure RF(c:Cx) where
 C:Addr
 C2:Addr
 fI:Addr
 cls:GB c C C2
 keep:keepIn c.K (.ref C)=true
 init:findIn c.K (.ref C) "__init__" = some (some (.ref fI))
 fn:typeIn c.K (.ref fI)=some (.type "function")
 noMsg:findIn c.K (.ref C) "message" = some none
 setA:findIn c.K (.ref C) "__setattr__" = some (some (.builtin "object.__setattr__"))
 getA:findIn c.K (.ref C) "__getattribute__" = some (some (.builtin "BaseException.__getattribute__"))
 bex:mroIn c.K C (.type "BaseException")=some true
 getB:findIn c.K (.ref C) "__getattr__" = some none
 obj:mroIn c.K C (.type "object")=some true
 has:c.has (No "Refusal")
 gl:c.gl (No "Refusal")=.ref C
 ns:nsIn c.K OW (No "Refusal")=some (some (.ref C))
abbrev dZ(C t:Addr)(dd:Option Addr):Obj:={ cls:=.ref C,dict:=dd,data:=.fields #[.ref t,.none,.none,.none,.bool false,.none] }
section
variable{c:Cx}{A:Around}{s:Shared}{E':Value→Shared→Prop}
inductive xI(c:Cx)(C C2:Addr):Prop
 | mk(nm q:Str)(N:Addr)(bs:List Value)(sn:List Str)(sub:List Value)(ab:Bool)(col:Option Bool)(dd:Option Addr)(k0 k1 k2 k3 k5:Option Value)(hc:clsIn c.K C=some { name:=nm,bases:=bs,mro:=.ref C::ik C2,ns:=N,qualname:=q,hasDict:=true,slotNames:=sn,subclasses:=sub,abstract:=ab,collection:=col,hasDel:=false })
  (hK:c.K.lookup C=some (P1 nm q C N bs (ik C2) true sn sub ab col dd k0 k1 k2 k3 k5 "Exception.__new__"))
theorem xI.el{c:Cx}{C C2:Addr}{P_:Prop}(h_:xI c C C2)(k_:∀(nm q:Str) (N:Addr) (bs:List Value) (sn:List Str) (sub:List Value) (ab:Bool) (col:Option Bool) (dd:Option Addr) (k0 k1 k2 k3 k5:Option Value) (hc:clsIn c.K C=some { name:=nm,bases:=bs,mro:=.ref C::ik C2,ns:=N,qualname:=q,hasDict:=true,slotNames:=sn,subclasses:=sub,abstract:=ab,collection:=col,hasDel:=false }) (hK:c.K.lookup C=some (P1 nm q C N bs (ik C2) true sn sub ab col dd k0 k1 k2 k3 k5 "Exception.__new__")),P_):P_:=xI.rec (motive:=fun ζ=>P_) k_ h_
theorem lp(F:RF c):xI c F.C F.C2:=by
 obtain ⟨nm,q,N,bs,sn,sub,ab,col,dd,k0,k1,k2,k3,k5,h⟩:=F.cls;refine ⟨nm,q,N,bs,sn,sub,ab,col,dd,k0,k1,k2,k3,k5,?_,h⟩;unfold clsIn;rw[h]
theorem sA(F:RF c){e t:Addr}{u:Value}(X:c.K.In s.heap)(he:s.heap.get? e=some (dZ F.C t none)){Q:Unit→Shared→Prop}
  (hq:∀h' es n,(∀b o,b≠e→s.heap.get? b=some o→h'.get? b=some o)→h'.get? e=some (dZ F.C t (some s.heap.objs.size))→h'.get? s.heap.objs.size=some (dictOf es n)→
   bK es [(No "message",er u)]→∀tk,Q () { s with heap:=h',toks:=tk }):wpAny c.M A (setAttr (.ref e) (No "message") u) Q E' s:=by
 have I:InstAt s.heap e (dZ F.C t none) F.C none:=⟨he,rfl,rfl,trivial⟩;obtain ⟨nm,q,N,bs,sn,sub,ab,col,dd,k0,k1,k2,k3,k5,hc,hK⟩:=lp F;refine W.set_plain X I F.setA ?_;have SF:=PySem.F.store_object;refine codeAny_call_builtin SF.slot.plain SF.entry (@check_slot c.M _ _ _ "object.__setattr__" "object" "__setattr__" (.ref e) [.str (No "message") s.toks,u] [] _ SF.kind SF.split (I.type.andThen (looks_mroIn X F.obj)) (SF.args _ _ _) ?_);rw[osa_eq,refuse_eq];refine Nv (Nv (I.type.here (s:={ s with toks:=s.toks+1 }) (Nv ((show Looks c.M s.heap (mroOf (.ref F.C)) (.ref F.C::ik F.C2) from (looks_clsIn X hc).andThen .now).here (s:={ s with toks:=s.toks+1 }) ?_))));rw[refuseLoop_ref,refuseLoop_ref];rw[(PySem.F.store_Exception.passes (.ref e))];refine NP (Nv (I.type.here (s:={ s with toks:=s.toks+1 }) (Nv ((SH X F.noMsg).here (s:={ s with toks:=s.toks+1 }) (Nv ?_)))));refine (show Looks c.M s.heap (storeTaker? (none:Option Value)) none from .now).here (s:={ s with toks:=s.toks+1 }) ?_;dsimp only;refine Nv (NP ?_);rw[if_neg (by simp)];refine Nv ?_;refine Nv (R2 he ?_);refine Nv ((looks_clsIn X hc).here (s:={ s with toks:=s.toks+1 }) ?_);rw[if_neg (by simp),if_neg (by simp [typeHasDict])];have he₁:(s.heap.push { cls:=.type "dict",data:=.dict #[] }).get? e=some (dZ F.C t none):=NR _ he;have hne:e≠s.heap.objs.size:=N1 (O5 he);refine Nv (wpAny_alloc' ?_);refine Nv (wpAny_update' he₁ ?_);unfold dictMade;refine NP ?_;have hgd:((s.heap.push { cls:=.type "dict",data:=.dict #[] }).update e fun o=>{ cls:=o.cls,dict:=some s.heap.objs.size,data:=o.data,slots:=o.slots }).get? s.heap.objs.size=some (dictOf [] 0):=
  (TB _ _ _ _ hne.symm).trans (T5 rfl rfl)
 have hge:((s.heap.push { cls:=.type "dict",data:=.dict #[] }).update e fun o=>{ cls:=o.cls,dict:=some s.heap.objs.size,data:=o.data,slots:=o.slots }).get? e=some (dZ F.C t (some s.heap.objs.size)):=
  OL _ he₁ rfl
 generalize hG:((s.heap.push { cls:=.type "dict",data:=.dict #[] }).update e fun o=>{ cls:=o.cls,dict:=some s.heap.objs.size,data:=o.data,slots:=o.slots })=G at hgd hge ⊢;refine Nv (NP (Nv ?_));unfold nsSet;refine Nv (Nv (wpAny_askSetting (NP (Nv (QI (Nv (R2 hgd ?_)))))));obtain ⟨es',n',p1,p2,p3⟩:=bK.nil.putName (No "message") (PI c.w.params (No "message")) (s.toks+1) u 0 Qt;have hs:OT s.heap.objs.size G (G.update s.heap.objs.size (P6 (No "message") (PI c.w.params (No "message")) (.str (No "message") (s.toks+1)) u)):=OQ _ _ _;have hd2:(G.update s.heap.objs.size (P6 (No "message") (PI c.w.params (No "message")) (.str (No "message") (s.toks+1)) u)).get? s.heap.objs.size=some (dictOf es' n'):=by
  rw[← p1];exact OL _ hgd (rfl)
 refine wpAny_updatePart hgd (Nv (wpAny_lookBehind hd2 (pastItsLine_dict (by
  rw[T2];simp at p3;exact Np ‹_› (by decide))) ?_))
 refine NP (hq _ es' n' (fun b o hb e=>(hs.2 b (N1 (O5 e))).trans ?_) ((hs.2 e hne).trans hge) hd2 ?_ _)
 ·rw[← hG];exact (TB _ _ _ _ hb).trans (NR _ e)
 ·have:dG [] (No "message") (rJ (No "message") u)=[(No "message",er u)]:=by
   unfold dG rJ;rw[(show bO (No "message")=false from by decide +kernel)];simp
  exact p2
end
end
section
structure RI(c:Cx)(F:RF c) where
 qual:Str
 params:P5
 scope:Scope
 cdv:Value
 p1:Pos
 p2:Pos
 p3:Pos
 p4:Pos
 df:oB c F.fI qual params [.Assign [.Attribute (.Name (No "self") p1) (No "message") p2] (.Name (No "message") p3) p4] scope .none cdv
 kind:scope.kind=.function
 coro:scope.isCoroutine=false
 gen:scope.isGenerator=false
 noCell:∀x∈scope.names,x.2≠.cell
 self:scope.names.lookup (No "self")=some .local
 msg:scope.names.lookup (No "message")=some .local
 bind:∀name kV doc pm an ct a b,bindArgs (fnOf name qual params [.Assign [.Attribute (.Name (No "self") p1) (No "message") p2] (.Name (No "message") p3) p4] scope .none kV doc pm an cdv ct) ⟨[a,b],[]⟩=pure [(No "self",a),(No "message",b)]
section
variable{c:Cx}{d:Nat}{x:Fx}{lo:Lo}{H:AH}{E:XP}{base:Heap}{A:Around}{s:Shared}{E':Value→Shared→Prop}
theorem Rp.store{fs:List Fm}{bs:List (Addr×Obj)}{e n:Addr}{o o' on:Obj}{h':Heap}{t:Nat}(r:Rp c base fs H ((e,o)::bs) s)(hs:∀b ob,b≠e→s.heap.get? b=some ob→h'.get? b=some ob)(he:h'.get? e=some o')(hn:s.heap.get? n=none)(hn':h'.get? n=some on) :
  Rp c base fs H [(e,o'),(n,on)] { s with heap:=h',toks:=t }:=by
 obtain ⟨g,os,D,R,F⟩:=r;have fe:=(F _ (.head _)).1;have zz:=id fe;have F1:=zz.1;have F2:=zz.2.1;have F3:=zz.2.2.1;have F4:=zz.2.2.2;refine ⟨g,os,D,⟨fun b o e=>hs b o (fun q=>by replace e:=(q)▸e;have e:=(F1).symm.trans e;exact ac e) (R.stays b o e),R.ground,fun a o e=>?_,R.dicts,R.apart,fun f hf=>?_,R.order⟩,fun p hp=>?_⟩
 ·obtain ⟨x,y,z⟩:=R.objs a o e;exact ⟨x.keeps (fun ob q=>hs a ob ((fun a o e q=>by replace e:=(q)▸e;have e:=(F2).symm.trans e;exact ac e) a o e) q) (fun i ob q=>hs _ ob (F3 a o e i) q),y,z⟩
 ·obtain ⟨a,m,nn,e⟩:=R.frames f hf;obtain ⟨o,es,ep,q1,q2⟩:=nn;exact ⟨a,m,⟨o,es,ep,hs _ _ (F4 f hf) q1,q2⟩,e⟩
 ·rcases List.mem_cons.mp hp with rfl | hp
  ·exact ⟨fe,he⟩
  ·rcases List.mem_cons.mp hp with rfl | hp
   ·exact ⟨R.fresh hn,hn'⟩
   ·exact nomatch hp
theorem Ok.goes{A:Around}{env:Env}{lo:Lo}{x:Fx}(ok:Ok (d+1) x A)(he:fw env)(hr:bq env=true):Ok d ⟨env,x.fs lo⟩ (A.deeper env):=by
 refine ⟨ok.handled,?_,?_,?_,fun f hf=>?_,⟨_,.head _,beq_iff_eq.mp hr⟩⟩
 ·exact Js ok.depth
 ·exact J7 ok.units
 ·show A.frames.map (env :: ·)=_;rw[ok.frames];show some (env::bg (x.fs fun ζ=>none))=some ((env::(x.fs lo).map (·.env)).filter bq);rw[Pf,hr];rfl
 ·rcases List.mem_cons.mp hf with rfl | hf
  ·exact he
  ·rcases List.mem_cons.mp hf with rfl | hf
   ·exact ok.env
   ·exact ok.envs f (.tail _ hf)
theorem ic{X:Fx}{bs:List (Addr×Obj)}{lo:Lo}{y:Str}{v:V}{Q':Value→Shared→Prop}(ok:Ok d X A)(r:Rp c base (X.fs lo) H bs s)(hk:X.env.kindOf y=some .local)(hv:lo y=some v)(hq:∀w s',er w=v→Rp c base (X.fs lo) H bs s'→Q' w s') :
  wpAny c.M A (SU X.env y) Q' E' s:=by
 refine OJ ((W.loadLocal (c:=c) (d:=d) (E:=pb) (x:=X) (lo:=lo) (H:=H) (y:=y) (v:=v) (Q:=fun w l h=>er w=v∧l=lo∧h=H) hk hv (fun w hw=>⟨hw,rfl,rfl⟩)).beside ok r) (fun w s₁ z=>?_) fun a b h=>h.no.elim;obtain ⟨l₁,H₁,r₂,hw,rfl,rfl⟩:=z;exact hq w s₁ hw r₂
theorem vE{F:RF c}(I:RI c F){e t:Addr}{u:Value}{bs:List (Addr×Obj)}(ok:Ok (d+1) x A)(r:Rp c base (x.fs lo) H ((e,dZ F.C t none)::bs) s){Q:Value→Shared→Prop}
  (hq:∀s' dx es n,Rp c base (x.fs lo) H [(e,dZ F.C t (some dx)),(dx,dictOf es n)] s'→bK es [(No "message",er u)]→dx≠e→Q .none s'):wpAny c.M A (call (.ref F.fI) [.ref e,u]) Q E' s:=by
 obtain ⟨oc,od,osl,name,kV,doc,pm,an,ct,hK⟩:=I.df.at_;have hX:=r.plain.frag;refine Ts (Ud (Jt ok.depth) (hX _ _ hK) rfl I.coro I.gen rfl (codeRec_of hX I.df.code) ?_);rw[I.bind];refine NP ?_;refine Ql I.noCell (fun p hp=>?_) (fun h' hn hs=>?_) I.kind
 ·simp only [NQ,Oo,or_false]at hp;rcases hp with rfl | rfl
  ·exact I.self
  ·exact I.msg
 have hk:∀b ob,s.heap.get? b=some ob→h'.get? b=some ob:=fun b ob e=>(hs.2 _ (N1 (O5 e))).trans (NR _ e);refine ⟨c.nolimit.keeps fun b o e=>hk b o (r.plain.ground b o e),?_⟩;generalize hE:newEnv I.scope s.heap.objs.size OW [] (I.qual ++ ".<locals>.") (some F.fI) I.cdv none Q4=env;have hloc:env.locals=s.heap.objs.size:=by rw[← hE];rfl
 have hkd:∀y,env.kindOf y=I.scope.names.lookup y:=fun y=>by rw[← hE];rfl
 have hreal:bq env=true:=by rw[← hE];exact Oh _
 have hL:s.heap.get? env.locals=none:=by rw[hloc];exact NX (Oe _)
 have r₁:Rp c base (⟨env,fun y=>(OB y [(No "self",Value.ref e),(No "message",u)].reverse).map er⟩::x.fs lo) H ((e,dZ F.C t none)::bs) { s with heap:=h',toks:=s.toks+2 }:=
  r.pushFrame (t:=s.toks+2) hL hk ⟨_,by rw[hloc];exact hn,fun ζ=>rfl⟩
 have ok':Ok d ⟨env,x.fs lo⟩ (A.deeper env):=ok.goes (by rw[← hE];exact ⟨I.kind,rfl,rfl,I.coro⟩) hreal;have hself:=(hkd _).trans I.self;have l1:(OB (No "message") [(No "self",Value.ref e),(No "message",u)].reverse).map er=some (er u):=rfl;have l2:(OB (No "self") [(No "self",Value.ref e),(No "message",u)].reverse).map er=some (.ref e):=by
  ac_rfl
 revert r₁ l1 l2;generalize hl:(fun y=>(OB y [(No "self",Value.ref e),(No "message",u)].reverse).map er:Lo)=lo₁;intro r₁ l1 l2;replace l1:lo₁ (No "message")=some (er u):=by rw[← hl];exact l1
 replace l2:lo₁ (No "self")=some (.ref e):=by rw[← hl];exact l2
 refine codeAny_func ?_;rw[Ti,arm_exec_Assign];refine Nv (Nv (OH ?_));rw[dk (fun ζ ζ ζ ζ=>rfl) (fun ζ ζ ζ ζ=>rfl) (fun ζ ζ ζ ζ ζ=>rfl),pure_bind];refine Nv ?_;rw[TH];refine Nv (OH ?_);rw[if_neg (by decide +kernel)];refine ic ok' r₁ ((hkd _).trans I.msg) l1 fun w s₁ hw r₂=>?_;show wpAny c.M (A.deeper env) (assign (.Attribute (.Name (No "self") I.p1) (No "message") I.p2) env w >>= fun ζ=>pure Flow.next) _ _ s₁
 rw[arm_assign_Attribute];refine Nv (Nv (Oy (Nv (OH ?_))));rw[if_neg (by decide +kernel)];refine ic ok' r₂ hself l2 fun sv s₂ hsv r₃=>?_;refine az hsv ?_;refine Nv (OH (Nv (Oy ?_)));refine sA F r₃.plain.frag (r₃.at_ (.head _)) fun h'' es n k1 k2 k3 k4 tk=>?_;refine wpAny_release (NP ?_);show wpAny c.M (A.deeper env) (execs [] env) _ _ _;rw[Sm];refine NP (hq _ _ es n ((r₃.store (t:=tk) k1 k2 (NX (Oe _)) k3).popFrame (PP _ _)) (by rw[← hw];exact k4) (N6 (O5 (r₃.at_ (.head _)))))
end
end
section
section
variable{M:Model}{A:Around}{E:Value→Shared→Prop}{env:Env}
variable{nm q:Str}{C N:Addr}{bs bm:List Value}{hdct:Bool}{sn:List Str}{sub:List Value}{ab:Bool}{col:Option Bool}{dd:Option Addr}{k0 k1 k2 k3 k5:Option Value}{newId:String}
theorem sB{s:Shared}{x:Sem Value}{Q:Flow→Shared→Prop}(hbase:bm.contains (.type "BaseException")=true)(hh:A.handled=none)
  (h:wpAny M A x (fun v s₁=>∃e t dx,v=.ref e∧s₁.heap.get? C=some (P1 nm q C N bs bm hdct sn sub ab col dd k0 k1 k2 k3 k5 newId)∧s₁.heap.get? e=some (dZ C t (some dx))∧E (.ref e) s₁) E s) :
  wpAny M A (raiseStmt env (some x) none) Q E s:=by
 have hcB:(Value.ref C::bm).contains (.type "BaseException")=true:=by rw[Ox,hbase,PA]
 unfold raiseStmt;refine Nv (OJ h (fun v s₁ h₁=>?_) fun ζ ζ x=>x);obtain ⟨e,t,dx,rfl,hC,he,hE⟩:=h₁;obtain ⟨hp,g,d,tk,os⟩:=s₁
 repeat (first | with_reducible refine Ps he ?_ | with_reducible refine Ps hC ?_ | (with_reducible refine QA hC ?_;rw[hcB]) | wp_step)
 exact wpAny_raiseNew_none hh hE
end
theorem qA:Slot "Exception" "__getattribute__" "BaseException.__getattribute__":=PySem.F.attr_Exception.ga
section
variable{prog:R6}{w:World}{A:Around}{E:Value→Shared→Prop}{s:Shared}{K:Frag}{x C:Addr}{ox:Obj}{od:Option Obj}{name:Str}{expr:Bool}{Q:Value→Shared→Prop}
set_option maxHeartbeats 1000000 in
theorem kc{v:Value}(X:K.In s.heap)(I:InstAt s.heap x ox C od)(hga:findIn K (.ref C) "__getattribute__" = some (some (.builtin "BaseException.__getattribute__")))
  (hgb:findIn K (.ref C) "__getattr__" = some none) (hb:mroIn K C (.type "BaseException")=some true)
  (hf:findObj K C od name=some (.value v)) (hh:handedIn v=true) (h:Q v { s with toks:=s.toks+1 }):wpAny (model prog w) A (getAttr (.ref x) name expr) Q E s:=by
 obtain ⟨hp,g,d,t,os⟩:=s;have L0:=I.type (M:=model prog w);refine Nv (QI (Oy (Nv (L0.at (Nv ((SH (M:=model prog w) X hga).at ?_))))));dsimp only;rw[(show (Value.builtin "BaseException.__getattribute__" == Value.builtin "object.__getattribute__")=false from by decide +kernel),SL,if_neg (by simp)];unfold getAttrByItsOwn;refine Nv ?_;show wpAny _ _ (typeLookup (.ref C) "__getattr__") _ _ _;refine (SH (M:=model prog w) X hgb).at ?_;refine Nv (wpAny_attempt (Oy ?_));unfold callGetattribute;rw[(show (expr&&onTheHeap (Value.builtin "BaseException.__getattribute__"))=false from by induction expr<;>rfl),if_neg (by simp)];unfold boundAndCalled;rw[qA.bind];refine Nv (NP (Ts ?_));refine codeAny_call_builtin qA.plain PySem.F.entry_bexc_ga (@check_slot (model prog w) _ _ _ "BaseException.__getattribute__" "BaseException" "__getattribute__" (.ref x) [.str name t] [] _ (by decide +kernel) (by decide +kernel) (L0.andThen (looks_mroIn X hb)) (PySem.F.args_bexc_ga _ _) ?_);refine Nv (NP (Nv (NP (Nv (L0.at (Nv ((looks_find (M:=model prog w) X I hf).at ?_)))))));refine NP ?_;dsimp only;rw[handedOut_of hh];exact NP h
end
end
section
section
variable{c:Cx}{d:Nat}{x:Fx}{lo:Lo}{H:AH}{E:XP}
theorem dY{A:Around}{base:Heap}{fs:List Fm}{s:Shared}{e fl:Value}{fr:Option Addr}{E':Value→Shared→Prop}{Q:Unit→Shared→Prop}(h:dE c base fs E fl e s)
  (hq:∀s',dE c base fs E (fr.elim .none fun f=>rawInt f) e s'→Q () s'):wpAny c.M A (setFlight e fr) Q E' s:=by
 obtain ⟨ea,msg,H,rfl,e2,e3,e4,D,R,oe,vs,dx,es,n,mv,C,T,oT,ts,q1,q2,q3,q4,q5,q6,q7,q8,q9,q10,q11,t1,t2,t3,t4,t5,t6,t7⟩:=h;unfold setFlight;refine Nv (Qy q1 q4 t1 ?_);rw[if_pos (show (Value.ref T != Value.none)=true from by simp)];refine R1 t5 t6 (Array.getElem?_eq_some_iff.mp t7).1 (hq _ ?_);have other:∀b v,b≠T→(s.heap.update T (RT (·.setIfInBounds 3 v))).get? b=s.heap.get? b:=fun b v hb=>Px _ _ (Pk hb);have hd₃:=RV t6 (·.setIfInBounds 3 (fr.elim .none fun f=>rawInt f));refine ⟨ea,msg,H,rfl,e2,e3,e4,D,R.touch t2 (OQ _ _ _),oe,vs,dx,es,n,mv,C,T,_,_,(other _ _ (Pk t3)).trans q1,q2,q3,q4,q5,q6,(other _ _ (Pk t4)).trans q7,q8,q9,q10,q11,t1,t2,t3,t4,
  OL _ t5 (Rn hd₃),hd₃,?_⟩
 have:=(Array.getElem?_eq_some_iff.mp t7).1;simp [this]
theorem dE.first{A:Around}{base:Heap}{fs:List Fm}{s:Shared}{e fl:Value}{E':Value→Shared→Prop}{α:Type}{f:Value→Sem α}{Q:α→Shared→Prop}(h:dE c base fs E fl e s)(hq:∀T:Addr,wpAny c.M A (f (.ref T)) Q E' s):wpAny c.M A (field e 1 >>= f) Q E' s:=by
 obtain ⟨ea,msg,H,rfl,e2,e3,e4,D,R,oe,vs,dx,es,n,mv,C,T,oT,ts,q1,q2,q3,q4,q5,q6,q7,q8,q9,q10,q11,t1,t2,t3,t4,t5,t6,t7⟩:=h;exact Nv (Qy q1 q4 t1 (hq T))
theorem d5{A:Around}{base:Heap}{s:Shared}{e:Value}(ok:Ok d x A)(hr:bq x.env=true)(h:iu c base x E e s):notedBy c.M A x.env (cameBackBy c.M A x.env (iu c base x E)) e s:=by
 have hf:x.env.frame=some x.env.locals:=beq_iff_eq.mp hr;refine fK ok hr h fun s' lo' h'=>?_;show wpAny c.M A (field e 1 >>= fun v=>_) _ _ s';refine h'.first fun T=>?_
 rw[if_neg (by simp)];rw[hf];exact dY h' fun s'' h''=>h''.exc (.inr (by rw[(show x.loc=x.env.locals from by unfold Fx.loc;rw[hf];rfl)];rfl))
theorem nB{K:Frag}{C:Addr}{cd:ClassData}(h:clsIn K C=some cd)(hd:cd.hasDict=true):QZ K C=true:=by
 unfold QZ;rw[h];exact hd
theorem dE.store{base:Heap}{f:Fm}{r:List Fm}{lo':Lo}{fl e:Value}{s:Shared}{h':Heap}{t:Nat}(h:dE c base (f::r) E fl e s)(hs:OT f.env.locals s.heap h')(hm:∃m,h'.Ns f.env.locals m∧∀x,(m x).map er=lo' x) :
  dE c base (⟨f.env,lo'⟩::r) E fl e { s with heap:=h',toks:=t }:=by
 obtain ⟨ea,msg,H,rfl,e2,e3,e4,D,R,oe,vs,dx,es,n,mv,C,T,oT,ts,q1,q2,q3,q4,q5,q6,q7,q8,q9,q10,q11,t1,t2,t3,t4,t5,t6,t7⟩:=h;have p:∀{b},aH base H D (f::r) b→aH base H D (⟨f.env,lo'⟩::r) b:=fun ⟨a,b,c,d⟩=>⟨a,b,c,fun g hg=>by
  rcases List.mem_cons.mp hg with rfl | hg
  ·exact d f (.head _)
  ·exact d g (.tail _ hg)⟩
 have k:∀{b o},aH base H D (f::r) b→s.heap.get? b=some o→h'.get? b=some o:=fun hb e=>(hs.2 _ (fun q=>hb.2.2.2 f (.head _) q.symm)).trans e;exact ⟨ea,msg,H,rfl,e2,e3,e4,D,R.store hs hm,oe,vs,dx,es,n,mv,C,T,oT,ts,k q6 q1,q2,q3,q4,q5,p q6,k q10 q7,q8,q9,p q10,q11,t1,p t2,t3,t4,k t2 t5,t6,t7⟩
inductive xL(c:Cx)(base:Heap)(fs:List Fm)(E:XP)(e:Value)(C:Addr)(s:Shared):Prop
 | mk(msg:V)(H:AH)(hE:E msg H)(R:aq c base fs H s)(ea:Addr)(oe:Obj)(dx:Addr)(es:List Pr)(n:Nat)(e1:e=.ref ea)(g1:s.heap.get? ea=some oe)(g3:oe.cls=.ref C)(vs:Array Value)(g4:oe.data=.fields vs)(g5:oe.dict=some dx)
  (g6:s.heap.get? dx=some (dictOf es n)) (g7:bK es [(No "message",msg)])
theorem xL.el{c:Cx}{base:Heap}{fs:List Fm}{E:XP}{e:Value}{C:Addr}{s:Shared}{P_:Prop}(h_:xL c base fs E e C s)(k_:∀(msg:V) (H:AH) (hE:E msg H) (R:aq c base fs H s) (ea:Addr) (oe:Obj) (dx:Addr) (es:List Pr) (n:Nat) (e1:e=.ref ea) (g1:s.heap.get? ea=some oe) (g3:oe.cls=.ref C) (vs:Array Value) (g4:oe.data=.fields vs) (g5:oe.dict=some dx) (g6:s.heap.get? dx=some (dictOf es n)) (g7:bK es [(No "message",msg)]),P_):P_:=xL.rec (motive:=fun ζ=>P_) k_ h_
theorem dE.rep{base:Heap}{fs:List Fm}{fl e:Value}{s:Shared}{C:Addr}(hC:nsIn c.K OW (No "Refusal")=some (some (.ref C)))(h:dE c base fs E fl e s):xL c base fs E e C s:=by
 obtain ⟨ea,msg,H,rfl,e2,e3,e4,D,R,oe,vs,dx,es,n,mv,C',T,oT,ts,q1,q2,q3,q4,q5,q6,q7,q8,q9,q10,q11,t1,t2,t3,t4,t5,t6,t7⟩:=h;obtain rfl:=Value.ref.inj (Option.some.inj (Option.some.inj (hC.symm.trans q2)));exact ⟨msg,H,e2,⟨e3,e4,D,R⟩,ea,oe,dx,es,n,rfl,q1,q3,vs,q4,q5,q7,q8⟩
theorem pt:bO (No "message")=false:=by decide +kernel
end
noncomputable def A8(c:Cx)(F:Fr)(d:Nat)(k:I)(E:XP)(se:SE)(Q:QR):Flow→Lo→AH→Prop
 | .next,l,h=>∃L',l=cb se L'∧ao c F d k E [] L' h Q
 | .brk,l,h=>∃L',l=cb se L'∧Q .brk L' h
 | .cont,l,h=>∃L',l=cb se L'∧Q .cnt L' h
 | .ret v,_,h=>∃L',Q (.ret (er v)) L' h
def XS(c:Cx)(n:Nat)(s:O0):Prop:=∀⦃x:Fx⦄ ⦃se:SE⦄ ⦃F:Fr⦄ ⦃gx d k E L H Q⦄,Fs c x se F gx→bq x.env=true→ao c F d (cS n (tr se gx) s k) E [] L H Q→
 W c d x (exec s x.env) (cb se L) H (A8 c F d k E se Q) E
def Gc(c:Cx)(n:Nat)(ss:List O0):Prop:=∀⦃x:Fx⦄ ⦃se:SE⦄ ⦃F:Fr⦄ ⦃gx d k E L H Q⦄,Fs c x se F gx→bq x.env=true→ao c F d (ss.foldr (cS n (tr se gx)) k) E [] L H Q→
 W c d x (execs ss x.env) (cb se L) H (A8 c F d k E se Q) E
section
variable{c:Cx}{n:Nat}
theorem bl{e:Nu} : dc c n e:=(d3 n).1 e
theorem nJ{e:Nu} : jY c n e:=(d3 n).2 e
theorem vo{p} : XS c (n+1) (.Pass p):=fun ζ ζ ζ ζ ζ ζ ζ ζ ζ ζ fs hr h=>by rw[arm_exec_Pass];exact W.standAt' (W.pure ⟨_,rfl,h⟩)
theorem sf{p} : XS c (n+1) (.Break p):=fun ζ ζ ζ ζ ζ ζ ζ ζ ζ ζ fs hr h=>by rw[arm_exec_Break];exact W.standAt' (W.pure ⟨_,rfl,h⟩)
theorem mA{p} : XS c (n+1) (.Continue p):=fun ζ ζ ζ ζ ζ ζ ζ ζ ζ ζ fs hr h=>by rw[arm_exec_Continue];exact W.standAt' (W.pure ⟨_,rfl,h⟩)
theorem pI{e p} : XS c (n+1) (.Return e p):=fun ζ ζ ζ ζ ζ ζ ζ ζ ζ ζ fs hr h=>by
 rw[arm_exec_Return];refine W.standAt' ?_
 induction e with
 | none=>exact W.pure ⟨_,h⟩
 | some e=>exact W.andThen (bl fs h) fun u H' q=>W.pure ⟨_,q⟩
theorem A8.fin{F:Fr}{d:Nat}{k:I}{E:XP}{se:SE}{Q:QR}{f:Flow}{l:Lo}{h:AH}(q:A8 c F d .fin E se (fun r L H=>match r with | .nx st=>ao c F d k E st L H Q | r=>Q r L H) f l h):A8 c F d k E se Q f l h:=by
 induction f<;>exact q
theorem A0{t b o p}(hb:Gc c n b)(ho:Gc c n o):XS c (n+1) (.If t b o p):=fun ζ ζ ζ ζ ζ ζ ζ ζ ζ ζ fs hr h=>by
 rw[arm_exec_If];refine W.standAt' (W.thenB (nJ fs dF h) fun r H₁ h₁=>?_);rcases eV h₁ with ⟨rfl,h⟩ | ⟨rfl,h⟩
 ·exact W.mono (hb fs hr h) (fun ζ ζ ζ q=>q.fin) fun ζ ζ e=>e
 ·exact W.mono (ho fs hr h) (fun ζ ζ ζ q=>q.fin) fun ζ ζ e=>e
theorem d8(hs:∀s,XS c n s):∀ss,Gc c n ss
 | [],x,se,F,gx,d,k,E,L,H,Q,fs,hr,h=>by rw[Sm];exact W.pure ⟨_,rfl,h⟩
 | s::r,x,se,F,gx,d,k,E,L,H,Q,fs,hr,h=>by
  rw[Ti];refine W.bind (W.mono (hs s fs hr h) (fun f l H' q=>?_) fun ζ ζ e=>e)
  induction f with
  | next=>obtain ⟨L',rfl,q⟩:=q;exact d8 hs r fs hr q
  | _=>exact W.pure q
theorem vq{e p} : XS c (n+1) (.Expr e p):=fun x se F gx d k E L H Q fs hr h=>by
 have zz:=n9 h;have h0:=zz.1;have h':=zz.2;intro base s A ok R;refine W.standAt' (E:=E) ?_ base s A ok R;rw[(show interactive x.env=false from by unfold interactive;rw[ok.env.kind];rfl),j8 h0];exact W.andThen (bl fs h') fun u H' q=>W.dropValue ⟨_,rfl,q⟩
theorem qU{value:Nu}{x:Fx}{se:SE}{F:Fr}{gx d k E L H Q}{st:List V}{u:Value→Sem Unit}{P:Lo→AH→Prop}(fs:Fs c x se F gx)(hn:gb value=false)(h:ao c F d (cE n (tr se gx) value k) E st L H Q)
  (hu:∀acc H',ao c F d k E (er acc::st) L H' Q→W c d x (u acc) (cb se L) H' (fun ζ l h=>P l h) E):W c d x (evalThenUse value x.env u) (cb se L) H (fun ζ l h=>P l h) E:=by
 rcases n with _ | n
 ·exact h.elim
 refine wA (e:=value) (P:=fun s=>yj s=false→_) (fun s b hn=>?_) hn
 induction s using Sh.casesOn with
 | lco elt gs sc p=>
  have b:value=.ListComp elt gs sc p:=b;subst b;rw[arm_evalThenUse_ListComp];obtain ⟨y,q,iter,ifs,rfl,h'⟩:=k8 (P:=fun ζ l h=>P l h) (use:=some u) (d3 n).1 (d3 n).2 fs h hu;exact W.bind (W.mono (h' _) (fun ζ l h q=>W.pure q) fun ζ ζ e=>e)
 | dco ke ve gs sc p=>
  have b:value=.DictComp ke ve gs sc p:=b;subst b;rw[arm_evalThenUse_DictComp];obtain ⟨y,q,iter,ifs,rfl,h'⟩:=k9 (P:=fun ζ l h=>P l h) (use:=some u) (d3 n).1 (d3 n).2 fs h hu;exact W.bind (W.mono (h' _) (fun ζ l h q=>W.pure q) fun ζ ζ e=>e)
 | sco e gs sc p=>
  have b:value=.SetComp e gs sc p:=b;subst b;exact h.elim
 | _=>exact (Nt hn.symm).elim
theorem pL{ts e p} : XS c (n+1) (.Assign ts e p):=fun x se F gx d k E L H Q fs hr h=>by
 rcases ts with _ | ⟨u,_ | _⟩<;>first | exact h.elim | skip
 rw[arm_exec_Assign];refine W.standAt' ?_;refine wA (e:=u) (P:=fun s=>ao c F d (KY (cE n (tr se gx)) (tr se gx) e k s) E [] L H Q→_) (fun s b h'=>?_) h;clear h
 induction s using Sh.casesOn with
 | name y q=>
  have b:u=.Name y q:=b;subst b;obtain ⟨b,hb,hb2⟩:=oQ e y q p.line x.env;have e1:swapsWithSole [.Name y q] e p.line x.env=pure b:=hb;rw[e1,pure_bind]
  induction b with
  | true=>
   exact W.bind (W.mono (qU (P:=fun l h=>A8 c F d k E se Q .next l h) fs (hb2 rfl) h' fun acc H' q=>W.assignN fs q) (fun ζ l h q=>W.pure q) fun ζ ζ e=>e)
  | false=>
   refine W.andThen (bl fs h') fun u H' h'=>?_;show W c d x (assignAll u [assign (.Name y q) x.env] >>= fun ζ=>pure Flow.next) _ H' _ E
   exact W.bind (W.mono (W.assignN fs h') (fun ζ l h q=>W.pure q) fun ζ ζ e=>e)
 | tup us m q=>
  have b:u=.Tuple us m q:=b;subst b;refine c9 h' fun h0 h=>?_;rw[NY]at h0;rw[dk (fun ζ ζ ζ ζ=>rfl) (fun ζ ζ ζ ζ=>rfl) (fun ζ ζ ζ ζ ζ=>rfl),pure_bind];refine W.andThen (bl fs h) fun u H' h'=>?_;exact W.mono (gH fs h0.1 h') (fun f l h ⟨e,q⟩=>by subst e;exact q) fun ζ ζ e=>e
 | att o m q=>
  have b:u=.Attribute o m q:=b;subst b;rw[dk (fun ζ ζ ζ ζ=>rfl) (fun ζ ζ ζ ζ=>rfl) (fun ζ ζ ζ ζ ζ=>rfl),pure_bind];refine W.andThen (bl fs h') fun u H' h'=>?_;show W c d x (assign (.Attribute o m q) x.env u >>= fun ζ=>pure Flow.next) _ H' _ E
  rw[arm_assign_Attribute];refine W.bind (W.andThen (W.holding (bl fs h')) fun ov H₂ h₂=>W.standAt' (W.bind (W.mono (W.holding (oZ (Q:=fun H=>ao c F d k E [] L H Q) rfl rfl h₂)) (fun ζ l h z=>?_) fun a b e=>e)));obtain ⟨rfl,q⟩:=z;exact W.release (W.pure ⟨_,rfl,q⟩)
 | sub o i q=>
  have b:u=.Subscript o i q:=b;subst b;have h:ao c F d (bif b6 i then .bad else cE n (tr se gx) e (cE n (tr se gx) o (cE n (tr se gx) i (.sit k)))) E [] L H Q:=h';clear h';cases hs:b6 i with
  | true=>rw[hs]at h;exact h.elim
  | false=>
  rw[hs]at h;rw[dk (fun ζ ζ ζ ζ=>rfl) (fun ζ ζ ζ ζ=>rfl) (fun ζ ζ ζ ζ ζ=>rfl),pure_bind];refine W.andThen (bl fs h) fun u H' h'=>?_;show W c d x (assign (.Subscript o i q) x.env u >>= fun ζ=>pure Flow.next) _ H' _ E
  rw[arm_assign_Subscript];refine W.bind (W.andThen (W.holding (bl fs h')) fun ov H₂ h₂=>W.andThen (W.holding (bl fs h₂)) fun iv H₃ h₃=>W.standAt' (W.bind (W.mono (W.holding (oY (Q:=fun H=>ao c F d k E [] L H Q) rfl rfl rfl h₃)) (fun ζ l h z=>?_) fun a b e=>e)));obtain ⟨rfl,q⟩:=z;exact W.release (W.pure ⟨_,rfl,q⟩)
 | _=>exact h'.elim
inductive J4(op:Ph)(i j:Int)(k:Int→Prop):Prop
 | add(e:op=.Add)(h:k (i+j))
 | sub(e:op=.Sub)(h:k (i-j))
inductive J6(op:Ph)(a b:V)(k:Int→Prop):Prop
 | mk(i j:Int)(ea:a=.int i)(eb:b=.int j)(h:J4 op i j k)
theorem r6{op:Ph}{a b:V}{k:Int→Prop}(h:mr op a b k):J6 op a b k:=by
 refine (fg h).el fun i j ea eb h=>?_;refine ⟨i,j,ea,eb,?_⟩
 induction op with
 | Add=>exact .add rfl h
 | Sub=>exact .sub rfl h
 | _=>exact h.elim
theorem xG{t op e p} : XS c (n+1) (.AugAssign t op e p):=fun x se F gx d k E L H Q fs hr h=>by
 refine c4 h fun y hy h'=>?_;clear h;obtain ⟨q,rfl⟩:=bR hy;rw[arm_exec_AugAssign];refine W.standAt' (W.andThen (ib fs h').2 fun a H₁ h₁=>W.andThen (W.holding (bl fs h₁)) fun b H₂ h₂=>W.standAt' ?_);obtain ⟨i,j,ha,hb,h₃⟩:=r6 (k:=fun t=>ao c F d (cP (tr se gx) y k) E [.int t] L H₂ Q) h₂;refine bb (ha) fun t1=>?_;refine bb (hb) fun t2=>?_;have key:∀z t,ao c F d (cP (tr se gx) y k) E [.int z] L H₂ Q→W c d x (do Sv q;Pa x.env y (.int z t);pure Flow.next) (cb se L) H₂ (A8 c F d k E se Q) E:=fun z t h=>W.standAt' (W.bind (W.mono (W.bindN fs (u:=.int z t) h) (fun ζ l h q=>W.pure q) fun ζ ζ e=>e))
 rcases h₃ with ⟨rfl,h₃⟩ | ⟨rfl,h₃⟩
 ·exact W.bind (W.operate fun base s A ok R=>P.iadd_int ⟨_,H₂,R,key _ _ h₃⟩)
 ·exact W.bind (W.operate fun base s A ok R=>P.isub_int ⟨_,H₂,R,key _ _ h₃⟩)
end
end
section
section
variable{c:Cx}{n:Nat}
inductive Gd(c:Cx)(base:Heap)(x:Fx)(se:SE)(J:Nat→Ls→AH→Prop)(k:Nat)(s:Shared):Prop
 | mk(L':Ls)(H':AH)(R:aq c base (x.fs (cb se L')) H' s)(h:J k L' H')
theorem r7{t b o p}(hb:Gc c n b):XS c (n+1) (.While t b o p):=fun x se F gx d k E L H Q fs hr h=>by
 refine c9 h fun h0 h'=>?_;clear h;obtain rfl:=List.isEmpty_iff.mp h0;obtain ⟨J,m,hm,step⟩:=h';intro base s A ok R;rw[arm_exec_While];refine Nv (OH (wpAny_runOwn ?_));refine codeAny_whileLoop (Gd c base x se J) ?_ m ⟨L,H,R,hm⟩;clear hm R;intro j s z;obtain ⟨L',H',R,hJ⟩:=z;refine xj (nJ fs dF (step j L' H' hJ) base s A ok R) (fun e s h=>d5 ok hr h) fun r s₁ H₁ R₁ hr₁=>?_;rcases eV hr₁ with ⟨rfl,h⟩ | ⟨rfl,h⟩
 ·rw[if_pos rfl];refine OJ (hb fs hr h base s₁ A ok R₁) (fun f s₂ z=>?_) fun e s h=>d5 ok hr h;obtain ⟨l₂,H₂,R₂,q⟩:=z
  induction f with
  | next=>obtain ⟨L₂,rfl,i,hi,hJ⟩:=q;exact ⟨i,hi,L₂,H₂,R₂,hJ⟩
  | cont=>obtain ⟨L₂,rfl,i,hi,hJ⟩:=q;exact ⟨i,hi,L₂,H₂,R₂,hJ⟩
  | brk=>obtain ⟨L₂,rfl,q⟩:=q;exact ⟨_,H₂,R₂,_,rfl,q⟩
  | ret v=>exact ⟨l₂,H₂,R₂,q⟩
 ·rw[if_neg Nt,Sm];exact NP ⟨_,H₁,R₁,_,rfl,h⟩
inductive Gf(c:Cx)(base:Heap)(x:Fx)(se:SE)(J:Nat→Ls→AH→Prop)(iv:V)(H₁:AH)(N:Nat)(m:Addr)(k:Nat)(s:Shared):Prop
 | mk(j:Nat)(L':Ls)(H':AH)(oi:Obj)(hik:j+k=N)(hJ:J j L' H')(ho:bx iv H₁ j oi)(r:Rp c base (x.fs (cb se L')) H' [(m,oi)] s)
theorem tQ{m:Addr} : ∀p∈([]:List (Addr×Obj)),p.1≠m:=fun p h=>nomatch h
theorem xF{t it b o p}(hb:Gc c n b):XS c (n+1) (.For t it b o p):=fun x se F gx d k E L H Q fs hr h=>by
 refine c9 h fun h0 h'=>?_;clear h;obtain rfl:=List.isEmpty_iff.mp h0;refine c4 h' fun y hy h=>?_;clear h';obtain ⟨q,rfl⟩:=bR hy;refine c9 h fun h1 h'=>?_;clear h;refine c4 h' fun i hi h=>?_;clear h' h0 hy;have hloc:=fs.of.2 y;rw[show se.ns.lookup y=some .local from dq h1]at hloc;clear h1;intro base s A ok R;rw[arm_exec_For];refine Nv (OH ?_);refine Nv (xj (bl fs h base s A ok R) (fun a b e=>e) fun u s₁ H₁ R₁ h₁=>?_);rw[pa h u,pure_bind];clear h R;refine Nv (OH (Nv (Oy ?_)));obtain ⟨xs',hxs,J,hJ0,step,fin⟩:=h₁;refine jq rfl hxs R₁.rp fun oi s₂ ho ζ r₂=>wpAny_runOwn ?_;revert r₂;generalize s₁.heap.objs.size=m;intro r₂;refine codeAny_forLoop (Gf c base x se J (er u) H₁ xs'.length m) ?_ xs'.length ⟨0,L,H₁,oi,Ot _,hJ0,ho,r₂⟩;clear R₁ hJ0 ho r₂;intro k' s z;obtain ⟨j,L',H',oi,hik,hJ,hoi,r⟩:=z;cases hg:xs'[j]? with
 | none=>
  obtain rfl:=lZ hg hik;obtain ⟨hs,hf⟩:=fin L' H' hJ;refine jr hxs hs hoi tQ ok.handled r fun s' r₃=>?_;rw[Sm];exact NP ⟨_,H',r₃.plain,_,rfl,hf⟩
 | some yv=>
  have hilt:=(List.getElem?_eq_some_iff.mp hg).1;obtain ⟨hs,hst⟩:=step j yv L' H' hg hJ;refine gR hxs hs hg hoi tQ r fun v oi' s₃ hv hoi' r₃=>?_;subst hv;have hk1:=IV hik hilt;have hk2:=IU hik hilt;clear hik hg hJ hs step fin hxs hoi r hilt;refine OJ ((W.bindName (d:=d) (E:=E) (Q:=fun ζ l h=>l=bG (cb se L') y (er v)∧h=H') hloc ⟨rfl,rfl⟩).beside ok r₃) (fun a s₄ z=>?_) fun e s h=>d5 ok hr h;obtain ⟨l₄,H₄,r₄,e4,rfl⟩:=z;obtain rfl:l₄=cb se (gN L' i (er v)):=e4.trans (eC hi).symm;refine OJ ((hb fs hr hst).beside ok r₄) (fun f s₅ z=>?_) fun e s h=>d5 ok hr h;obtain ⟨l₅,H₅,r₅,q₅⟩:=z
  induction f with
  | next=>obtain ⟨L₅,rfl,q₅⟩:=q₅;exact ⟨k'-1,hk2,j+1,L₅,H₅,oi',hk1,q₅,hoi',r₅⟩
  | cont=>obtain ⟨L₅,rfl,q₅⟩:=q₅;exact ⟨k'-1,hk2,j+1,L₅,H₅,oi',hk1,q₅,hoi',r₅⟩
  | brk=>obtain ⟨L₅,rfl,q₅⟩:=q₅;exact ⟨_,H₅,r₅.plain,_,rfl,q₅⟩
  | ret v=>exact ⟨l₅,H₅,r₅.plain,q₅⟩
end
section
variable{c:Cx}{n:Nat}{F₀:RF c}
theorem kH{se:SE}{gx}{y:Str}(h:qw (tr se gx) y=true):y=No "Refusal"∧se.ns.lookup (No "Refusal")=some .globalImplicit:=by
 unfold qw at h;rw[NY]at h;obtain rfl:=aY.mp h.1;refine ⟨rfl,?_⟩;have:=h.2;rw[dB]at this;refine ay (o:=se.ns.lookup (No "Refusal")) (fun e=>?_) fun kd e=>?_
 ·rw[show (tr se gx).ns.lookup lK=none from e]at this;exact NG this
 ·rw[show (tr se gx).ns.lookup lK=some kd from e]at this;rw[gT this]
theorem vx{se:SE}{gx}{e:Option Nu}{a:Nu}(h:F0 (tr se gx) e=some a):∃q p,e=some (.Call (.Name (No "Refusal") q) [a] [] p)∧se.ns.lookup (No "Refusal")=some .globalImplicit∧b6 a=false:=by
 refine (aR h).el fun e e0 h=>?_;rw[e0];refine wA (e:=e) (P:=fun s=>FZ (tr se gx) s=some a→∃q p,some e=some (.Call (.Name (No "Refusal") q) [a] [] p)∧se.ns.lookup (No "Refusal")=some .globalImplicit∧b6 a=false) (fun s b h=>?_) h
 induction s using Sh.casesOn with
 | call f as ks p=>
  refine (aR h).el fun y h1 h=>?_;refine (aR h).el fun a' h2 h=>?_;have w:=n8 h;have h4:=aa w.1;have h5:=aa h4.1;obtain ⟨q,e1⟩:=bR h1;have h6:=kH h5.2;exact ⟨q,p,Nw some (R0 b (by rw[e1,h6.1,jg h2,List.isEmpty_iff.mp h5.1,w.2])),h6.2,w.2▸(Oi _).mp h4.2⟩
 | _=>exact ac h
theorem sM{d:Nat}{p:Prop}(h:sO d p):∃e,d=e+2∧p:=by
 rcases d with _ | _ | e
 ·exact h.elim
 ·exact h.elim
 ·exact ⟨e,rfl,h⟩
theorem tq{s:O0}{e:Nu}(h:De s=some e):∃p,s=.Return (some e) p:=by
 induction s using PySem.Stmt.casesOn with
 | Return e' p=>exact ⟨p,Nw (PySem.Stmt.Return · p) h⟩
 | _=>exact ac h
inductive Gz(se:SE)(hs:List Qp)(n:Str):Prop
 | mk(q p1 p2 p3 hp:Pos)(e:hs=[.ExceptHandler (some (.Name (No "Refusal") q)) (some n) [.Return (some (.Attribute (.Name n p1) (No "message") p2)) p3] hp])
  (h1:se.ns.lookup (No "Refusal")=some .globalImplicit) (h2:se.ns.lookup n=some .local) (h3:(n==("__debug__" : Str))=false)
theorem mf{se:SE}{gx}{hs:List Qp}{n:Str}(z:nC (tr se gx) hs=some n):Gz se hs n:=by
 obtain ⟨⟨ty,nm,bd,hp⟩,h0,z⟩:=aR z;refine (aR z).el fun e h1 z=>?_;refine (aR z).el fun n1 h2 z=>?_;refine (aR z).el fun s h3 z=>?_;refine (aR z).el fun r h4 z=>?_;refine (aR z).el fun y h5 z=>?_;obtain ⟨⟨o,m⟩,h6,z⟩:=aR z;refine (aR z).el fun n' h7 z=>?_;have w:=n8 z;have k4:=aa w.1;have k3:=aa k4.1;have k2:=aa k3.1;have k1:=aa k2.1;refine Nz (tq h4) fun p3 e4=>?_;refine Nz (bR h5) fun q' e5=>?_;refine Nz (vm h6) fun p2 e6=>?_;refine Nz (bR h7) fun p1 e7=>?_;have r:=kH k1.1;refine ⟨q',p1,p2,p3,hp,?_,r.2,w.2▸dq k1.2,beq_eq_false_iff_ne.mpr fun e=>?_⟩
 ·rw[jg h0,show ty=some e from h1,show nm=some n1 from h2,show bd=[s] from jg h3,e4,e5,e6,show o=_ from e7,r.1,← aY.mp k2.2,show m=_ from aY.mp k3.2,w.2]
 ·exact NG ((Nw (!·) (aY.mpr (w.2.trans e))).symm.trans k4.2)
theorem gC{A:Around}{s:Shared}{x:Fx}{se:SE}{F:Fr}{gx}{base:Heap}{fr:List Fm}{H:AH}{q:Pos}{E':Value→Shared→Prop}{Q':Value→Shared→Prop}(fs:Fs c x se F gx)(he:fw x.env)(R:aq c base fr H s)(hk:se.ns.lookup (No "Refusal")=some .globalImplicit)
  (h:Q' (.ref F₀.C) s):wpAny c.M A (eval (.Name (No "Refusal") q) x.env) Q' E' s:=by
 have hkk:=fs.of.2 (No "Refusal");replace hkk:=(hk)▸hkk;rw[TH];refine Nv (OH ?_);rw[if_neg (by decide +kernel)];refine yr he R hkk F₀.has fun u hu=>?_;have hu:=hu.trans (F₀.gl);rw[dC hu];exact h
theorem r9(I₀:RI c F₀){e ca p} : XS c (n+1) (.Raise e ca p):=fun x se F gx d k E L H Q fs hr h=>by
 induction ca with
 | some=>exact h.elim
 | none=>
 refine c4 h fun a ha h'=>?_;clear h;obtain ⟨q,p',rfl,hk,hsl⟩:=vx ha;intro base s A ok R;obtain ⟨nm,qq,N,bs,sn,sub,ab,col,dd,k0,k1,k2,k3,k5,hc,hK⟩:=lp F₀;rw[arm_exec_Raise];refine Nv (OH (sB (bm:=ik F₀.C2) (C:=F₀.C) (nm:=nm) (q:=qq) (N:=N) (bs:=bs) (hdct:=true) (sn:=sn) (sub:=sub) (ab:=ab) (col:=col) (dd:=dd) (k0:=k0) (k1:=k1) (k2:=k2) (k3:=k3) (k5:=k5) (newId:="Exception.__new__") (by rfl) ok.handled ?_));show wpAny c.M A (eval (.Call (.Name (No "Refusal") q) [a] [] p') x.env >>= fun v=>Sv p >>= fun ζ=>pure v) _ _ s;refine Nv ?_;show wpAny c.M A (eval (.Name (No "Refusal") q) x.env >>= fun f=>callWith p' f [] (backTo p' (starEach [a] x.env)) (backToKw p' (keywordEach [] x.env))) _ _ s;rw[b8 (by simp [hsl])];refine Nv (gC (F₀:=F₀) fs ok.env R hk ?_);refine eT (P:=fun h=>c.K.In h) (fun h hh=>W.keeps_K F₀.keep h hh) ?_;refine xj (fj (d3 n).1 [a] fs h' base s A ok R) (fun a b e=>e) fun vs s₂ H₂ R₂ zz=>?_;obtain ⟨hvl,hvs⟩:=zz;obtain ⟨u,rfl⟩:=List.length_eq_one_iff.mp hvl;obtain ⟨m,hu,hE⟩:=eY hvs;obtain ⟨d,rfl,hE⟩:=sM hE;have hX:=R₂.frag;refine ⟨hX,?_⟩;obtain ⟨hp,g,dr,tk,os⟩:=s₂;refine vF hX (XF.of PySem.F.excBase_Exception F₀.C2) (hX _ _ hK) F₀.init F₀.fn (fun h' e hm=>?_) (Sf _);obtain ⟨t,ht,ht2,ht3⟩:=hm.there;refine vE I₀ (ok.made) (Rp.new (t:=tk) R₂.rp hm.new hm.keeps ht) fun s' dx es n r' hes hdx=>⟨rfl,?_⟩;refine Nv (OH (NP ⟨e,t,dx,rfl,r'.plain.frag _ _ hK,r'.at_ (.head _),?_⟩));obtain ⟨g',o',D,R',Fr⟩:=r';have f1:=Fr _ (.head _);have f2:=Fr _ (.tail _ (.head _));exact ⟨e,.str m,H₂,_,rfl,hE,g',o',D,R',_,_,dx,es,n,u,F₀.C,f1.2,F₀.ns,rfl,rfl,rfl,f1.1,f2.2,by replace hes:=(hu)▸hes;exact hes,hu,f2.1,hdx,.inl rfl⟩
section
variable{A:Around}{x:Fx}{se:SE}{F:Fr}{gx:List (Str×Gn)}{base:Heap}{E₁:XP}{fl:Value}{ea:Addr}{s:Shared}{R:Result→Shared→Prop}
theorem rG(F₀:RF c){lo:Lo}{q pos:Pos}(fs:Fs c x se F gx)(he:fw x.env)(hk:se.ns.lookup (No "Refusal")=some .globalImplicit)(h:dE c base (x.fs lo) E₁ fl (.ref ea) s)(hq:R (.ok .brk) s) :
  Re c.M A (.handlers (.ref ea) [.ExceptHandler (some (.Name (No "Refusal") q)) none [] pos] x.env) R s:=by
 refine (lp F₀).el fun nm qq N bs sn sub ab col dd k0 k1 k2 k3 k5 hc hK=>?_;refine (h.rep F₀.ns).el fun msg H hE R' ea' oe dx es n e1 g1 g3 vs g4 g5 g6 g7=>?_;injection e1 with e1;subst e1;refine codeAny_handlers_test (gC (F₀:=F₀) fs he R' hk ?_);obtain ⟨hp',gg,dr,tk,os⟩:=s;exact wpAny_excMatches_sub_self (R'.frag _ _ hK) g1 g3 (by rfl) hq
theorem nD{d:Nat}{lo:Lo}{H:AH}{n:Str}{hp:Pos}{E':Value→Shared→Prop}{Q':Shared→Prop}(ok:Ok d x A)(hn:x.env.kindOf n=some .local)(R:aq c base (x.fs lo) H s)(k:∀lo' s',aq c base (x.fs lo') H s'→Q' s') :
  wpAny c.M A (do Pa x.env n .none;unbindBehindTheSuite x.env n hp) (fun a s=>Q' s) E' s:=by
 refine Nv (OJ (W.storeL (c:=c) (d:=d) (E:=pb) (x:=x) (y:=n) (u:=.none) (Q:=fun ζ l h=>l=bG lo n .none∧h=H) hn ⟨rfl,rfl⟩ base _ A ok R) (fun a s₇ z=>?_) fun a b e=>e.no.elim);obtain ⟨l₇,H₇,R₇,rfl,rfl⟩:=z;obtain ⟨g7,o7,D7,R7⟩:=R₇;obtain ⟨_,m7,hns7,hm7⟩:=R7.frames _ (.head _);refine Nz (gP (o:=m7 n) (v:=.none) ((hm7 n).trans (if_pos rfl))) fun v7 zz=>NO (fun hv7 ζ=>?_) (zz);exact wpAny_onRaise (wpAny_unbindName_local hn hns7 hv7 (by rw[ok.env.kind];rfl) fun h8 u8 hn8 hs8=>k _ _ ⟨g7,o7,D7,R7.store hs8 ⟨_,hn8,fun z=>rfl⟩⟩)
theorem rH(F₀:RF c){lo:Lo}{n:Str}{p1 p2 p3 hp:Pos}(he:fw x.env)(hn:x.env.kindOf n=some .local)(hnb:(n==("__debug__" : Str))=false)(h:dE c base (x.fs lo) E₁ fl (.ref ea) s)(hbi:∀m H,E₁ m H→m.isBi=false)
  (k:∀v lo' H s',E₁ (er v) H→aq c base (x.fs lo') H s'→R (.ok (.ret v)) s') :
  Re c.M A (.handlers (.ref ea) [.ExceptHandler none (some n) [.Return (some (.Attribute (.Name n p1) (No "message") p2)) p3] hp] x.env) R s:=by
 refine (lp F₀).el fun nm qq N bs sn sub ab col dd k0 k1 k2 k3 k5 hc hK=>?_;refine codeAny_handlers_suite_as (dY h fun s₄ h₄=>?_);have hns:∃m,s₄.heap.Ns x.env.locals m∧∀y,(m y).map er=lo y:=by
  obtain ⟨_,_,_,_,_,_,_,D,R',_⟩:=h₄;exact (R'.frames _ (.head _)).2
 refine Nz (hns) fun m zz=>NO (fun hns hm=>?_) (zz);refine Uc hn hns (fun h' hn' hs'=>?_) (by rw[he.kind];rfl);have h₅:=h₄.store (f:=⟨x.env,lo⟩) (r:=x.outer) (lo':=bG lo n (.ref ea)) (t:=s₄.toks+1) hs' ⟨_,hn',fun z=>by
  unfold bG;split
  ·rfl
  ·exact hm z⟩
 refine (h₅.rep F₀.ns).el fun msg H hE R₅ ea' oe dx es j e1 j1 j3 vs j4 j5 j6 j7=>?_;injection e1 with e1;subst e1;clear h h₄ h₅ hns hm hs';rw[Ti,arm_exec_Return];refine Nv (Nv (OH ?_));show wpAny _ _ (eval (.Attribute (.Name n p1) (No "message") p2) x.env >>= fun v=>pure (Flow.ret v)) _ _ _;rw[arm_eval_Attribute,bE rfl,TH];refine Nv (Nv (Nv (OH ?_)));rw[if_neg (by rw[hnb];simp)];refine wpAny_loadName_local he.kind hn hn' (v:=.ref ea) (by simp) ?_;refine Nv (OH (Nv (Oy ?_)));refine Nz (j7.find (No "message") msg (by rfl)) fun en zz=>NO (fun w1 w2=>?_) (zz);unfold rJ at w2;rw[pt]at w2;simp only [Qq,TE]at w2;refine kc (od:=some (dictOf es j)) R₅.frag ⟨j1,j3,(by unfold notCls;rw[j4]),by rw[j5];exact j6⟩ F₀.getA F₀.getB F₀.bex (W.findObj_own (nB hc rfl) F₀.noMsg rfl (by rw[j7.lookIn,w1];rfl)) (ii (by rw[w2];exact hbi _ _ hE)) ?_;exact Nv (RU (NP (NP (NP (k _ _ H _ (by rw[w2];exact hE) R₅)))))
end
theorem xE(I₀:RI c F₀){body hds o f p}(hs:∀s,XS c n s):XS c (n+1) (.Try body hds o f p):=fun x se F gx d k E L H Q fs hr h=>by
 refine c9 h fun h0 h'=>?_;clear h;have h1:=aa h0;have h2:=aa h1.1;obtain rfl:=List.isEmpty_iff.mp h2.2;obtain rfl:=List.isEmpty_iff.mp h1.2;obtain ⟨n,h00⟩:=Option.isSome_iff_exists.mp h2.1;obtain ⟨q,p1,p2,p3,hp,rfl,hkk,hn,hnb⟩:=mf h00;clear h0 h1 h2 h00;obtain ⟨E₁,hb,hq⟩:=h';intro base s A ok R;have hnn:=fs.of.2 n;replace hnn:=(hn)▸hnn;refine wpAny_Try_except (OJ (d8 hs body fs hr hb base s A ok R) (fun f s₁ z=>?_) fun e s₁ he=>?_)
 ·obtain ⟨l₁,H₁,R₁,q₁⟩:=z
  induction f with
  | next=>obtain ⟨_,_,q₁⟩:=q₁;exact q₁.elim
  | _=>exact ⟨l₁,H₁,R₁,q₁⟩
 refine fK ok hr he fun s₂ l₂ h₂=>dY h₂ fun s₃ h₃=>?_;obtain ⟨ea,rfl⟩:∃ea,e=.ref ea:=by
  obtain ⟨ea,_,_,e1,_⟩:=h₃;exact ⟨ea,e1⟩
 refine wpAny_handleBy_cons (rG F₀ fs ok.env hkk h₃ ?_) (fun h=>(by injection h));refine rH F₀ ok.env hnn hnb h₃ (fun m H e=>(hq m L H e).1) fun v lo' H' s' e R'=>?_;exact nD ok hnn R' fun lo'' s'' R''=>⟨lo'',H',R'',L,(hq _ L H' e).2⟩
end
end
section
theorem FP{c:Cx}{n:Nat}{s:O0}(z:∀t k,cS (n+1) t s k=.bad):XS c (n+1) s:=fun ζ ζ ζ ζ ζ ζ ζ ζ ζ ζ ζ ζ h=>by rw[z]at h;exact h.elim
theorem wC{c:Cx}{F₀:RF c}(I₀:RI c F₀)(n:Nat):∀s,XS c n s:=by
 induction n with
 | zero=>exact fun ζ ζ ζ ζ ζ ζ ζ ζ ζ ζ ζ ζ ζ h=>h.elim
 | succ n hs=>
  intro s
  induction s using PySem.Stmt.casesOn with
  | Pass=>exact vo
  | Break=>exact sf
  | Continue=>exact mA
  | Expr=>exact vq
  | Return=>exact pI
  | Assign=>exact pL
  | AugAssign=>exact xG
  | If t b o=>exact A0 (d8 hs b) (d8 hs o)
  | While t b o=>exact r7 (d8 hs b)
  | For t it b o=>exact xF (d8 hs b)
  | Raise=>exact r9 I₀
  | Try=>exact xE I₀ hs
  | _=>exact FP fun ζ ζ=>rfl
theorem mn(names:List (Str×Ov)):fi names=(dw names).reverse:=rfl
theorem fP{y:Str} : ∀(ps:List Str) (vs:List V),jP vs (ef ps y)=(ps.zip vs).lookup y
 | [],vs=>rfl
 | p::r,[]=>by
  rw[List.zip_nil_right];show jP [] (cond (jF p y) (some 0) ((ef r y).map (· + 1)))=none;refine yM (o:=jF p y) ?_ ?_
  ·rfl
  ·refine vc (o:=ef r y) ?_ (fun zz=>?_)<;>rfl
 | p::r,v::vs=>by
  show jP (v::vs) (cond (jF p y) (some 0) ((ef r y).map (· + 1)))=((p,v)::r.zip vs).lookup y;rw[NK];refine aw (o:=jF p y) (fun e=>?_) (fun e=>?_)
  ·rw[show (y==p)=true by rw[aY.mp e];simp];rfl
  ·
   rw[(beq_eq_false_iff_ne.mpr fun w=>by have e:=(aY.mpr w.symm).symm.trans e;exact NG e)];refine R0 ?_ (fP (y:=y) r vs);refine vc (o:=ef r y) ?_ (fun zz=>?_)<;>rfl
theorem fD{ps:List Str}{vs:List V}{k:List (Str×Addr)→AH→Prop} : ∀(names:List (Str×Ov)) (cl:List (Str×Addr)) (H:AH),mS ((dw names).map (ef ps)) vs (dw names) cl H k→
  qI names (ps.zip vs) cl H fun cl' H'=>k cl' H'∧cl'.map (·.1)=(dw names).reverse++cl.map (·.1)
 | [],cl,H,h=>⟨h,rfl⟩
 | (x,kd)::r,cl,H,h=>by
  induction kd with
  | cell=>
   intro a ha;have h:=h a ha;rw[fP]at h;have:=fD r ((x,a)::cl) _ h;refine cast ?_ this
   congr 1
   funext cl' H';show (_∧_=_++x::_)=(_∧_=(x::dw r).reverse++_);rw[PE,Om];rfl
  | _=>exact fD r cl H h
theorem jy{ps:List Str}{vs:List V} : ∀(names:List (Str×Ov)),(names.map (·.1)).Nodup→bS (slots names) (fq vs ((slots names).map (ef ps)))=pg names (ps.zip vs)
 | [],_=>rfl
 | (x,kd)::r,hn=>by
  rw[NT,Op]at hn;have ih:=jy (ps:=ps) (vs:=vs) r hn.2;funext y;unfold pg;rw[NK];refine aw (o:=dL kd) (fun hk=>?_) (fun hk=>?_)
  ·
   obtain rfl:=dK hk;show (if y=x then jP vs (ef ps x) else bS (slots r) (fq vs ((slots r).map (ef ps))) y)=_;by_cases e:y=x
   ·rw[← e];simp [fP]
   ·rw[if_neg e,ih,show (y==x)=false from beq_eq_false_iff_ne.mpr e];rfl
  ·
   have:slots ((x,kd)::r)=slots r:=by unfold slots;rw[Pf];simp [hk]
   rw[this,ih];unfold pg;by_cases e:y=x
   ·subst e;rw[if_neg (show r.lookup y≠some .local from fun w=>hn.1 (List.mem_map.mpr ⟨_,bJ _ w,rfl⟩))];simp [(show kd≠.local from fun w=>by replace hk:=(w)▸hk;exact NG hk)]
   ·rw[show (y==x)=false from beq_eq_false_iff_ne.mpr e]
section
variable{c:Cx}{d:Nat}{E:XP}{F₀:RF c}
theorem tK{env:Env}{ns:List (Str×Ov)}{cl:List (Str×Addr)}{o:List Fm}(hk:∀y,env.kindOf y=ns.lookup y)(hc:∀y,ns.lookup y=some .cell→env.cells.lookup y=cl.lookup y)(hf:∀y,ns.lookup y=some .free→env.cells.lookup y=cl.lookup y):(⟨env,o⟩:Fx).Of { ns:=ns,cl:=cl }:=by
 refine ⟨trivial,fun y=>?_⟩;dsimp only;have hk:=hk y;refine ay (o:=ns.lookup y) (fun e=>?_) (fun k e=>?_)
 ·exact trivial
 ·
  rw[e]at hk
  induction k with
  | cell=>exact ⟨hk,hc y e⟩
  | free=>exact ⟨.inr hk,hf y e⟩
  | «local»=>exact hk
  | globalImplicit=>exact hk
  | _=>exact trivial
theorem nN(I₀:RI c F₀){f:Addr}{qual:Str}{params:P5}{body:List O0}{scope:Scope}{dV cdv:Value}{ps:List Str}{args:List V}{H:AH}{Q:Q1}{extra:List V}{G:Gn→V}{gx:List (Str×Gn)}{lm:Option kw}{n:Nat}
  (df:oB c f qual params body scope dV cdv) (hs:f7 scope ps=true) (hlen:ps.length=(args++extra).length)
  (hb:∀vs:List Value,vs.map er=args→∃us:List Value,us.map er=extra∧∀(s:Shared) oc od osl name kV doc pm an ct,c.K.lookup f=some ⟨oc,od,.func (fnOf name qual params body scope dV kV doc pm an cdv ct),osl⟩→c.K.In s.heap→BindsTo s (fnOf name qual params body scope dV kV doc pm an cdv ct) ⟨vs,[]⟩ (ps.zip (vs++us)))
  (hG:Bq c G gx) (hlm:∀l,lm=some l→cdv=.ref l.code∧qual ++ ".<locals>." ++ No "<lambda>" = l.qual)
  (h:rL c G lm d (xy n gx ps scope body) (args++extra) H Q E)
  {fs:List Fm}{A:Around}{s:Shared}{vs:List Value}{base:Heap}{R':Result→Shared→Prop}(ha:vs.map er=args) (hd:A.depth+10*(d+1)+20<R3) (hok:∀env,fw env→bq env=true→Ok d ⟨env,fs⟩ (A.deeper env)) (R:aq c base fs H s)
  (hR:∀v H' s',aq c base fs H' s'→Q (er v) H'→R' (.ok (.ret v)) s') (hE:∀env e s₂,iu c base ⟨env,fs⟩ E e s₂→Ok d ⟨env,fs⟩ (A.deeper env)→bq env=true→wpAny c.M (A.deeper env) (leaving env e) (fun ζ s''=>R' (.error e) s'') (fun e' s''=>R' (.error e') s'') s₂):Re c.M A (.call (.ref f) ⟨vs,[]⟩) R' s:=by
 obtain ⟨oc,od,osl,name,kV,doc,pm,an,ct,hK⟩:=df.at_;have zz:=hY hs;have s1:=zz.1;have s2:=zz.2.1;have s3:=zz.2.2.1;have s4:=zz.2.2.2.1;have s5:=zz.2.2.2.2.1;have s6:=zz.2.2.2.2.2;refine Nz (hb vs ha) fun us zz=>NO (fun hus hb=>?_) (zz);have hzl:ps.length=(vs++us).length:=by rw[hlen,← ha,← hus];simp
 have hfst:(ps.zip (vs++us)).map (·.1)=ps:=List.map_fst_zip (NL hzl);have hmap:(ps.zip (vs++us)).map (fun p=>(p.1,er p.2))=ps.zip (args++extra):=by
  rw[← ha,← hus,← N8,List.zip_map_right];rfl
 replace h:=fD scope.names [] H h;have hX:=R.frag;refine Ud (Jt hd) (hX _ _ hK) rfl s2 s3 rfl (codeRec_of hX df.code) ?_;refine hb s _ _ _ _ _ _ _ _ _ hK hX _ _ _ _ ?_;refine wpAny_newFunctionEnv_cells s1 (fun p hp=>?_) fun env henv s' hin=>?_
 ·have hp1:p.1∈ps:=by rw[← hfst];exact List.mem_map.mpr ⟨p,hp,rfl⟩
  rcases s6 _ hp1 with e | e
  ·exact .inl e
  ·refine .inr ⟨e,?_⟩;refine Nz (fN _ (s.heap.objs.size+1) (bJ _ e)) fun a ha=>?_;rw[cR,Nr];rw[Option.isSome_iff_ne_none,Ne,List.lookup_eq_none_iff];intro hn;have:=hn _ (List.mem_reverse.mpr ha);simp at this
 ·have hsame:=hin.toInCall.same;clear hzl;obtain ⟨h',tk,rfl⟩:=hsame;have hkeep:=hin.toInCall.keep;refine ⟨c.nolimit.keeps fun b o e=>hkeep b o (R.ground b o e),?_⟩;refine (R).el fun g o D R=>?_;have hcl:env.cells=Qf (s.heap.objs.size+1) scope.names []:=Nw _ (henv);have hkd:env.kindOf=fun y=>scope.names.lookup y:=Nw _ (henv);have hloc:env.locals=s.heap.objs.size:=Nw _ (henv);have hnb:((ps.zip (vs++us)).map (·.1)).Nodup:=by rw[hfst];exact s4
  have hns:∃m,h'.Ns env.locals m∧∀y,(m y).map er=pg scope.names (ps.zip (args++extra)) y:=by
   refine ⟨_,hin.toInCall.ns,fun y=>?_⟩;rw[nZ y _ _ hnb];unfold pg;rw[hkd];split
   ·rw[Rk,dA,hmap]
   ·rfl
  have hfr:∀j,s.heap.objs.size+1≤j→aH base H D (⟨env,pg scope.names (ps.zip (args++extra))⟩::fs) j:=fun j hj=>by
   have zz:=R.fresh (n:=j) (NX (OI ‹_›));have f1:=zz.1;have f2:=zz.2.1;have f3:=zz.2.2.1;have f4:=zz.2.2.2;refine ⟨f1,f2,f3,fun g hg=>?_⟩;rcases List.mem_cons.mp hg with rfl | hg
   ·show env.locals≠j;rw[hloc];exact N1 hj
   ·exact f4 g hg
  have R₂:aE c base (⟨env,pg scope.names (ps.zip (args++extra))⟩::fs) (eP (s.heap.objs.size+1) scope.names (ps.zip (args++extra)) H) h' D:=by
   refine gZ (bs:=ps.zip (args++extra)) scope.names (s.heap.objs.size+1) H (R.push (env:=env) (h':=h') (by rw[hloc];exact NX (Oe _)) hkeep hns) hfr fun p hp=>?_;obtain ⟨y,a⟩:=p;have hlk:env.cells.lookup y=some a:=by
    rw[hcl,cR,Nr];refine cz _ ?_ (List.mem_reverse.mpr hp);rw[Si];exact List.pairwise_reverse.mpr ((d4 scope.names (s.heap.objs.size+1) s5).imp fun h=>Pk h)
   refine ⟨_,hin.cell y a hlk,?_⟩;rw[n5 y _ _ hnb,hkd];have hcell:scope.names.lookup y≠some .local:=fun q=>by
    have:=q.symm.trans (cz _ s5 (cM _ _ hp));cases this
   rw[if_neg hcell,Rk,dA,hmap]
  have hreal:bq env=true:=by rw[henv];exact Oh _
  have ok':Ok d ⟨env,fs⟩ (A.deeper env):=hok env (by rw[henv];exact ⟨s1,rfl,rfl,s2⟩) hreal;have hx:(⟨env,fs⟩:Fx).Of { ns:=scope.names,cl:=Qf (s.heap.objs.size+1) scope.names [] }:=tK (fun y=>by rw[hkd]) (fun y e=>by rw[hcl]) fun y e=>by rw[hcl]
  refine NO (fun hbody hcn=>?_) (jN scope.names (s.heap.objs.size+1) [] H h fun j hj=>(hfr j hj).2.1);have hfs:Fs c ⟨env,fs⟩ { ns:=scope.names,cl:=Qf (s.heap.objs.size+1) scope.names [] } ⟨G,Qf (s.heap.objs.size+1) scope.names [],lm⟩ gx:=⟨hx,rfl,hG,fun l hl=>by rw[henv];exact hlm l hl⟩;have htr:tr { ns:=scope.names,cl:=Qf (s.heap.objs.size+1) scope.names [] } gx={ ns:=scope.names,cn:=fi scope.names,gx:=gx }:=by
   unfold tr;rw[hcn,mn,Pp,Nr]
  rw[← jy scope.names s5]at R₂;have hbody:ao c ⟨G,Qf (s.heap.objs.size+1) scope.names [],lm⟩ d (body.foldr (cS n { ns:=scope.names,cn:=fi scope.names,gx:=gx }) .fin) E [] (fq (args++extra) ((slots scope.names).map (ef ps))) (eP (s.heap.objs.size+1) scope.names (ps.zip (args++extra)) H) (rh Q):=hbody;rw[← htr]at hbody;refine codeAny_func (OJ (d8 (wC I₀ n) body hfs hreal hbody base _ (A.deeper env) ok' ⟨g,o,D,R₂⟩) (fun fl s₂ z=>?_) fun e s₂ he=>?_)
  ·obtain ⟨l₂,H₂,R₃,q⟩:=z;refine (R₃).el fun g₂ o₂ D₂ R₃=>?_
   induction fl with
   | next=>obtain ⟨_,_,q⟩:=q;exact hR _ _ _ ⟨g₂,o₂,D₂,R₃.pop⟩ q
   | brk=>obtain ⟨_,_,q⟩:=q;exact q.elim
   | cont=>obtain ⟨_,_,q⟩:=q;exact q.elim
   | ret v=>obtain ⟨_,q⟩:=q;exact hR _ _ _ ⟨g₂,o₂,D₂,R₃.pop⟩ q
  ·exact hE env e s₂ he ok' hreal
theorem kW(I₀:RI c F₀){f:Addr}{qual:Str}{params:P5}{body:List O0}{scope:Scope}{dV cdv:Value}{ps:List Str}{args:List V}{H:AH}{Q:Q1}{extra:List V}{G:Gn→V}{gx:List (Str×Gn)}{lm:Option kw}{n:Nat}
  (df:oB c f qual params body scope dV cdv) (hs:f7 scope ps=true) (hlen:ps.length=(args++extra).length)
  (hb:∀vs:List Value,vs.map er=args→∃us:List Value,us.map er=extra∧∀(s:Shared) oc od osl name kV doc pm an ct,c.K.lookup f=some ⟨oc,od,.func (fnOf name qual params body scope dV kV doc pm an cdv ct),osl⟩→c.K.In s.heap→BindsTo s (fnOf name qual params body scope dV kV doc pm an cdv ct) ⟨vs,[]⟩ (ps.zip (vs++us)))
  (hG:Bq c G gx) (hlm:∀l,lm=some l→cdv=.ref l.code∧qual ++ ".<locals>." ++ No "<lambda>" = l.qual)
  (h:rL c G lm d (xy n gx ps scope body) (args++extra) H Q E):dy c (d+1) (.ref f) args H Q E:=by
 refine ⟨.inl ?_,fun x lo fv vs hf ha base s A ok R=>?_⟩
 ·obtain ⟨oc,od,osl,name,kV,doc,pm,an,ct,hK⟩:=df.at_;unfold keepIn;dsimp only;rw[hK]
 refine az hf ?_;exact nN I₀ df hs hlen hb hG hlm h ha ok.depth (fun env he hr=>ok.goes he hr) R (fun v H' s' R' q=>⟨H',R',q⟩) fun env e s₂ he ok' hreal=>fo ok' hreal he fun s₃ l₃ h₃=>(dE.pop h₃).exc (.inl rfl)
theorem xq(I₀:RI c F₀){f:Addr}{qual:Str}{params:P5}{body:List O0}{scope:Scope}{dV cdv:Value}{ps:List Str}{args:List V}{H:AH}{Q:Q1}{extra:List V}{G:Gn→V}{gx:List (Str×Gn)}{lm:Option kw}{n:Nat}
  (df:oB c f qual params body scope dV cdv) (hs:f7 scope ps=true) (hlen:ps.length=(args++extra).length)
  (hb:∀vs:List Value,vs.map er=args→∃us:List Value,us.map er=extra∧∀(s:Shared) oc od osl name kV doc pm an ct,c.K.lookup f=some ⟨oc,od,.func (fnOf name qual params body scope dV kV doc pm an cdv ct),osl⟩→c.K.In s.heap→BindsTo s (fnOf name qual params body scope dV kV doc pm an cdv ct) ⟨vs,[]⟩ (ps.zip (vs++us)))
  (hG:Bq c G gx) (hlm:∀l,lm=some l→cdv=.ref l.code∧qual ++ ".<locals>." ++ No "<lambda>" = l.qual)
  (h:rL c G lm d (xy n gx ps scope body) (args++extra) H Q pb)
  {A:Around}{s:Shared}{vs:List Value}{base:Heap}(ha:vs.map er=args) (a1:A.handled=none) (a2:A.depth+10*(d+1)+20<R3) (a3:A.units+60*(d+1)+200<cLine) (a4:A.frames=some []) (R:aq c base [] H s) :
  Re c.M A (.call (.ref f) ⟨vs,[]⟩) (fun r s'=>∃v H',r=.ok (.ret v)∧aq c base [] H' s'∧Q (er v) H') s:=by
 refine nN I₀ (fs:=[]) df hs hlen hb hG hlm h ha a2 (fun env he hr=>⟨a1,?_,?_,?_,fun f hf=>?_,_,.head _,beq_iff_eq.mp hr⟩) R (fun v H' s' R' q=>⟨v,H',rfl,R',q⟩) fun env e s₂ he ζ ζ=>?_
 ·exact Js a2
 ·exact J7 a3
 ·show A.frames.map (env :: ·)=_;rw[a4];show some [env]=some ([env].filter bq);rw[Pf,hr];rfl
 ·rcases List.mem_cons.mp hf with rfl | hf
  ·exact he
  ·cases hf
 ·refine (he).el fun ζ ζ ζ ζ ζ hE ζ=>?_;exact hE.elim
theorem ue{a cd:Addr}{qual:Str}{body:Nu}{sc:Scope}{cl cl':List (Str×Addr)}{H:AH}{Q:Q1}{G:Gn→V}{gx:List (Str×Gn)}{n:Nat}(hG:Bq c G gx)(ha:H a=some (.lam qual body sc cl cd))(hc:H cd=some (.code qual))
  (s1:sc.kind=.function) (s2:sc.isCoroutine=false) (s3:sc.isGenerator=false) (s4:∀p∈sc.names,p.2≠.cell) (hcl':∀n,(n,NameKind.free)∈sc.names→cl.lookup n=cl'.lookup n)
  (h:ao c ⟨G,cl',none⟩ d (cE n (tr { ns:=sc.names,cl:=cl' } gx) body .rtn) E [] [] H (rh Q)):dy c (d+1) (.ref a) [] H Q E:=by
 refine ⟨.inr ⟨_,_,_,_,_,ha⟩,fun x lo fv vs hf hvs base s A ok R=>?_⟩;refine az hf ?_;obtain rfl:=map_nil hvs;refine (id R).el fun g o D R'=>?_;refine Nz ((R'.objs _ _ ha).1) fun pm zz=>Nz (zz) fun ctv ga=>?_;refine Nz ((R'.objs _ _ hc).1) fun oc zz=>Nz (zz) fun vs zz=>Nz (zz) fun t zz=>NO (fun gc zz=>NO (fun gd gv=>?_) (zz)) (zz);refine kla_callFunE (Jt ok.depth) ga rfl s2 s3 rfl ⟨cd,oc,vs,t,rfl,gc,gd,gv⟩ ?_;rw[(show bindArgs (kla_fn (No "<lambda>") qual ⟨[],[],none,[],[],none,[]⟩ body sc cl pm (.ref cd) ctv) ⟨[],[]⟩=pure [] from rfl)];refine NP ?_;refine Ql s4 (fun p hp=>by exact nomatch hp) (fun h' hn hs=>?_) s1;have hk:∀b ob,s.heap.get? b=some ob→h'.get? b=some ob:=fun b ob e=>(hs.2 _ (N1 (O5 e))).trans (NR _ e);refine ⟨c.nolimit.keeps fun b o e=>hk b o (R.ground b o e),?_⟩;generalize hE:newEnv sc s.heap.objs.size OW cl (qual ++ ".<locals>.") (some a) (.ref cd) none Q4=env;have hloc:env.locals=s.heap.objs.size:=(Nw _ (hE)).symm;have hreal:bq env=true:=by rw[← hE];exact Oh _
 have R₁:=R'.push (env:=env) (lo:=fun ζ=>none) (h':=h') (by rw[hloc];exact NX (Oe _)) hk ⟨_,by rw[hloc];exact hn,fun ζ=>rfl⟩;have hx:(⟨env,x.fs lo⟩:Fx).Of { ns:=sc.names,cl:=cl' }:=tK (fun y=>by rw[← hE];rfl) (fun y e=>absurd rfl (s4 _ (bJ _ e))) fun y e=>by rw[(show env.cells=cl from by rw[← hE];rfl)];exact hcl' _ (bJ _ e)
 have ok':Ok d ⟨env,x.fs lo⟩ (A.deeper env):=ok.goes (by rw[← hE];exact ⟨s1,rfl,rfl,s2⟩) hreal;have hfs:Fs c ⟨env,x.fs lo⟩ { ns:=sc.names,cl:=cl' } ⟨G,cl',none⟩ gx:=⟨hx,rfl,hG,nofun⟩;rw[show (fun ζ=>none:Lo)=cb { ns:=sc.names,cl:=cl' } [] from (cV _).symm]at R₁;refine kla_codeExpr (OJ (bl hfs h base _ (A.deeper env) ok' ⟨g,o,D,R₁⟩) (fun v s₂ z=>?_) fun e s₂ he=>?_)
 ·obtain ⟨l₂,H₂,R₃,e3,q⟩:=z;refine (R₃).el fun g₂ o₂ D₂ R₃=>?_;exact ⟨H₂,⟨g₂,o₂,D₂,R₃.pop⟩,q⟩
 ·exact fo ok' hreal he fun s₃ l₃ h₃=>(dE.pop h₃).exc (.inl rfl)
end
end
section
noncomputable def Kp(i:Nat):Option O0:=(PySem.Challenge.pw_pq1443_01.main.body.drop i).head?
structure DP where
 name:Str
 qual:Str
 args:P5
 body:List O0
 sc:Scope
noncomputable def o6(q:Str→Str)(s:Option O0):DP:=match s with
 | some (.FunctionDef n a b _ _ _ sc _ _ _)=>⟨n,q n,a,b,sc⟩
 | _=>⟨QE,QE,⟨[],[],none,[],[],none,[]⟩,[],{ kind:=.function,names:=[],isGenerator:=false,isCoroutine:=false }⟩
noncomputable def zB(k:Nat)(s:Option O0):DP:=match s with
 | some (.ClassDef n _ _ b _ _ _ _ _ _ _)=>o6 (n++No "." ++ ·) b[k]?
 | _=>o6 id none
noncomputable def D(i:Nat):DP:=bif Qx i 1000 then o6 id (Kp i) else zB (i % 10) (Kp (i / 10-100))
noncomputable def wJ(i:Nat):List Str:=(D i).args.args.map (·.arg)
noncomputable def ou:List (Nat×Addr×Addr):=[(9,146,145),(10,153,152),(11,160,159),(12,167,166),(13,174,173),(15,188,187),(16,195,194),(18,202,201),(19,209,208),(20,216,215),(21,221,220),(22,228,227),(23,233,232),(30,257,256),(32,271,270),(34,285,284),(35,292,291),(36,299,298),(39,306,305),(40,313,312),(41,320,319),(42,327,326),(43,334,333),(45,348,347),(46,355,354),(47,362,361),(48,369,368),(49,374,373),(50,382,381),(59,431,430),(60,438,437),(66,480,479),(67,487,486),(68,494,493),(69,501,500),(70,508,507),(74,534,533),(75,539,538),(76,546,545),(78,553,552),(79,560,559),(80,565,564),(81,572,571),(83,586,585),(84,593,592),(87,614,613),(90,634,633),(92,641,640),(93,648,647),(95,662,661),(99,683,682),(100,690,689),(101,697,696),(102,704,703),(103,711,710),(104,718,717),(105,725,724),(106,732,731),(107,739,738),(108,746,745),(109,753,752),(113,779,778),(115,786,785),(116,793,792),(117,800,799),(118,807,806),(119,814,813),(120,819,818),(121,826,825),(122,831,830),(123,838,837),(124,845,844),(125,852,851),(126,857,856),(127,864,863),(128,871,870),(129,876,875),(130,881,880),(131,886,885),(132,893,892),(133,898,897),(134,905,904),(1020,41,40),(1050,60,59),(1060,81,80),(1070,103,102),(1071,110,109)]
noncomputable def A(i:Nat):Addr:=((ou.lookup i).getD (0,0)).1
noncomputable def GP(i:Nat):Value:=.ref ((ou.lookup i).getD (0,0)).2
noncomputable def AJ(i:Nat):Value:=bif O8 i 50 then .ref 375 else bif O8 i 90 then .ref 629 else bif O8 i 1070 then .ref 96 else .none
abbrev CN:Addr:=63
abbrev CM:Addr:=84
abbrev CV:Addr:=113
noncomputable def Gv:Gn→V
 | .fn i=>.ref (A i)
 | .cls a=>.ref a
 | .bi s=>.bi s
 | .ty s=>.ty s
 | .int i=>.int i
noncomputable def nE:List (Str×Gn):=([("room",.fn 9),("missing",.fn 10),("character",.fn 11),("length",.fn 12),("is_vector",.fn 13),("own",.fn 15),("share",.fn 16),("get_attr",.fn 18),("drop_attr",.fn 19),("put_attr",.fn 20),("names_of",.fn 21),("dim_of",.fn 22),("dimnames_of",.fn 23),("from_int",.fn 30),("is_finite",.fn 32),("to_whole",.fn 34),("nearest_whole",.fn 35),("exponent",.fn 36),("whole_text",.fn 39),("special_text",.fn 40),("scaled",.fn 41),("significant",.fn 42),("without_tail",.fn 43),("fixed_text",.fn 45),("measures",.fn 46),("chosen_form",.fn 47),("formed",.fn 48),("common_texts",.fn 49),("number_text",.fn 50),("kind_order",.fn 59),("common_kind",.fn 60),("to_integer",.fn 66),("to_double",.fn 67),("to_text",.fn 68),("item_as",.fn 69),("is_atomic_kind",.fn 70),("with_names",.fn 74),("as_kind",.fn 75),("as_list",.fn 76),("whole_subscripts",.fn 78),("logical_places",.fn 79),("whole_places",.fn 80),("first_places",.fn 81),("extending_places",.fn 83),("positions",.fn 84),("is_matrix_index",.fn 87),("matrix_index",.fn 90),("lacking_item",.fn 92),("is_list_kind",.fn 93),("result_kind",.fn 95),("converted_items",.fn 99),("raised",.fn 100),("value_vector",.fn 101),("assigned_kind",.fn 102),("extend_vector",.fn 103),("put_items",.fn 104),("check_places",.fn 105),("first_count",.fn 106),("delete_places",.fn 107),("assign_places",.fn 108),("assign_vector",.fn 109),("assign_any",.fn 113),("_law_row",.fn 115),("_law_next",.fn 116),("_law_reduced",.fn 117),("_law_text",.fn 118),("_law_number",.fn 119),("_law_index",.fn 120),("_law_cut",.fn 121),("_law_due",.fn 122),("_law_item",.fn 123),("_law_plain_text",.fn 124),("_law_as",.fn 125),("_law_view",.fn 126),("_law_kept",.fn 127),("_law_order",.fn 128),("_law_made",.fn 129),("_law_vector",.fn 130),("_law_raised",.fn 131),("_law_names",.fn 132),("_law_put",.fn 133),("law",.fn 134),("Null",.cls 63),("Missing",.cls 84),("Vector",.cls 113),("MOST_LENGTH",.int 1000000),("len",.bi "len"),("isinstance",.bi "isinstance"),("max",.bi "max"),("abs",.bi "abs"),("chr",.bi "chr"),("list",.ty "list"),("dict",.ty "dict"),("range",.ty "range"),("str",.ty "str")]:List (String×Gn)).map fun p=>(No p.1,p.2)
noncomputable def Av:Gn→Option V
 | .bi _=>none
 | .ty _=>none
 | g=>some (Gv g)
noncomputable def E9(K:Frag)(a:Addr)(p:DP)(dV cdv:Value):Obj:=⟨.type "function",none,.func (fnOf p.name p.qual p.args p.body p.sc dV .none .none (match K.lookup a with | some ⟨_,_,.func f,_⟩=>f.pyModule | _=>.none) none cdv .none),#[]⟩
noncomputable def kC(K:Frag)(a:Addr):Option (List V):=match K.lookup a with
 | some ⟨_,_,.seq xs _,_⟩=>some (xs.toList.map er)
 | _=>none
noncomputable def j9:List (Addr×Addr):=[(63,60),(84,81),(113,103)]
noncomputable def Jm(K:Frag)(C:Addr)(x:Str):Bool:=Rf K C x&&QZ K C&&(match findIn K (.ref C) x with | some a=>noGet K a | none=>false) &&
 (findIn K (.ref C) "__setattr__" == some (some (.builtin "object.__setattr__")))&&plainOver K C&&(takerIn K C x==some none)
noncomputable def u6(K:Frag)(D:Addr):Bool:=Rf K D (No "__class__")&&QZ K D&&(findIn K (.ref D) (No "__class__")==some (some (.builtin "object.__class__"))) &&
 (specialIn K (.builtin "object.__class__") (No "__get__")==some (some (.builtin "getset_descriptor.__get__")))&&(takesIn K (.builtin "object.__class__")==some true)&&(mroIn K D (.type "object")==some true)
noncomputable def EU(K:Frag)(D C:Addr):Bool:=if D=C then true else kin_not K D C&&u6 K D
noncomputable def Ar(K:Frag)(D:Addr)(T:String):Bool:=kin_notT K D T&&u6 K D
noncomputable def nR(o:Obj):ClassData:=match o.data with
 | .cls cd=>cd
 | _=>default
noncomputable def s7(o:Obj)(i:Nat):Option Value:=(o.slots[i]?).join
noncomputable def Fc(o:Obj):Obj:=P1 (nR o).name (nR o).qualname 44 (nR o).ns (nR o).bases (ik 24) true (nR o).slotNames (nR o).subclasses (nR o).abstract (nR o).collection o.dict (s7 o 0) (s7 o 1) (s7 o 2) (s7 o 3) (s7 o 5) "Exception.__new__"
structure A9(K:Frag):Prop where
 nm:nE.map (fun p=>(nsIn K OW p.1).map (·.map er))=nE.map fun p=>some (Av p.2)
 fn:ou.map (fun p=>K.lookup p.2.1)=ou.map fun p=>some (E9 K p.2.1 (D p.1) (AJ p.1) (.ref p.2.2))
 cd:ou.all (fun p=>codeIn K (.ref p.2.2) (D p.1).qual)=true
 ck:j9.all (fun p=>keepIn K (.ref p.1)&&makesIn K p.1)=true
 ci:j9.map (fun p=>findIn K (.ref p.1) "__init__")=j9.map fun p=>some (some (.ref p.2))
 ct:j9.map (fun p=>typeIn K (.ref p.2))=j9.map fun ζ=>some (.type "function")
 d7:kC K 96=some [.none]
 d50:kC K 375=some [.int 7]
 d90:kC K 629=some [.none]
 cpM:findIn K (.ref 113) "copy" = some (some (.ref 110))
 cpT:isFn K (.ref 110)=true
 rn:nsIn K OW (No "Refusal")=some (some (.ref 44))
 rk:keepIn K (.ref 44)=true
 ri:findIn K (.ref 44) "__init__" = some (some (.ref 41))
 rt:typeIn K (.ref 41)=some (.type "function")
 rm:findIn K (.ref 44) "message" = some none
 rs:findIn K (.ref 44) "__setattr__" = some (some (.builtin "object.__setattr__"))
 rg:findIn K (.ref 44) "__getattribute__" = some (some (.builtin "BaseException.__getattribute__"))
 rx:mroIn K 44 (.type "BaseException")=some true
 rb:findIn K (.ref 44) "__getattr__" = some none
 ro:mroIn K 44 (.type "object")=some true
 fld:j9.all (fun p=>["kind","items","attrs","shared","loose"].all fun x=>Jm K p.1 (No x))=true
 isV:j9.all (fun p=>EU K p.1 113&&Ar K p.1 "str")=true
 ex:K.lookup 44=some (Fc ((K.lookup 44).getD default))
 no:K.lookup 900=none
abbrev PF(c:Cx):Prop:=A9 c.K
section
variable{c:Cx}{d:Nat}{E:XP}{H:AH}
theorem ux{x:Str}{v:Value}(h:nsIn c.K OW x=some (some v))(hn:x≠No "__name__"):c.has x∧c.gl x=er v:=by
 have e:=mg_of c.X c.G h;have e2:c.glV x=some v:=by unfold Cx.glV;rw[e]
 exact ⟨⟨by rw[e2];rfl,hn⟩,by unfold Cx.gl;rw[e2]⟩
theorem xd{x:Str}{v:Value}(h:nsIn c.K OW x=some none)(hb:RL x=some v)(hn:x≠No "__name__"):c.has x∧c.gl x=er v:=by
 have e:=mg_none_of c.X c.G h;have e2:c.glV x=some v:=by unfold Cx.glV;rw[e];exact hb
 exact ⟨⟨by rw[e2];rfl,hn⟩,by unfold Cx.gl;rw[e2]⟩
theorem mD{α β:Type}{f g:α→β}{l:List α}(h:l.map f=l.map g){a:α}(ha:a∈l):f a=g a:=(List.map_inj_left.mp h) a ha
theorem jk{α:Type}{y:Str}{g:α} : ∀{l:List (Str×α)},l.lookup y=some g→(y,g)∈l
 | (m,k')::r,h=>by
  rw[NK]at h;refine aw (o:=y==m) (fun e=>?_) (fun e=>?_)
  ·rw[e]at h;injection h with h;subst h;rw[eq_of_beq e];exact .head _
  ·rw[e]at h;exact .tail _ (jk h)
noncomputable def tU(p:Str×Gn):Bool:=!(Fast.sEq p.1 (No "__name__"))&&(match Av p.2 with | none=>decide ((RL p.1).map er=some (Gv p.2)) | _=>true)
theorem tT:nE.all tU=true:=by ac_rfl
theorem A9.gok(P:PF c):Bq c Gv nE:=fun y g h=>by
 have hm:=jk h;have e1:=mD P.nm hm;have e2:=List.all_eq_true.mp tT _ hm;unfold tU at e2;rw[NY,Oi]at e2;obtain ⟨e2,e3⟩:=e2;have hn:y≠No "__name__":=fun q=>by rw[Fast.sEq_iff.mpr q]at e2;injection e2
 dsimp only at e1 e3;refine ay (o:=Av g) (fun hg=>?_) (fun v hg=>?_)
 ·
  rw[hg]at e1 e3;refine Nz (Option.map_eq_some_iff.mp (Nx e3)) fun v zz=>NO (fun hv hr=>?_) (zz);refine ay (o:=nsIn c.K OW y) (fun hns=>?_) (fun o hns=>?_)
  ·rw[hns]at e1;injection e1
  ·
   rw[hns]at e1
   induction o using Option.casesOn with
   | some=>cases e1
   | none=>
    have:=xd hns hv hn
    rwa [hr]at this
 ·
  rw[hg]at e1;have hv:v=Gv g:=by induction g using Gn.casesOn<;>first | (exact ac hg;done) | (injection hg with hg;subst hg;rfl)
  refine ay (o:=nsIn c.K OW y) (fun hns=>?_) (fun o hns=>?_)
  ·rw[hns]at e1;injection e1
  ·
   rw[hns]at e1
   induction o using Option.casesOn with
   | none=>cases e1
   | some w=>
    have:=ux hns hn
    rwa [show er w=v from Option.some.inj (Option.some.inj e1),hv]at this
end
end
section
theorem fx{n:Str} : ∀{ps:List Str}{vs:List Value},ps.length=vs.length→n∈ps→(OB n (ps.zip vs)).isNone=false
 | p::r,v::vs,hl,h=>by
  rw[TL,NK];refine aw (o:=n==p) (fun e=>?_) (fun e=>?_)
  ·rfl
  ·
   refine fx (Nat.succ.inj hl) ((List.mem_cons.mp h).resolve_left fun q=>?_);rw[q]at e;simp at e
theorem pU:∀{ps:List Str}{vs:List Value},ps.length=vs.length→ps.Nodup→(ps.filterMap fun n=>(OB n (ps.zip vs)).map (n,·))=ps.zip vs
 | [],vs,hl,_=>rfl
 | p::r,v::vs,hl,hn=>by
  have hn:=(Op).mp hn;rw[TL,O2];simp only [NK,Oh,PS]
  congr 1
  refine R0 ?_ (pU (Nat.succ.inj hl) hn.2);have key:∀l:List Str,(∀n∈l,n≠p)→(l.filterMap fun n=>(match n==p with | true=>some v | false=>OB n (r.zip vs)).map (n,·))=l.filterMap fun n=>(OB n (r.zip vs)).map (n,·):=by
   intro l
   induction l with
   | nil=>intro _;rfl
   | cons a l ih=>
    intro h;have:(a==p)=false:=beq_eq_false_iff_ne.mpr (h a (.head _));rw[O2,O2,this,ih fun n hn=>h n (.tail _ hn)]
  exact key r fun n h q=>hn.1 (q▸h)
theorem tP{α:Type}{f:α→List (Str×Value)→Sem (ForInStep (List (Str×Value)))}{s:List (Str×Value)} : ∀(l:List α),(∀a∈l,f a s=pure (.yield s))→forIn l s f=pure s
 | [],_=>rfl
 | a::r,h=>by
  rw[Q9,h a (.head _),pure_bind];exact tP r fun b hb=>h b (.tail _ hb)
theorem FM{α β:Type}{x:Sem α}{a:α}{f:α→Sem β}(h:x=pure a):x >>= f=f a:=by rw[h];rfl
theorem uk{α:Type}{b:Bool}{x y z:α}(h:b=false)(q:y=z):(if b=true then x else y)=z:=by rw[h];exact q
theorem pF{ds}{fd:FuncData}{ps:List Arg}{vs:List Value}(hp:fd.params=⟨[],ps,none,[],[],none,ds⟩)(hl:ps.length=vs.length)(hn:(ps.map (·.arg)).Nodup) :
  ∃k,bindArgs fd ⟨vs,[]⟩=seqItems? fd.defaults >>= k∧∀o,k o=pure ((ps.map (·.arg)).zip vs):=by
 have hl':(ps.map (·.arg)).length=vs.length:=by rw[Nq,hl]
 induction fd with | mk a1 a2 a3 a4 a5 a6 a7 a8 a9 a10
 subst hp;refine ⟨_,rfl,fun o=>uk ((Nw (· && true) (Ny (Nat.not_lt.mpr (NL hl'.symm)))).trans rfl) (uk ((Nw (fun l:List Str=>!l.isEmpty) (List.filter_eq_nil_iff.mpr fun n h=>?_)).trans rfl) ?_)⟩
 ·rw[fx hl' (List.mem_of_mem_take h)];exact Nt
 ·refine (FM (tP _ fun a h=>?_)).trans (Nw (pure (f:=Sem)) (R0 (Nw (fun l=>List.filterMap _ l) (Nr _)) (pU hl' hn)))
  induction a with | mk n d=>exact uk (fx hl' (Rx (List.of_mem_zip h).1)) rfl
noncomputable def aX(i:Nat):DC:=xy 100 nE (wJ i) (D i).sc (D i).body
noncomputable def gO(a:P5):Bool:=a.posonlyargs.isEmpty&&a.vararg.isNone&&a.kwonlyargs.isEmpty&&a.kw_defaults.isEmpty&&a.kwarg.isNone
noncomputable def uN(i:Nat):Bool:=ou.any fun p=>O8 p.1 i
noncomputable def uR(i n:Nat):Bool:=uN i&&f7 (D i).sc (wJ i)&&gO (D i).args&&O8 (wJ i).length n
theorem tF{a:P5}(h:gO a=true):a=⟨[],a.args,none,[],[],none,a.defaults⟩:=by
 unfold gO at h;simp only [NY,OO,Pj]at h;obtain ⟨⟨⟨⟨h1,h3⟩,h4⟩,h5⟩,h6⟩:=h
 induction a using PySem.Arguments.casesOn
 simp_all
theorem ta{K:Frag}{a:Addr}{xs:List V}(h:kC K a=some xs):∃o ys n,K.lookup a=some o∧o.data=.seq ys n∧ys.toList.map er=xs:=by
 unfold kC at h;refine ay (o:=K.lookup a) (fun e=>?_) fun o e=>?_
 ·rw[e]at h;exact ac h
 rw[e]at h;rcases o with ⟨cl,di,da,sl⟩
 induction da using Data.casesOn with
 | seq ys n=>exact ⟨_,ys,n,rfl,rfl,Option.some.inj h⟩
 | _=>exact ac h
theorem uM{i:Nat}(h:uN i=true):∃p∈ou,p.1=i:=by
 refine Nz (List.any_eq_true.mp h) fun p zz=>NO (fun hp e=>?_) (zz);exact ⟨p,hp,OG e⟩
noncomputable def yT(p:Nat×Addr×Addr):Bool:=O8 (A p.1) p.2.1&&(match GP p.1 with | .ref b=>O8 b p.2.2 | _=>false)
theorem A5:ou.all yT=true:=by ac_rfl
section
variable{c:Cx}{d:Nat}{E:XP}{H:AH}
theorem A9.at_(P:PF c){i:Nat}(h:uN i=true):oB c (A i) (D i).qual (D i).args (D i).body (D i).sc (AJ i) (GP i):=by
 obtain ⟨p,hp,rfl⟩:=uM h;have e3:=List.all_eq_true.mp A5 p hp;unfold yT at e3;have e3:=aa e3;rw[(OG e3.1),(show GP p.1=.ref p.2.2 from Nw Value.ref (OG e3.2))];exact ⟨⟨_,_,_,_,_,_,_,_,_,(mD P.fn hp)⟩,(List.all_eq_true.mp P.cd p hp)⟩
theorem tw:No "Refusal"≠No "__name__":=fun q=>NG ((Fast.sEq_iff.mpr q).symm.trans (by ac_rfl:Fast.sEq (No "Refusal") (No "__name__")=false))
noncomputable def A9.rf(P:PF c):RF c where
 C:=44
 C2:=24
 fI:=41
 cls:=⟨_,_,_,_,_,_,_,_,_,_,_,_,_,_,P.ex⟩
 keep:=P.rk
 init:=P.ri
 fn:=P.rt
 noMsg:=P.rm
 setA:=P.rs
 getA:=P.rg
 bex:=P.rx
 getB:=P.rb
 obj:=P.ro
 has:=(ux P.rn tw).1
 gl:=(ux P.rn tw).2
 ns:=P.rn
noncomputable def A9.ri'(P:PF c):RI c P.rf where
 qual:=(D 1020).qual
 params:=(D 1020).args
 scope:=(D 1020).sc
 cdv:=.ref 40
 p1:=⟨7,8,7,12⟩
 p2:=⟨7,8,7,20⟩
 p3:=⟨7,23,7,30⟩
 p4:=⟨7,8,7,30⟩
 df:=P.at_ (i:=1020) rfl
 kind:=rfl
 coro:=rfl
 gen:=rfl
 noCell:=by decide
 self:=by decide +kernel
 msg:=by decide +kernel
 bind:=fun ζ ζ ζ ζ ζ ζ ζ ζ=>rfl
theorem A9.cN(P:PF c)(i:Nat){n:Nat}{C:DC}{argv:List V}{Q:Q1}(h1:uR i n=true)(h2:aX i=C)(hl:argv.length=n)(h:rL c Gv none d C argv H Q E):dy c (d+1) (.ref (A i)) argv H Q E:=by
 subst h2;unfold uR at h1;simp only [NY]at h1;obtain ⟨⟨⟨k1,k2⟩,k3⟩,k4⟩:=h1;have k4:=OG k4;refine kW P.ri' (lm:=none) (extra:=[]) (P.at_ k1) k2 (by rw[Nr,hl,k4]) (fun vs hvs=>⟨[],rfl,fun s oc od osl name kV doc pm an ct ζ hX=>?_⟩) P.gok (fun ζ hl=>by exact ac hl) (by rw[Nr];exact h);rw[Nr];have hvl:(D i).args.args.length=vs.length:=by
  rw[← Nq (f:=er) (as:=vs),hvs,hl,← k4];exact (Nq _).symm
 obtain ⟨k,e1,e2⟩:=pF (fd:=fnOf name (D i).qual (D i).args (D i).body (D i).sc (AJ i) kV doc pm an (GP i) ct) (tF k3) hvl ((hY k2).2.2.2.1);have hdf:AJ i=.none∨∃T xs,AJ i=.ref T∧kC c.K T=some xs:=by
  unfold AJ;cases O8 i 50 with
  | true=>exact .inr ⟨_,_,rfl,P.d50⟩
  | false=>cases O8 i 90 with
   | true=>exact .inr ⟨_,_,rfl,P.d90⟩
   | false=>cases O8 i 1070 with
    | true=>exact .inr ⟨_,_,rfl,P.d7⟩
    | false=>exact .inl rfl
 rcases hdf with hdf | ⟨T,xs,hdf,hs⟩
 ·refine Um (e1.trans ?_);show seqItems? (AJ i) >>= k=_;rw[hdf];exact e2 none
 ·obtain ⟨o,ys,m,f1,f2,_⟩:=ta hs;exact Tc hdf (hX _ _ f1) f2 e1 (e2 _)
end
end
section
theorem Bk(a b:String):(No a=No b)=(a=b):=by
 apply propext;constructor
 ·intro h;rw[Te,Te]at h;have h2:a.toList.map SO=b.toList.map SO:=by
   have:=Nw Str.cps h;simpa using this
  have h3:a.toList=b.toList:=by
   refine List.map_inj_right ?_ |>.mp h2;intro x y e;exact Char.ext (UInt32.toNat.inj e)
  exact String.ext (by simpa using h3)
 ·intro h;rw[h]
structure Le(S:List Addr)(H H':AH):Prop where
 at_:∀b o,b ∉ S→H b=some o→H' b=some o
 dom:∀b,H' b=none→H b=none
section
variable{S S':List Addr}{H H' H'':AH}{a b n:Addr}{o o':O}
theorem Le.refl:Le S H H:=⟨fun ζ ζ ζ e=>e,fun ζ e=>e⟩
theorem Le.trans(x:Le S H H')(y:Le S H' H''):Le S H H'':=⟨fun b o h e=>y.at_ b o h (x.at_ b o h e),fun b e=>x.dom b (y.dom b e)⟩
theorem Le.mono(x:Le S H H')(k:∀b∈S,b∈S'):Le S' H H':=⟨fun b o h e=>x.at_ b o (fun q=>h (k b q)) e,x.dom⟩
theorem Le.nil(x:Le [] H H'):Le S H H':=x.mono fun ζ q=>by cases q
theorem Le.k(x:Le [] H H')(e:H b=some o):H' b=some o:=x.at_ b o Oo e
theorem Le.k1(x:Le [a] H H')(n:b≠a)(e:H b=some o):H' b=some o:=x.at_ b o (fun q=>n (List.mem_singleton.mp q)) e
theorem oH:∀b,upd H a o b=none→H b=none:=fun b e=>by
 by_cases q:b=a
 ·subst q;rw[aj]at e;exact ac e.symm
 ·rwa [am q]at e
theorem Le.new(e:H n=none):Le S H (upd H n o):=⟨fun b o' ζ q=>by
 rw[am fun w=>by rw[w,e]at q;exact ac q];exact q,oH⟩
theorem Le.upd(e:a∈S):Le S H (upd H a o):=⟨fun b o' h q=>by
 rw[am fun w=>h (by rw[w];exact e)];exact q,oH⟩
theorem Le.updF(l:Le S H H')(hn:H n=none):Le S H (Mine.Internal.upd H' n o):=⟨fun b o' h e=>by
 rw[am fun w=>by rw[w,hn]at e;exact ac e];exact l.at_ b o' h e,fun b e=>l.dom b (oH b e)⟩
theorem Le.drop(x:Le (a::S) H H')(e:H a=none):Le S H H':=⟨fun b o h q=>x.at_ b o (fun w=>by
 rcases List.mem_cons.mp w with rfl | w
 ·rw[e]at q;exact ac q
 ·exact h w) q,x.dom⟩
theorem ym(e:H a=some o)(e':H b=none):a≠b:=fun q=>by rw[q,e']at e;exact ac e
theorem vG(o o':O):upd (upd H a o) a o'=upd H a o':=by
 funext z;unfold upd;split<;>rfl
theorem sH{o:O}(h:H a=some o):upd H a o=H:=by
 funext z;unfold upd;split
 ·rename_i q;rw[q,h]
 ·rfl
end
section
variable{c:Cx}{d:Nat}{H:AH}{Q:Q1}{E:XP}{k:Bool→Prop}{kv:V→Prop}{a b:Addr}{xs ys:List V}{v:V}
end
end
local macro_rules | `(tactic| walk_at "n") => do
  let f (s : String) := (s.splitOn " ").toArray.map fun x => Lean.mkIdent x.toName; let l0 := f "defR_eq runP_0 runP_1 argO_s argO_n ini_0 ini_1 nth_0 nth_s"; let l1 := f "DH Dq DR DL Ds DK DA DN DE DS DM DT Dx Dw DU Dl Dm Dz Dk DI DQ Dy DD DV Ib DB DJ Dt Du Dp Dn Di Dv Dh DG DF Dj EO Ah Aj Ai wR Ax Aw zw zv vL vK vJ yO yP Gv wG tp iZ vf vd rT JC xx JA JB JE JF FI FF FG FD AU AR AS AQ FH FE JD xw FS FR Gb Ga Es zZ z0 zY Jz Jy Jr Jq AO AN zI zH zG"
  `(tactic| (refine (?f : (?A = ?N) → ?N → ?A) ?e ?h; (case e => ((try dsimp only [$[$l0:ident],*]); (repeat (show (ao _ _ _ _ _ _ _ _ _ = _); dsimp only [$[$l1:ident],*])); exact rfl)); (case f => exact fun _ h => h)))
section
open jZ yX ir jR Bb A7 vy iq Ba
noncomputable def kx(k:Str)(l:Addr)(av:V)(b:Bool):List (Str×V):=[(No "kind",.str k),(No "items",.ref l),(No "attrs",av),(No "shared",.oth),(No "loose",.bool b)]
noncomputable def yl(k:Str):List (Str×V):=[(No "kind",.str k),(No "attrs",.none)]
section
variable{c:Cx}{d:Nat}{E:XP}{H:AH}{a l:Addr}{k:Str}{av:V}{b:Bool}{Q:V→Prop}{Q2:AH→Prop}(P:PF c)
theorem Cu{C:Addr}{fs fs':List (Str×V)}{x:Str}{v:V}(h:H a=some (.inst C fs))(hf:c.fld C x=true)(hl:fs.length≤100)(e:dG fs x (if bO x then .oth else v)=fs')(q:Q2 (upd H a (.inst C fs'))):setA c (.ref a) x v H Q2:=.setA_of h hf hl (by rw[e];exact q)
theorem lH{C:Addr}{fs fs':List (Str×V)}{x:Str}{v:V}(hf:c.fld C x=true)(hl:fs.length≤100)(e:dG fs x (if bO x then .oth else v)=fs')(q:Q2 (upd H a (.inst C fs'))):setA c (.ref a) x v (upd H a (.inst C fs)) Q2:=
 Cu (aj _ _ _) hf hl e (by rw[vG];exact q)
include P
theorem fl{C:Addr}{i:Addr}(hC:(C,i)∈j9){x:String}(hx:x∈["kind","items","attrs","shared","loose"]):c.fld C (No x)=true:=List.all_eq_true.mp (List.all_eq_true.mp P.fld _ hC) x hx
theorem mH{x:String}(hx:x∈["kind","items","attrs","shared","loose"]):c.fld CV (No x)=true:=fl P (.tail _ (.tail _ (.head _))) hx
theorem zK{C:Addr}{i:Addr}(hC:(C,i)∈j9):c.isOk C CV=true∧c.isOkT C "str" = true:=by
 have:=List.all_eq_true.mp P.isV _ hC
 rwa [NY]at this
theorem xu{C i:Addr}(h:(C,i)∈j9):vA c C i:=by
 have e2:=List.all_eq_true.mp P.ck _ h;rw[NY]at e2;exact ⟨e2.1,e2.2,mD P.ci h,mD P.ct h⟩
end
theorem Cg:aX 1070=⟨[some 0,some 1,some 2,some 3],[],[],.loc 1<|.loc 0<|.sat "kind"<|.loc 2<|.loc 0<|.sat "items"<|.loc 3<|.loc 0<|.sat "attrs"<|.cst (.bool false)<|.loc 0<|.sat "shared"<|.cst (.bool false)<|.loc 0<|.sat "loose"<|.fin⟩:=by ac_rfl
theorem Cj:aX 1050=⟨[some 0],[],[],.cst (.str "NULL")<|.loc 0<|.sat "kind"<|.cst .none<|.loc 0<|.sat "attrs"<|.fin⟩:=by ac_rfl
theorem Ci:aX 1060=⟨[some 0],[],[],.cst (.str "missing")<|.loc 0<|.sat "kind"<|.cst .none<|.loc 0<|.sat "attrs"<|.fin⟩:=by ac_rfl
section
variable{c:Cx}{d:Nat}{E:XP}{H:AH}(P:PF c){k:Str}{l:Addr}{Q:Q1}
include P
theorem yy{av:V}{n:Addr}{R:Q1}(q:R .none (upd H n (.inst CV (kx k l av false)))):rL c Gv none d (aX 1070) [.ref n,.str k,.ref l,av] (upd H n (.inst CV [])) R E:=by
 rw[Cg];have f:=fun {x} hx=>mH (c:=c) P (x:=x) hx
 walk_at "n"
 refine lH (fs':=(kx k l av false).take 1) (f (by decide)) (by decide) (by ac_rfl) ?_
 walk_at "n"
 refine lH (fs':=(kx k l av false).take 2) (f (by decide)) (NJ rfl) (by ac_rfl) ?_
 walk_at "n"
 refine lH (fs':=(kx k l av false).take 3) (f (by decide)) (NJ rfl) (by ac_rfl) ?_
 walk_at "n"
 refine lH (fs':=(kx k l av false).take 4) (f (by decide)) (NJ rfl) (by ac_rfl) ?_
 walk_at "n"
 refine lH (fs':=kx k l av false) (f (by decide)) (NJ rfl) (by ac_rfl) ?_
 walk_at "n"
 exact q
theorem Ej{av:V}(q:∀n H',H n=none→Le [] H H'→H' n=some (.inst CV (kx k l av false))→H'=upd H n (.inst CV (kx k l av false))→Q (.ref n) H'):dy c (d+2) (.ref CV) [.str k,.ref l,av] H Q E:=
 dv (xu P (.tail _ (.tail _ (.head _)))) fun n hn=>P.cN 1070 (n:=4) (by ac_rfl) rfl rfl (yy P ⟨rfl,q n _ hn (Le.new hn) (aj _ _ _) rfl⟩)
theorem Ek(q:∀n H',H n=none→Le [] H H'→H' n=some (.inst CV (kx k l .none false))→H'=upd H n (.inst CV (kx k l .none false))→Q (.ref n) H'):dy c (d+2) (.ref CV) [.str k,.ref l] H Q E:=by
 refine dv (xu P (.tail _ (.tail _ (.head _)))) fun n hn=>?_;refine kW P.ri' (lm:=none) (extra:=[.none]) (P.at_ (i:=1070) rfl) (by ac_rfl) rfl (fun vs hvs=>⟨[.none],rfl,fun s oc od osl name kV doc pm an ct ζ hX=>?_⟩) P.gok (fun ζ hl=>by exact ac hl) (yy P ⟨rfl,q n _ hn (Le.new hn) (aj _ _ _) rfl⟩);obtain ⟨o,ys,m,f1,f2,f3⟩:=ta P.d7;obtain ⟨a,b,e,rfl,_,_,_⟩:=kF hvs;obtain ⟨u,e1,e2⟩:=gu f3;rw[gD e2]at e1;obtain rfl:ys=#[.none]:=Array.toList_inj.mp e1;exact Tc rfl (hX _ _ f1) f2 rfl rfl
theorem Iu(q:∀n H',H n=none→Le [] H H'→H' n=some (.inst CN (yl (No "NULL")))→H'=upd H n (.inst CN (yl (No "NULL")))→Q (.ref n) H'):dy c (d+2) (.ref CN) [] H Q E:=by
 refine dv (xu P (.head _)) fun n hn=>P.cN 1050 (n:=1) (by ac_rfl) Cj rfl ?_;have f:=fun {x} hx=>fl (c:=c) P (.head _) (x:=x) hx
 walk_at "n"
 refine lH (fs':=(yl (No "NULL")).take 1) (f (by decide)) (by decide) (by ac_rfl) ?_
 walk_at "n"
 refine lH (fs':=yl (No "NULL")) (f (by decide)) (by decide) (by ac_rfl) ?_
 walk_at "n"
 exact ⟨rfl,q n _ hn (Le.new hn) (aj _ _ _) rfl⟩
theorem Iv(q:∀n H',H n=none→Le [] H H'→H' n=some (.inst CM (yl (No "missing")))→H'=upd H n (.inst CM (yl (No "missing")))→Q (.ref n) H'):dy c (d+2) (.ref CM) [] H Q E:=by
 refine dv (xu P (.tail _ (.head _))) fun n hn=>P.cN 1060 (n:=1) (by ac_rfl) Ci rfl ?_;have f:=fun {x} hx=>fl (c:=c) P (.tail _ (.head _)) (x:=x) hx
 walk_at "n"
 refine lH (fs':=(yl (No "missing")).take 1) (f (by decide)) (by decide) (by ac_rfl) ?_
 walk_at "n"
 refine lH (fs':=yl (No "missing")) (f (by decide)) (by decide) (by ac_rfl) ?_
 walk_at "n"
 exact ⟨rfl,q n _ hn (Le.new hn) (aj _ _ _) rfl⟩
end
end
section
noncomputable def lf:V→Bool
 | .ref _=>false
 | .bi _=>false
 | .ty _=>false
 | _=>true
noncomputable def O.isC:O→Bool
 | .cell _=>true
 | _=>false
noncomputable def T.ctorIdx(t:T):Nat:=T.casesOn (motive_1:=fun ζ=>Nat) t (fun ζ=>0) (fun ζ=>1) (fun ζ=>2) (fun ζ=>3) fun ζ ζ=>4
inductive dR(R:V→T→Prop):List (Str×V)→List (Str×T)→Prop
 | nil:dR R [] []
 | cons{k v t es ts}(h:R v t)(r:dR R es ts):dR R ((k,v)::es) ((k,t)::ts)
inductive jV(R:V→T→Prop):List (Int×V)→List (Int×T)→Prop
 | nil:jV R [] []
 | cons{k v t es ts}(h:R v t)(r:jV R es ts):jV R ((k,v)::es) ((k,t)::ts)
inductive Rt(Z:AH):V→T→Prop
 | leaf{v}(h:lf v=true):Rt Z v (.leaf v)
 | list{a xs ts}(h:Z a=some (.list xs))(l:xs.length≤100000)(f:F2 (Rt Z) xs ts):Rt Z (.ref a) (.list ts)
 | tup{a xs ts}(h:Z a=some (.tup xs))(l:xs.length≤100000)(f:F2 (Rt Z) xs ts):Rt Z (.ref a) (.tup ts)
 | dict{a es ep ts}(h:Z a=some (.sdict es ep))(l:es.length≤100000)(f:dR (Rt Z) es ts):Rt Z (.ref a) (.dict ts)
 | inst{a C fs ts}(h:Z a=some (.inst C fs))(f:dR (Rt Z) fs ts):Rt Z (.ref a) (.inst C ts)
inductive UV where
 | t(t:T) | w (j:Nat) | v (v:V) | k (o:O)
inductive WO where
 | l(ts:List T) | d (es:List (Str×T)) | i (es:List (Int×T)) | v (k:Str) (it at_:UV) (lo:Bool) | z (t:T) | p (q:Str)
abbrev UL:=List (Option UV)
abbrev UW:=List WO
structure Wd where
 z:AH
 h:AH
 A:List Addr
structure Gm where
 o:Wd
 cl:List (Str×Addr)
 lm:Option kw
def yc(lo hi:Int):Prop:=-100000≤lo∧lo≤100000∧hi≤100000∧-100000≤hi∧(hi-lo).toNat≤100000
noncomputable def ME:O→Prop
 | .rng lo hi=>yc lo hi
 | _=>True
inductive VW(w:Wd)(j:Nat):V→Prop
 | mk{a}(h:w.A[j]? = some a):VW w j (.ref a)
inductive VN(f:V):V→Prop
 | mk(h:lf f=false):VN f f
inductive VK(w:Wd)(o:O):V→Prop
 | mk{a}(h:w.z a=some o)(q:ME o):VK w o (.ref a)
noncomputable def VR(w:Wd)(v:V):UV→Prop
 | .t t=>Rt w.z v t
 | .w j=>VW w j v
 | .v f=>VN f v
 | .k o=>VK w o v
noncomputable def OR(w:Wd):Option V→Option UV→Prop
 | none,none=>True
 | some v,some x=>VR w v x
 | _,_=>False
inductive M9(w:Wd)(a:Addr)(ts:List T):Prop
 | mk(xs:List V)(n:w.z a=none)(h:w.h a=some (.list xs))(l:xs.length≤100000)(f:F2 (Rt w.z) xs ts)
inductive Na(w:Wd)(a:Addr)(ts:List (Str×T)):Prop
 | mk(es:List (Str×V))(ep:Nat)(n:w.z a=none)(h:w.h a=some (.sdict es ep))(l:es.length≤100000)(f:dR (Rt w.z) es ts)
inductive GT(w:Wd)(a:Addr)(ts:List (Int×T)):Prop
 | mk(es:List (Int×V))(n:w.z a=none)(h:w.h a=some (.idict es))(l:es.length≤100000)(f:jV (Rt w.z) es ts)
theorem GT.el{w:Wd}{a:Addr}{ts:List (Int×T)}{P_:Prop}(h_:GT w a ts)(k_:∀(es:List (Int×V)) (n:w.z a=none) (h:w.h a=some (.idict es)) (l:es.length≤100000) (f:jV (Rt w.z) es ts),P_):P_:=GT.rec (motive:=fun ζ=>P_) k_ h_
inductive GS(w:Wd)(a:Addr)(k:Str)(it at_:UV)(lo:Bool):Prop
 | mk(l:Addr)(va:V)(n:w.z a=none)(h:w.h a=some (.inst CV (kx k l va lo)))(hi:VR w (.ref l) it)(ha:VR w va at_)
theorem GS.el{w:Wd}{a:Addr}{k:Str}{it at_:UV}{lo:Bool}{P_:Prop}(h_:GS w a k it at_ lo)(k_:∀(l:Addr) (va:V) (n:w.z a=none) (h:w.h a=some (.inst CV (kx k l va lo))) (hi:VR w (.ref l) it) (ha:VR w va at_),P_):P_:=GS.rec (motive:=fun ζ=>P_) k_ h_
inductive M8(w:Wd)(a:Addr)(q:Str):Prop
 | mk(ps:Array Value)(n:w.z a=none)(h:w.h a=some (.tab ps))(t:S5 ps.toList)(f:∀p v,PT p ps.toList=some v→∃cd,v=.ref cd∧w.z cd=some (.code q))
noncomputable def WR(w:Wd)(a:Addr):WO→Prop
 | .p q=>M8 w a q
 | .l ts=>M9 w a ts
 | .d ts=>Na w a ts
 | .i ts=>GT w a ts
 | .v k it at_ lo=>GS w a k it at_ lo
 | .z t=>Rt w.z (.ref a) t
noncomputable def af:UW→Nat→Option WO
 | [],_=>none
 | v::_,0=>some v
 | _::r,n+1=>af r n
noncomputable def ar:UW→Nat→WO→UW
 | [],_,_=>[]
 | _::r,0,o=>o::r
 | u::r,n+1,o=>u::ar r n o
noncomputable def gB:UL→Nat→Option UV
 | [],_=>none
 | v::_,0=>v
 | _::r,n+1=>gB r n
noncomputable def eD:UL→Nat→UV→UL
 | [],0,v=>[some v]
 | [],n+1,v=>none::eD [] n v
 | _::r,0,v=>some v::r
 | u::r,n+1,v=>u::eD r n v
structure Ex(w w':Wd):Prop where
 z:∀a o,w.z a=some o→w'.z a=some o
 p:∀(j:Nat) (a:Addr),w.A[j]? = some a→w'.A[j]? = some a
structure Cr(w:Wd)(W:UW):Prop where
 zs:∀a o,w.z a=some o→w.h a=some o∧o.isC=false
 nd:w.A.Nodup
 ln:w.A.length=W.length
 ow:∀(j:Nat) (a:Addr) o,w.A[j]? = some a→af W j=some o→WR w a o
structure aV(Γ:Gm)(w:Wd)(C:UL)(W:UW):Prop extends Cr w W where
 ex:Ex Γ.o w
 le:Le Γ.o.A Γ.o.h w.h
 fr:∀a∈w.A,Γ.o.h a=none∨a∈Γ.o.A
 zz:∀a o,w.z a=some o→Γ.o.z a=some o∨Γ.o.h a=none∨a∈Γ.o.A
 cs:∀i a,ev Γ.cl i=some a→Γ.o.h a=none∧∃o,w.h a=some (.cell o)∧OR w o (gB C i)
 cd:∀i j a,ev Γ.cl i=some a→ev Γ.cl j=some a→i=j
 cn:C.length=Γ.cl.length
inductive Rq where
 | r(v:UV)(W:UW) | e (m:Str) (W:UW)
noncomputable def Rq.ctorIdx(x:Rq):Nat:=x.casesOn (fun ζ ζ=>0) fun ζ ζ=>1
def de(c:Cx)(d:Nat)(a:Addr)(vs:List UV)(W:UW)(q:Rq→Prop):Prop:=∀(w:Wd) us,Cr w W→F2 (VR w) us vs→∀(Q:Q1) (E:XP),
 (∀v W' u w',q (.r v W')→aV ⟨w,[],none⟩ w' [] W'→Ex w w'→VR w' u v→Q u w'.h)→(∀m W' w',q (.e m W')→aV ⟨w,[],none⟩ w' [] W'→Ex w w'→E (.str m) w'.h)→dy c d (.ref a) us w.h Q E
def ag(c:Cx)(d:Nat)(a:Addr)(vs:List UV)(W:UW)(q:Rq):Prop:=de c d a vs W (Eq q)
noncomputable def mY:WO→Option T
 | .l ts=>some (.list ts)
 | .d es=>some (.dict es)
 | .z t=>some t
 | _=>none
noncomputable def pk(W:UW):UV→Option T
 | .t t=>some t
 | .w j=>(af W j).bind mY
 | _=>none
noncomputable def eK(W:UW):UV→Option (T×UW)
 | .t t=>some (t,W)
 | .w j=>(af W j).bind fun o=>(mY o).bind fun t=>some (t,ar W j (.z t))
 | _=>none
noncomputable def vT(k:Str)(it at_:T)(lo:Bool):T:=.inst CV [(No "kind",.leaf (.str k)),(No "items",it),(No "attrs",at_),(No "shared",.leaf .oth),(No "loose",.leaf (.bool lo))]
noncomputable def jB(W:UW)(j:Nat)(k:Str)(it at_:UV)(lo:Bool):Option (T×UW):=(eK W it).bind fun p=>(eK p.2 at_).bind fun q=>some (vT k p.1 q.1 lo,ar q.2 j (.z (vT k p.1 q.1 lo)))
noncomputable def frz(W:UW)(v:UV):Option (T×UW):=match v with
 | .w j=>(match af W j with
  | some (.v k it at_ lo)=>jB W j k it at_ lo
  | _=>eK W v)
 | v=>eK W v
noncomputable def et:List UV→UW→Option (List T×UW)
 | [],W=>some ([],W)
 | v::r,W=>(frz W v).bind fun p=>(et r p.2).bind fun q=>some (p.1::q.1,q.2)
noncomputable def bV:List Nat→Nat→Option Nat
 | [],_=>none
 | i::r,j=>bif O8 i j then some 0 else (bV r j).map (· + 1)
noncomputable def qd(js:List Nat):UV→Option UV
 | .w j=>(bV js j).map .w
 | x=>some x
noncomputable def yd(js:List Nat):WO→Option WO
 | .v k it at_ lo=>(qd js it).bind fun x=>(qd js at_).bind fun y=>some (.v k x y lo)
 | o=>some o
noncomputable def bX(js:List Nat):List Nat→UW→Option UW
 | [],_=>some []
 | j::r,W=>(af W j).bind fun o=>(yd js o).bind fun o=>(bX js r W).bind fun W'=>some (o::W')
noncomputable def aS(js:List Nat):List UV→UW→Option (List UV×UW)
 | [],W=>some ([],W)
 | v::r,W=>match qd js v with
  | some x=>(aS js r W).bind fun q=>some (x::q.1,q.2)
  | none=>(frz W v).bind fun p=>(aS js r p.2).bind fun q=>some (.t p.1::q.1,q.2)
noncomputable def sy:List Nat→Nat→Nat→Nat
 | [],m,i=>m+i
 | j::_,_,0=>j
 | _::r,m,i+1=>sy r m i
noncomputable def su(js:List Nat)(m:Nat):UV→UV
 | .w i=>.w (sy js m i)
 | x=>x
noncomputable def rX(js:List Nat)(m:Nat):WO→WO
 | .v k it at_ lo=>.v k (su js m it) (su js m at_) lo
 | o=>o
noncomputable def wU(js:List Nat)(m:Nat):UW→UW
 | []=>[]
 | o::r=>rX js m o::wU js m r
noncomputable def gm(js:List Nat)(m:Nat):List Nat→UW→UW→UW
 | [],W,W'=>W++wU js m W'
 | _::_,W,[]=>W
 | j::r,W,o::W'=>gm js m r (ar W j (rX js m o)) W'
noncomputable def nk:List Nat→Bool
 | []=>true
 | j::r=>(bV r j).isNone&&nk r
noncomputable def bW:UV→V
 | .t (.leaf v)=>v
 | _=>.oth
def sW(v:UV)(k:Str→Prop):Prop:=iA (bW v) k
def nY(v:UV)(k:Bool→Prop):Prop:=eh (bW v) k
abbrev tv(v:V):UV:=.t (.leaf v)
abbrev ti(i:Int):UV:=.t (.leaf (.int i))
abbrev tS(s:Str):UV:=.t (.leaf (.str s))
abbrev tb(b:Bool):UV:=.t (.leaf (.bool b))
abbrev KU:=UV→UW→Prop
def cy(o:WO)(W:UW)(k:KU):Prop:=k (.w W.length) (W++[o])
noncomputable def H0:AH:=fun ζ=>none
inductive jW(W:UW)(k:KU):Ph→UV→UV→Prop
 | addS{s r}(l:s.length+r.length≤100000)(q:k (tS (s++r)) W):jW W k .Add (tS s) (tS r)
 | mulS{s n}(h1:s.length=1)(h2:0≤n)(h3:n≤1000)(q:k (tS (Txt.mul s n)) W):jW W k .Mult (tS s) (ti n)
 | addL{a b xs ys}(h:pk W a=some (.list xs))(h':pk W b=some (.list ys))(l:xs.length+ys.length≤100000)(q:cy (.l (xs++ys)) W k):jW W k .Add a b
 | mulL{a xs n}(h:pk W a=some (.list xs))(h1:xs.length=1)(h2:n≤100000)(h3 : -100000≤n)(q:cy (.l (NM n.toNat xs).flatten) W k):jW W k .Mult a (ti n)
def n7(op:Ph)(a b:UV)(W:UW)(k:KU):Prop:=match fk (bW a) with
 | some i=>(match fk (bW b) with | some j=>F5 op i j H0 fun v ζ=>k (tv v) W | none=>jW W k op a b)
 | none=>jW W k op a b
noncomputable def b5:Nat→T→Bool
 | _,.leaf v=>aF v
 | n+1,.list ts=>ts.all (b5 n)
 | n+1,.tup ts=>ts.all (b5 n)
 | n+1,.dict es=>es.all fun p=>b5 n p.2
 | _,_=>false
inductive pQ(W:UW)(k:Bool→Prop):UV→UV→Prop
 | ts{a xs s}(h:pk W a=some (.tup xs))(q:k false):pQ W k a (tS s)
 | nil{a b xs ys}(h:pk W a=some (.list xs))(h':pk W b=some (.list ys))(e:xs=[]∨ys=[])(q:k (xs.isEmpty&&ys.isEmpty)):pQ W k a b
 | same{a b t}(h:pk W a=some t)(h':pk W b=some t)(s:t.isSeq=true)(r:b5 8 t=true)(q:k true):pQ W k a b
def GO(a b:UV)(W:UW)(k:Bool→Prop):Prop:=bif aF (bW a)&&aF (bW b) then k (Fi (bW a) (bW b)) else pQ W k a b
inductive mF(W:UW)(k:Bool→Prop):UV→UV→Prop
 | in_lst{b v}{ys:List V}(h:pk W b=some (.list (ys.map .leaf)))(f:aF v=true)(g:ys.all aF=true)(q:k (ys.contains v)):mF W k (tv v) b
 | in_tup{b v}{ys:List V}(h:pk W b=some (.tup (ys.map .leaf)))(f:aF v=true)(g:ys.all aF=true)(q:k (ys.contains v)):mF W k (tv v) b
 | in_sd{b es s}(h:pk W b=some (.dict es))(q:k (es.any fun p=>decide (p.1=s))):mF W k (tS s) b
 | in_id{j es i}(h:af W j=some (.i es))(q:k (es.any fun p=>decide (p.1=i))):mF W k (ti i) (.w j)
def cF(op:CmpOp)(a b:UV)(W:UW)(k:Bool→Prop):Prop:=match op with
 | .Is=>eF (bW b) (k (decide (bW a=.none)))
 | .IsNot=>eF (bW b) (k (!decide (bW a=.none)))
 | .Lt=>dM (bW a) (bW b) fun i j=>k (decide (i<j))
 | .LtE=>dM (bW a) (bW b) fun i j=>k (decide (i≤j))
 | .Gt=>dM (bW a) (bW b) fun i j=>k (decide (j<i))
 | .GtE=>dM (bW a) (bW b) fun i j=>k (decide (j≤i))
 | .Eq=>GO a b W k
 | .NotEq=>GO a b W fun r=>k (!r)
 | .In=>mF W k a b
 | .NotIn=>mF W (fun r=>k (!r)) a b
noncomputable def Bv(k:Str)(it at_:UV)(lo:Bool)(x:Str):Option UV:=OB x [(No "kind",tS k),(No "items",it),(No "attrs",at_),(No "loose",tb lo)]
noncomputable def UV.isV:UV→Bool
 | .v _=>true
 | _=>false
inductive ew(c:Cx)(x:Str)(W:UW)(k:UV→Prop):UV→Prop
 | mk{a C fs t}(h:pk W a=some (.inst C fs))(f:c.fld C x=true)(g:bO x=false)(e:fs.lookup x=some t)(q:k (.t t)):ew c x W k a
 | own{j vk it at_ lo y}(h:af W j=some (.v vk it at_ lo))(f:c.fld CV x=true)(b:at_.isV=false)(e:Bv vk it at_ lo x=some y)(q:k y):ew c x W k (.w j)
noncomputable def T.isOth:T→Bool
 | .leaf .oth=>true
 | _=>false
noncomputable def HB(x:Str)(fs:List (Str×T)):Bool:=fs.any (fun p=>decide (p.1=x))&&fs.all (fun p=>!decide (p.1=x)||p.2.isOth)&&S2 fs.length 100
inductive sj(c:Cx)(W:UW)(k:UW→Prop):Str→UV→UV→Prop
 | at_{j vk it y lo x}(h:af W j=some (.v vk it y lo))(f:c.fld CV (No "attrs")=true)(q:k (ar W j (.v vk it x lo))):sj c W k (No "attrs") x (.w j)
 | lo{j vk it y lo b}(h:af W j=some (.v vk it y lo))(f:c.fld CV (No "loose")=true)(q:k (ar W j (.v vk it y b))):sj c W k (No "loose") (tb b) (.w j)
 | shT{a fs x}(h:pk W a=some (.inst CV fs))(f:c.fld CV (No "shared")=true)(b:HB (No "shared") fs=true)(q:k W):sj c W k (No "shared") x a
noncomputable def cq:List T→Nat→Option T
 | [],_=>none
 | t::_,0=>some t
 | _::r,n+1=>cq r n
noncomputable def zN(ts:List T)(k:T→Prop):V→Prop
 | .int (.ofNat n)=>au (cq ts n) k
 | _=>False
def wP(ts:List T)(k:T→Prop)(v:V):Prop:=bif decide (v=.int (-1)) then au (cq ts (ts.length-1)) k else zN ts k v
inductive jT(W:UW)(k:T→Prop):UV→UV→Prop
 | str{s n}(h0:0≤n)(h1:n<s.length)(l:s.length≤100000)(q:k (.leaf (.str (S4 s n)))):jT W k (tS s) (ti n)
 | dict{a es s t}(h:pk W a=some (.dict es))(e:es.lookup s=some t)(q:k t):jT W k a (tS s)
 | idict{j es n t}(h:af W j=some (.i es))(e:es.lookup n=some t)(q:k t):jT W k (.w j) (ti n)
def ed(a i:UV)(W:UW)(k:T→Prop):Prop:=match pk W a with
 | some (.tup ts)=>zN ts k (bW i)
 | some (.list ts)=>wP ts k (bW i)
 | _=>jT W k a i
inductive hO(c:Cx)(W:UW)(k:KU):UV→UV→UV→Prop
 | str{s l u lo hi}(h:s.length≤100000)(e:m4 l=some lo)(e':m4 u=some hi)(q:k (tS (Qb s lo hi)) W):hO c W k (tS s) (tv l) (tv u)
 | lst{a xs n}(h:pk W a=some (.list xs))(h0:0≤n)(q:cy (.l (xs.take n.toNat)) W k):hO c W k a (tv .none) (ti n)
 | arg{is:List Int}{n}(h:c.argXs.toList.map er=is.map .int)(l:is.length≤1000)(h0:0≤n)(q:cy (.l ((is.map fun i=>.leaf (.int i)).take n.toNat)) W k):hO c W k (.v (.ref c.argA)) (tv .none) (ti n)
inductive jS(c:Cx)(W:UW)(k:V→Prop):Str→UV→Prop
 | rjust{s}(q:k (.bi "str.rjust")):jS c W k (No "rjust") (tS s)
 | join{s}(q:k (.bi "str.join")):jS c W k (No "join") (tS s)
 | tup{a xs}(h:pk W a=some (.tup xs))(q:k (.bi "tuple.index")):jS c W k (No "index") a
 | dict{a es}(h:pk W a=some (.dict es))(q:k (.bi "dict.get")):jS c W k (No "get") a
 | inst{a C fs n f}(h:pk W a=some (.inst C fs))(e:fs.lookup n=none)(m:c.meth C n=some f)(q:k (.ref f)):jS c W k n a
def rz(c:Cx)(W:UW)(k:V→Prop)(n:Str)(a:UV):Prop:=match pk W a with
 | some (.list _)=>au (rB n) fun id=>k (.bi id)
 | _=>jS c W k n a
inductive bL(c:Cx)(W:UW)(k:KU):V→List UV→Prop
 | len{x xs}(h:pk W x=some (.list xs))(q:k (ti xs.length) W):bL c W k (.bi "len") [x]
 | lenI{j es}(h:af W j=some (.i es))(q:k (ti es.length) W):bL c W k (.bi "len") [.w j]
 | lenS{s}(l:s.length≤100000)(q:k (ti s.length) W):bL c W k (.bi "len") [tS s]
 | isC{x C D fs}(h:pk W x=some (.inst D fs))(o:c.isOk D C=true)(q:k (tb (decide (D=C))) W):bL c W k (.bi "isinstance") [x,.v (.ref C)]
 | isS{s}(q:k (tb true) W):bL c W k (.bi "isinstance") [tS s,.v (.ty "str")]
 | isI{x D fs}(h:pk W x=some (.inst D fs))(o:c.isOkT D "str" = true)(q:k (tb false) W):bL c W k (.bi "isinstance") [x,.v (.ty "str")]
 | isT{x xs}(h:pk W x=some (.tup xs))(q:k (tb false) W):bL c W k (.bi "isinstance") [x,.v (.ty "str")]
 | max2{i j}(q:k (ti (max i j)) W):bL c W k (.bi "max") [ti i,ti j]
 | max1{x}{is:List Int}(h:pk W x=some (.list (is.map fun i=>.leaf (.int i))))(h3:is≠[])(q:∀M,M∈is→(∀a∈is,a≤M)→k (ti M) W):bL c W k (.bi "max") [x]
 | abs{i:Int}(q:k (ti i.natAbs) W):bL c W k (.bi "abs") [ti i]
 | chr{i:Int}(h:0≤i)(h':i<1000)(q:k (tS ⟨#[i.toNat]⟩) W):bL c W k (.bi "chr") [ti i]
 | append{j x t W' xs}(e:frz W x=some (t,W'))(h:af W' j=some (.l xs))(l:xs.length<100000)(q:k (tv .none) (ar W' j (.l (xs++[t])))):bL c W k (.bi "list.append") [.w j,x]
 | extend{j x xs ys}(h:af W j=some (.l xs))(e:pk W x=some (.list ys))(n:x≠.w j)(l:xs.length+ys.length≤100000)(q:k (tv .none) (ar W j (.l (xs++ys)))):bL c W k (.bi "list.extend") [.w j,x]
 | reverse{j xs}(h:af W j=some (.l xs))(q:k (tv .none) (ar W j (.l xs.reverse))):bL c W k (.bi "list.reverse") [.w j]
 | pop{j t xs}(e:af W j=some (.l xs))(g:xs.getLast? = some t)(q:k (.t t) (ar W j (.l xs.dropLast))):bL c W k (.bi "list.pop") [.w j]
 | index{x v}{vs:List V}{i:Nat}(h:pk W x=some (.list (vs.map .leaf)))(f:aF v=true)(g:vs.all aF=true)(e:vs.findIdx? (fun y=>decide (y=v))=some i)(q:k (ti i) W):bL c W k (.bi "list.index") [x,tv v]
 | indexT{x v}{vs:List V}{i:Nat}(h:pk W x=some (.tup (vs.map .leaf)))(f:aF v=true)(g:vs.all aF=true)(e:vs.findIdx? (fun y=>decide (y=v))=some i)(q:k (ti i) W):bL c W k (.bi "tuple.index") [x,tv v]
 | get{x es s}(h:pk W x=some (.dict es))(q:k (.t ((es.lookup s).getD (.leaf .none))) W):bL c W k (.bi "dict.get") [x,tS s]
 | rjust{s n f}(h1:f.length=1)(h2:0≤n)(h3:n≤1000)(l:s.length≤1000)(q:k (tS (Ub s n (f.cps.getD 0 0))) W):bL c W k (.bi "str.rjust") [tS s,ti n,tS f]
 | join{s x}{ss:List Str}(h:pk W x=some (.list (ss.map fun s=>.leaf (.str s))))(j:JoinOk s ss=true)(l:ss.length≤1000)(q:k (tS (TW s ss)) W):bL c W k (.bi "str.join") [tS s,x]
 | list{x xs}(h:pk W x=some (.list xs))(q:cy (.l xs) W k):bL c W k (.ty "list") [x]
 | listR{l h}(q:cy (.l ((aW l h).map .leaf)) W k):bL c W k (.ty "list") [.k (.rng l h)]
 | dict{x es}(h:pk W x=some (.dict es))(q:cy (.d es) W k):bL c W k (.ty "dict") [x]
 | rng1{i}(h : -100000≤i)(h':i≤100000)(q:k (.k (.rng 0 i)) W):bL c W k (.ty "range") [ti i]
 | rng2{l i}(h:0≤l)(h0:l≤100000)(h1 : -100000≤i)(h':i≤100000)(q:k (.k (.rng l i)) W):bL c W k (.ty "range") [ti l,ti i]
 | str{i:Int}(h:i.natAbs<10^20)(q:k (tS (No (toString i))) W):bL c W k (.ty "str") [ti i]
noncomputable def nT(C:Addr)(k:Str):T:=.inst C [(No "kind",.leaf (.str k)),(No "attrs",.leaf .none)]
inductive iH(c:Cx)(d:Nat)(W:UW)(k:KU)(E:Str→UW→Prop):Addr→List UV→Prop
 | n(js:List Nat){a vs vs1 W0 W1}{q:Rq→Prop}(hn:nk js=true)(hp:aS js vs W=some (vs1,W0))(hs:bX js js W0=some W1)(h:de c d a vs1 W1 q)(kr:∀v W',q (.r v W')→k (su js W0.length v) (gm js W0.length js W0 W'))(ke:∀m W',q (.e m W')→E m (gm js W0.length js W0 W')):iH c d W k E a vs
 | v3{x y vk ts d'}(hd:d=d'+2)(h:pk W x=some (.list ts))(q:cy (.v vk x y false) W k):iH c d W k E CV [tS vk,x,y]
 | v2{x vk ts d'}(hd:d=d'+2)(h:pk W x=some (.list ts))(q:cy (.v vk x (tv .none) false) W k):iH c d W k E CV [tS vk,x]
 | nl{d'}(hd:d=d'+2)(q:k (.t (nT CN (No "NULL"))) W):iH c d W k E CN []
 | ms{d'}(hd:d=d'+2)(q:k (.t (nT CM (No "missing"))) W):iH c d W k E CM []
theorem iH.r{c:Cx}{d:Nat}{W:UW}{k:KU}{E:Str→UW→Prop}(js:List Nat){a vs vs1 W0 W1 v W'}(hn:nk js=true)(hp:aS js vs W=some (vs1,W0))(hs:bX js js W0=some W1)(h:ag c d a vs1 W1 (.r v W'))(q:k (su js W0.length v) (gm js W0.length js W0 W')):iH c d W k E a vs:=
 .n js hn hp hs h (fun ζ ζ e=>by injection e with e zz;subst e;subst zz;exact q) fun ζ ζ e=>Rq.noConfusion e
theorem iH.e{c:Cx}{d:Nat}{W:UW}{k:KU}{E:Str→UW→Prop}(js:List Nat){a vs vs1 W0 W1 m W'}(hn:nk js=true)(hp:aS js vs W=some (vs1,W0))(hs:bX js js W0=some W1)(h:ag c d a vs1 W1 (.e m W'))(q:E m (gm js W0.length js W0 W')):iH c d W k E a vs:=
 .n js hn hp hs h (fun ζ ζ e=>Rq.noConfusion e) fun ζ ζ e=>by injection e with e zz;subst e;subst zz;exact q
def rU(c:Cx)(d:Nat)(f:UV)(vs:List UV)(W:UW)(k:KU)(E:Str→UW→Prop):Prop:=match f with
 | .v (.ref a)=>iH c d W k E a vs
 | .v f=>bL c W k f vs
 | _=>False
end
section
section
variable{α β:Type}{R R':α→β→Prop}{as as':List α}{bs bs':List β}
theorem F2.imp(k:∀a b,R a b→R' a b)(h:F2 R as bs):F2 R' as bs:=by
 induction h with
 | nil=>exact .nil
 | cons h _ ih=>exact .cons (k _ _ h) ih
theorem F2.app(h:F2 R as bs)(h':F2 R as' bs'):F2 R (as++as') (bs++bs'):=by
 induction h with
 | nil=>exact h'
 | cons h _ ih=>exact .cons h ih
theorem F2.len'(h:F2 R as bs):as.length=bs.length:=by
 induction h with
 | nil=>rfl
 | cons _ _ ih=>exact Nw (· + 1) ih
end
section
variable{R R':V→T→Prop}{v:V}{t:T}
theorem dR.imp{es ts}(k:∀v t,R v t→R' v t)(h:dR R es ts):dR R' es ts:=by
 induction h with
 | nil=>exact .nil
 | cons h _ ih=>exact .cons (k _ _ h) ih
theorem jV.imp{es ts}(k:∀v t,R v t→R' v t)(h:jV R es ts):jV R' es ts:=by
 induction h with
 | nil=>exact .nil
 | cons h _ ih=>exact .cons (k _ _ h) ih
end
section
variable{Z Z':AH}{v:V}{t:T}
theorem Rt.go(K:∀a o,Z a=some o→Z' a=some o)(h:Rt Z v t):Rt Z' v t:=
 Rt.rec (motive_1:=fun v t ζ=>Rt Z' v t) (motive_2:=fun xs ts ζ=>F2 (Rt Z') xs ts) (motive_3:=fun es ts ζ=>dR (Rt Z') es ts)
  (fun h=>.leaf h) (fun h l ζ f=>.list (K _ _ h) l f) (fun h l ζ f=>.tup (K _ _ h) l f)
  (fun h l ζ f=>.dict (K _ _ h) l f) (fun h ζ f=>.inst (K _ _ h) f)
  .nil (fun ζ ζ h f=>.cons h f) .nil (fun ζ ζ h f=>.cons h f) h
end
section
variable{Γ:Gm}{w w' w'':Wd}{C:UL}{W W':UW}{v:V}{x:UV}{a n:Addr}{o o':WO}{b:O}{j:Nat}{t:T}
theorem Ex.refl:Ex w w:=⟨fun ζ ζ h=>h,fun ζ ζ h=>h⟩
theorem Ex.trans(e:Ex w w')(e':Ex w' w''):Ex w w'':=⟨fun a o h=>e'.z a o (e.z a o h),fun j a h=>e'.p j a (e.p j a h)⟩
theorem VR.go(e:Ex w w')(h:VR w v x):VR w' v x:=by
 induction x with
 | t=>exact Rt.go e.z h
 | w=>induction h with | mk h=>exact ⟨e.p _ _ h⟩
 | v=>exact h
 | k=>induction h with | mk h q=>exact ⟨e.z _ _ h,q⟩
theorem OR.go{v x}(e:Ex w w')(h:OR w v x):OR w' v x:=by
 induction v with
 | none=>induction x with
  | none=>exact h
  | some=>exact h
 | some v=>induction x with
  | none=>exact h
  | some x=>exact VR.go e h
theorem WR.go(e:Ex w w')(n:w.z a=none→w'.z a=none)(g:∀b,w.h a=some b→w'.h a=some b)(h:WR w a o):WR w' a o:=by
 induction o with
 | l=>obtain ⟨_,m,h,l,f⟩:=h;exact ⟨_,n m,g _ h,l,f.imp fun ζ ζ h=>h.go e.z⟩
 | d=>obtain ⟨_,_,m,h,l,f⟩:=h;exact ⟨_,_,n m,g _ h,l,f.imp fun ζ ζ h=>h.go e.z⟩
 | i=>obtain ⟨_,m,h,l,f⟩:=h;exact ⟨_,n m,g _ h,l,f.imp fun ζ ζ h=>h.go e.z⟩
 | v=>obtain ⟨_,_,m,h,i,f⟩:=h;exact ⟨_,_,n m,g _ h,i.go e,f.go e⟩
 | z=>exact Rt.go e.z h
 | p=>obtain ⟨_,m,h,t,f⟩:=h;exact ⟨_,n m,g _ h,t,fun p v h=>let ⟨cd,e1,e2⟩:=f p v h;⟨cd,e1,e.z _ _ e2⟩⟩
noncomputable def JN(Z:AH):V→Prop
 | .ref a=>∃b,Z a=some b
 | _=>True
theorem z7{Z:AH}(h:lf v=true):JN Z v:=by
 induction v<;>first | exact trivial | exact (Nt h).elim
theorem Rt.at_{Z:AH}(h:Rt Z (.ref a) t):JN Z (.ref a):=Rt.casesOn (motive_1:=fun v ζ ζ=>JN Z v) h z7 (fun h ζ ζ=>⟨_,h⟩) (fun h ζ ζ=>⟨_,h⟩) (fun h ζ ζ=>⟨_,h⟩) fun h ζ=>⟨_,h⟩
theorem WR.there(zs:∀a o,w.z a=some o→w.h a=some o∧o.isC=false)(h:WR w a o):∃b,w.h a=some b∧b.isC=false:=by
 induction o with
 | l=>obtain ⟨_,_,h⟩:=h;exact ⟨_,h,rfl⟩
 | d=>obtain ⟨_,_,_,h⟩:=h;exact ⟨_,h,rfl⟩
 | i=>obtain ⟨_,_,h⟩:=h;exact ⟨_,h,rfl⟩
 | v=>obtain ⟨_,_,_,h⟩:=h;exact ⟨_,h,rfl⟩
 | z=>obtain ⟨b,h⟩:=Rt.at_ h;exact ⟨b,zs _ _ h⟩
 | p=>obtain ⟨_,_,h⟩:=h;exact ⟨_,h,rfl⟩
theorem aU(W:UW):∀j,af W j=W[j]?:=by
 induction W with
 | nil=>exact fun ζ=>rfl
 | cons o r ih=>
  intro j
  induction j using Pw with
  | zero=>rfl
  | succ j=>exact ih j
theorem e8(o:WO)(W:UW):∀j,ar W j o=W.set j o:=by
 induction W with
 | nil=>exact fun ζ=>rfl
 | cons u r ih=>
  intro j;rcases j with _ | j
  ·rfl
  ·exact Nw (u :: ·) (ih j)
theorem mh(h:af W j=some o):j<W.length:=(List.getElem?_eq_some_iff.mp (aU W j▸h)).1
theorem jA{i:Nat}(h:af (ar W j o) i=some o'):(i=j∧o'=o)∨(i≠j∧af W i=some o'):=by
 rw[aU,e8,List.getElem?_set]at h;split at h
 ·split at h
  ·exact .inl ⟨Eq.symm ‹_›,(Option.some.inj h).symm⟩
  ·exact ac h
 ·exact .inr ⟨fun w=>‹¬ j=i› w.symm,aU _ _▸h⟩
theorem cm:(ar W j o).length=W.length:=by rw[e8,Qi]
theorem mu{α:Type}{A:List α}{n a:α}(h:(A++[n])[j]? = some a):A[j]? = some a∨(j=A.length∧n=a):=by
 rw[Tq]at h;split at h
 ·exact .inl h
 ·have h:=(List.getElem?_singleton).symm.trans h;split at h
  ·exact .inr ⟨Sz (Nat.sub_eq_zero_iff_le.mp ‹_›) (Nat.not_lt.mp ‹_›),Option.some.inj h⟩
  ·exact ac h
theorem pH{α:Type}{A B:List α}{a:α}(h:A[j]? = some a):(A++B)[j]? = some a:=by
 rw[PK (List.getElem?_eq_some_iff.mp h).1];exact h
theorem xD{α:Type}{A:List α}{a:α} : (A++[a])[A.length]? = some a:=List.getElem?_concat_length
theorem g9{A:List Addr}{i j:Nat}{a:Addr}(nd:A.Nodup)(h:A[i]? = some a)(h':A[j]? = some a):i=j:=
 (List.getElem?_inj (List.getElem?_eq_some_iff.mp h).1 nd).mp (h.trans h'.symm)
theorem aV.to(I:aV Γ w C W)(E:Ex w w')(le:Le Γ.o.A Γ.o.h w'.h)(fr:∀a∈w'.A,a∈w.A∨Γ.o.h a=none)(zz:∀a o,w'.z a=some o→w.z a=some o∨w'.h a=some o∧o.isC=false∧(Γ.o.h a=none∨a∈Γ.o.A))
  (zs:∀a o,w.z a=some o→w'.h a=some o) (nd:w'.A.Nodup) (ln:w'.A.length=W'.length) (ow:∀(j:Nat) (a:Addr) o,w'.A[j]? = some a→af W' j=some o→WR w' a o)
  (cs:∀a o,w.h a=some (.cell o)→w'.h a=some (.cell o)):aV Γ w' C W':=
 ⟨⟨fun a o h=>(zz a o h).elim (fun h=>⟨zs a o h,(I.zs a o h).2⟩) fun h=>⟨h.1,h.2.1⟩,nd,ln,ow⟩,I.ex.trans E,le,fun a h=>(fr a h).elim (I.fr a) .inl,fun a o h=>(zz a o h).elim (I.zz a o) fun h=>.inr h.2.2,fun i a h=>by
  obtain ⟨f,o,g,r⟩:=I.cs i a h;exact ⟨f,o,cs _ _ g,r.go E⟩,I.cd,I.cn⟩
theorem oG{H:AH}{y:Addr}{ob:O}(g:H y=some ob)(h:y≠a):upd H a b y=some ob:=(am h).trans g
theorem sI{H:AH}{y:Addr}{ob:O}(h:upd H a b y=some ob):(y=a∧b=ob)∨H y=some ob:=by
 by_cases e:y=a
 ·subst e;rw[aj]at h;exact .inl ⟨rfl,Option.some.inj h⟩
 ·have h:=(am e).symm.trans h;exact .inr h
theorem updF{H:AH}{y:Addr}{ob:O}(g:H y=some ob)(h:H n=none):upd H n b y=some ob:=oG g (ym g h)
theorem Cr.own(I:Cr w W)(h:af W j=some o):∃a,w.A[j]? = some a∧WR w a o:=by
 have:=mh h;rw[← I.ln]at this;exact ⟨w.A[j],NI this,I.ow _ _ _ (NI this) h⟩
theorem Cr.inA(I:Cr w W)(h:a∈w.A):∃b,w.h a=some b∧b.isC=false:=by
 obtain ⟨j,hj,rfl⟩:=Pq h;exact (I.ow j _ _ (NI hj) ((aU W j).trans (NI (I.ln▸hj)))).there I.zs
theorem aV.tree(I:aV Γ w C W)(hn:w.h n=none)(hc:b.isC=false):aV Γ ⟨upd w.z n b,upd w.h n b,w.A⟩ C W∧Ex w ⟨upd w.z n b,upd w.h n b,w.A⟩:=by
 have zn:w.z n=none:=by
  refine ay (o:=w.z n) (fun e=>?_) (fun o e=>?_)
  ·rfl
  ·rw[(I.zs n o e).1]at hn;exact (NN _ hn).elim
 have E:Ex w ⟨upd w.z n b,upd w.h n b,w.A⟩:=⟨fun a o h=>updF h zn,fun ζ ζ h=>h⟩;refine ⟨I.to E (I.le.updF (I.le.dom n hn)) (fun a=>.inl) (fun a o h=>?_) (fun a o h=>updF (I.zs a o h).1 hn) I.nd I.ln (fun j a o h h'=>?_) fun a o h=>updF h hn,E⟩
 ·rcases sI h with ⟨rfl,rfl⟩ | h
  ·exact .inr ⟨aj _ _ _,hc,.inl (I.le.dom _ hn)⟩
  ·exact .inl h
 ·refine (I.ow j a o h h').go E (fun m=>(am fun e=>?_).trans m) fun b g=>updF g hn;refine Nz (I.inA (OP h)) fun b zz=>NO (fun g ζ=>?_) (zz);rw[e,hn]at g;exact ac g
theorem aV.new(I:aV Γ w C W)(hn:w.h n=none)(h:Ex w ⟨w.z,upd w.h n b,w.A++[n]⟩→w.z n=none→WR ⟨w.z,upd w.h n b,w.A++[n]⟩ n o):aV Γ ⟨w.z,upd w.h n b,w.A++[n]⟩ C (W++[o])∧Ex w ⟨w.z,upd w.h n b,w.A++[n]⟩∧(w.A++[n])[W.length]? = some n:=by
 have zn:w.z n=none:=by
  refine ay (o:=w.z n) (fun e=>?_) (fun o e=>?_)
  ·rfl
  ·have hn:=((I.zs n o e).1).symm.trans hn;exact (NN _ hn).elim
 have E:Ex w ⟨w.z,upd w.h n b,w.A++[n]⟩:=⟨fun a o h=>h,fun ζ ζ h=>pH h⟩;have nA:n ∉ w.A:=fun h=>by
  refine Nz (I.inA h) fun b zz=>NO (fun g ζ=>?_) (zz);have g:=(hn).symm.trans g;exact ac g
 refine ⟨I.to E (I.le.updF (I.le.dom n hn)) (fun a h=>(List.mem_append.mp h).imp id fun (h:a∈[n])=>(List.mem_singleton.mp h).symm▸I.le.dom n hn) (fun a o h=>.inl h) (fun a o h=>updF (I.zs a o h).1 hn) ?_ ?_ (fun j a o' h1 h2=>?_) fun a o h=>updF h hn,E,I.ln▸xD⟩
 ·exact List.nodup_append.mpr ⟨I.nd,SY _ _,fun x hx y hy e=>nA (List.mem_singleton.mp hy▸e▸hx)⟩
 ·rw[NH,NH,I.ln];rfl
 ·rw[aU]at h2;rcases mu h1 with h1 | ⟨rfl,rfl⟩
  ·rcases mu h2 with h2 | ⟨rfl,rfl⟩
   ·exact (I.ow j a o' h1 ((aU _ _).trans h2)).go E (fun m=>m) fun b g=>updF g hn
   ·exact absurd (List.getElem?_eq_some_iff.mp h1).1 (by rw[I.ln];exact QN _)
  ·rcases mu h2 with h2 | ⟨_,rfl⟩
   ·exact absurd (List.getElem?_eq_some_iff.mp h2).1 (by rw[I.ln];exact QN _)
   ·exact h E zn
theorem aV.set(I:aV Γ w C W)(hj:w.A[j]? = some a)(hz:w.z a=none)(h:Ex w ⟨w.z,upd w.h a b,w.A⟩→WR ⟨w.z,upd w.h a b,w.A⟩ a o):aV Γ ⟨w.z,upd w.h a b,w.A⟩ C (ar W j o)∧Ex w ⟨w.z,upd w.h a b,w.A⟩:=by
 have E:Ex w ⟨w.z,upd w.h a b,w.A⟩:=⟨fun ζ ζ h=>h,fun ζ ζ h=>h⟩;have ha:=OP hj;refine ⟨I.to E ?_ (fun a=>.inl) (fun a o h=>.inl h) (fun y o h=>oG (I.zs y o h).1 (ym h hz)) I.nd (I.ln.trans cm.symm) (fun i y o' h1 h2=>?_) fun y o h=>oG h fun e=>?_,E⟩
 ·refine (I.fr a ha).elim (fun h=>?_) fun h=>?_
  ·exact I.le.updF h
  ·exact I.le.trans (.upd h)
 ·rcases jA h2 with ⟨rfl,rfl⟩ | ⟨n,h2⟩
  ·replace h1:=(hj)▸h1;injection h1 with h1;subst h1;exact h E
  ·exact (I.ow i y o' h1 h2).go E (fun m=>m) fun b g=>oG g fun e=>n (g9 I.nd (e▸h1) hj)
 ·obtain ⟨b,g,hc⟩:=I.inA ha;rw[← e,h]at g;injection g with g;subst g;exact NG hc
theorem aV.frz(I:aV Γ w C W)(hj:w.A[j]? = some a)(hz:w.z a=none)(hb:w.h a=some b)(hc:b.isC=false)(h:Ex w ⟨upd w.z a b,w.h,w.A⟩→Rt (upd w.z a b) (.ref a) t):aV Γ ⟨upd w.z a b,w.h,w.A⟩ C (ar W j (.z t))∧Ex w ⟨upd w.z a b,w.h,w.A⟩:=by
 have E:Ex w ⟨upd w.z a b,w.h,w.A⟩:=⟨fun a o h=>updF h hz,fun ζ ζ h=>h⟩;refine ⟨I.to E I.le (fun a=>.inl) (fun y o h=>?_) (fun y o h=>(I.zs y o h).1) I.nd (I.ln.trans cm.symm) (fun i y o' h1 h2=>?_) fun y o h=>h,E⟩
 ·rcases sI h with ⟨rfl,rfl⟩ | h
  ·exact .inr ⟨hb,hc,I.fr _ (OP hj)⟩
  ·exact .inl h
 ·rcases jA h2 with ⟨rfl,rfl⟩ | ⟨n,h2⟩
  ·replace h1:=(hj)▸h1;injection h1 with h1;subst h1;exact h E
  ·exact (I.ow i y o' h1 h2).go E (fun m=>(am fun e=>n (g9 I.nd (e▸h1) hj)).trans m) fun b g=>g
end
end
section
inductive Nd(w:Wd)(v:V)(ts:List T):Prop
 | mk(a:Addr)(xs:List V)(e:v=.ref a)(h:w.h a=some (.list xs))(l:xs.length≤100000)(f:F2 (Rt w.z) xs ts)
inductive Nc(w:Wd)(v:V)(ts:List T):Prop
 | mk(a:Addr)(xs:List V)(e:v=.ref a)(h:w.h a=some (.tup xs))(l:xs.length≤100000)(f:F2 (Rt w.z) xs ts)
inductive Ng(w:Wd)(v:V)(ts:List (Str×T)):Prop
 | mk(a:Addr)(es:List (Str×V))(ep:Nat)(e:v=.ref a)(h:w.h a=some (.sdict es ep))(l:es.length≤100000)(f:dR (Rt w.z) es ts)
inductive Nf(w:Wd)(v:V)(C:Addr)(ts:List (Str×T)):Prop
 | mk(a:Addr)(fs:List (Str×V))(e:v=.ref a)(h:w.h a=some (.inst C fs))(f:dR (Rt w.z) fs ts)
noncomputable def Rh(w:Wd)(v:V):T→Prop
 | .leaf u=>v=u
 | .list ts=>Nd w v ts
 | .tup ts=>Nc w v ts
 | .dict ts=>Ng w v ts
 | .inst C ts=>Nf w v C ts
def KS(Γ:Gm)(C:UL)(w:Wd)(k:UW→Prop)(Q:AH→Prop):Prop:=∀W' w',k W'→aV Γ w' C W'→Ex w w'→Q w'.h
def KV(Γ:Gm)(C:UL)(w:Wd)(k:KU)(Q:Q1):Prop:=∀v' v W' w',k v W'→aV Γ w' C W'→Ex w w'→VR w' v' v→Q v' w'.h
section
variable{Γ:Gm}{w w' w'':Wd}{C:UL}{W W':UW}{v u:V}{x y:UV}{a n:Addr}{o o':WO}{b:O}{j:Nat}{t:T}{k:KU}{Q:Q1}{vs:List V}{xs:List UV}{ts:List T}
theorem Rt.hd(zs:∀a o,w.z a=some o→w.h a=some o∧o.isC=false)(h:Rt w.z v t):Rh w v t:=
 Rt.casesOn (motive_1:=fun v t ζ=>Rh w v t) h (fun ζ=>rfl) (fun h l f=>⟨_,_,rfl,(zs _ _ h).1,l,f⟩) (fun h l f=>⟨_,_,rfl,(zs _ _ h).1,l,f⟩) (fun h l f=>⟨_,_,_,rfl,(zs _ _ h).1,l,f⟩) fun h f=>⟨_,_,rfl,(zs _ _ h).1,f⟩
theorem WR.hd(zs:∀a o,w.z a=some o→w.h a=some o∧o.isC=false)(h:WR w a o)(e:mY o=some t):Rh w (.ref a) t:=by
 induction o with
 | l=>injection e with e;subst e;obtain ⟨_,_,h,l,f⟩:=h;exact ⟨_,_,rfl,h,l,f⟩
 | d=>injection e with e;subst e;obtain ⟨_,_,_,h,l,f⟩:=h;exact ⟨_,_,_,rfl,h,l,f⟩
 | i=>exact ac e
 | v=>exact ac e
 | p=>exact ac e
 | z=>injection e with e;subst e;exact Rt.hd zs h
theorem lL(I:Cr w W)(h:VR w v x)(e:pk W x=some t):Rh w v t:=by
 induction x with
 | t=>injection e with e;subst e;exact Rt.hd I.zs h
 | v=>exact ac e
 | k=>exact ac e
 | w j=>
  refine (aR e).el fun o g e=>?_
  induction h with | mk h=>exact (I.ow _ _ _ h g).hd I.zs e
@[elab_as_elim] theorem ql{ts:List T}{P:V→Prop}(I:Cr w W)(h:VR w v x)(e:pk W x=some (.list ts))(k:∀a xs,w.h a=some (.list xs)→xs.length≤100000→F2 (Rt w.z) xs ts→P (.ref a)):P v:=by obtain ⟨a,xs,rfl,g,l,f⟩:=lL I h e;exact k a xs g l f
@[elab_as_elim] theorem zy{ts:List T}{P:V→Prop}(I:Cr w W)(h:VR w v x)(e:pk W x=some (.tup ts))(k:∀a xs,w.h a=some (.tup xs)→xs.length≤100000→F2 (Rt w.z) xs ts→P (.ref a)):P v:=by obtain ⟨a,xs,rfl,g,l,f⟩:=lL I h e;exact k a xs g l f
@[elab_as_elim] theorem D4{ts:List (Str×T)}{P:V→Prop}(I:Cr w W)(h:VR w v x)(e:pk W x=some (.dict ts))(k:∀a xs ep,w.h a=some (.sdict xs ep)→xs.length≤100000→dR (Rt w.z) xs ts→P (.ref a)):P v:=by obtain ⟨a,xs,ep,rfl,g,l,f⟩:=lL I h e;exact k a xs ep g l f
@[elab_as_elim] theorem D5{D:Addr}{ts:List (Str×T)}{P:V→Prop}(I:Cr w W)(h:VR w v x)(e:pk W x=some (.inst D ts))(k:∀a xs,w.h a=some (.inst D xs)→dR (Rt w.z) xs ts→P (.ref a)):P v:=by obtain ⟨a,xs,rfl,g,f⟩:=lL I h e;exact k a xs g f
inductive sm(Γ:Gm)(w:Wd)(C:UL)(v:V)(t:T)(W':UW):Prop
 | mk(z':AH)(I:aV Γ ⟨z',w.h,w.A⟩ C W')(E:Ex w ⟨z',w.h,w.A⟩)(h:Rt z' v t)
theorem sm.el{Γ:Gm}{w:Wd}{C:UL}{v:V}{t:T}{W':UW}{P_:Prop}(h_:sm Γ w C v t W')(k_:∀(z':AH) (I:aV Γ ⟨z',w.h,w.A⟩ C W') (E:Ex w ⟨z',w.h,w.A⟩) (h:Rt z' v t),P_):P_:=sm.rec (motive:=fun ζ=>P_) k_ h_
theorem eZ:∀{W:UW}{j:Nat},af W j=some o→ar W j o=W
 | [],_,_=>rfl
 | _::_,0,h=>by injection h with h;subst h;rfl
 | u::_,_+1,h=>Nw (u :: ·) (eZ h)
theorem jC(I:aV Γ w C W)(h:VR w v x)(q:eK W x=some (t,W')):sm Γ w C v t W':=by
 induction x with
 | t=>injection q with q;injection q with q zz;subst q;subst zz;exact ⟨w.z,I,.refl,h⟩
 | v=>exact ac q
 | k=>exact ac q
 | w j=>
  obtain ⟨o,e,q⟩:=aR q;obtain ⟨t,e2,q⟩:=aR q;injection q with q;injection q with q zz;subst q;subst zz
  induction h with | @mk a h=>
  have r:=I.ow _ _ _ h e
  induction o with
  | l=>
   injection e2 with e2;subst e2;obtain ⟨_,m,g,l,f⟩:=r;have r:=fun E:Ex w ⟨upd w.z a _,w.h,w.A⟩=>Rt.list (aj _ _ _) l (f.imp fun ζ ζ h=>h.go E.z);obtain ⟨I',E⟩:=I.frz h m g rfl r;exact ⟨_,I',E,r E⟩
  | d=>
   injection e2 with e2;subst e2;obtain ⟨es,ep,m,g,l,f⟩:=r;have r:=fun E:Ex w ⟨upd w.z a _,w.h,w.A⟩=>Rt.dict (aj _ _ (.sdict es ep)) l (f.imp fun ζ ζ h=>h.go E.z);obtain ⟨I',E⟩:=I.frz h m g rfl r;exact ⟨_,I',E,r E⟩
  | z=>injection e2 with e2;subst e2;rw[eZ e];exact ⟨_,I,.refl,r⟩
  | i=>exact ac e2
  | v=>exact ac e2
  | p=>exact ac e2
theorem uz{vk it at_ lo}(q:eK W x=some (t,W'))(h:af W j=some (.v vk it at_ lo)):af W' j=some (.v vk it at_ lo):=by
 induction x with
 | t=>injection q with q;injection q with q zz;subst q;subst zz;exact h
 | v=>exact ac q
 | k=>exact ac q
 | w i=>
  obtain ⟨o,e,q⟩:=aR q;obtain ⟨t,e2,q⟩:=aR q;injection q with q;injection q with q zz;subst q;subst zz;rw[aU,e8,Tp fun w=>?_,← aU]
  ·exact h
  ·subst w;replace e:=(h)▸e;injection e with e;subst e;exact ac e2
theorem y3{Z:AH}{vk:Str}{l:Addr}{va:V}{lo:Bool}{p q:T}(h:Rt Z (.ref l) p)(h':Rt Z va q)(g:Z a=some (.inst CV (kx vk l va lo))):Rt Z (.ref a) (vT vk p q lo):=
 .inst g (.cons (.leaf rfl) (.cons h (.cons h' (.cons (.leaf rfl) (.cons (.leaf rfl) .nil)))))
theorem Az{vk it at_ lo}(I:aV Γ w C W)(h:w.A[j]? = some a)(g:af W j=some (.v vk it at_ lo))(q:jB W j vk it at_ lo=some (t,W')):sm Γ w C (.ref a) t W':=by
 obtain ⟨p,e1,q⟩:=aR q;obtain ⟨p2,e2,q⟩:=aR q;injection q with q;injection q with q zz;subst q;subst zz;obtain ⟨l,va,_,gh,hi,ha⟩:=I.ow _ _ _ h g;obtain ⟨z1,I1,E1,r1⟩:=jC I hi e1;obtain ⟨z2,I2,E2,r2⟩:=jC I1 (ha.go E1) e2;obtain ⟨_,_,m,_⟩:=I2.ow _ _ _ h (uz e2 (uz e1 g));have r:=fun E:Ex ⟨z2,w.h,w.A⟩ ⟨upd z2 a _,w.h,w.A⟩=>y3 (vk:=vk) (lo:=lo) ((r1.go E2.z).go E.z) (r2.go E.z) (aj _ _ _);obtain ⟨I3,E3⟩:=I2.frz h m gh rfl r;exact ⟨_,I3,E1.trans (E2.trans E3),r E3⟩
theorem eJ(I:aV Γ w C W)(h:VR w v x)(q:frz W x=some (t,W')):sm Γ w C v t W':=by
 induction x with
 | t=>exact jC I h q
 | v=>exact ac q
 | k=>exact ac q
 | w j=>
  induction h with | mk h=>
  cases e:af W j with
  | none=>have q:=(show frz W (.w j)=eK W (.w j) by unfold frz;dsimp only;rw[e]).symm.trans q;exact jC (x:=.w j) I ⟨h⟩ q
  | some o=>
   unfold frz at q;dsimp only at q;rw[e]at q
   induction o with
   | v=>exact Az I h e q
   | _=>exact jC (x:=.w j) I ⟨h⟩ q
inductive GA(Γ:Gm)(w:Wd)(C:UL)(vs:List V)(ts:List T)(W':UW):Prop
 | mk(z':AH)(I:aV Γ ⟨z',w.h,w.A⟩ C W')(E:Ex w ⟨z',w.h,w.A⟩)(h:F2 (Rt z') vs ts)
theorem uy(h:F2 (VR w) vs xs):∀{w' W ts W'},aV Γ w' C W→Ex w w'→et xs W=some (ts,W')→GA Γ w' C vs ts W':=by
 induction h with
 | nil=>intro w' W ts W' I E q;injection q with q;injection q with q zz;subst q;subst zz;exact ⟨w'.z,I,.refl,.nil⟩
 | cons h _ ih=>
  intro w' W ts W' I E q;obtain ⟨p,q1,q⟩:=aR q;obtain ⟨p2,q2,q⟩:=aR q;injection q with q;injection q with q zz;subst q;subst zz;obtain ⟨z1,I1,E1,r1⟩:=eJ I (h.go E) q1;obtain ⟨z2,I2,E2,r2⟩:=ih I1 (E.trans E1) q2;exact ⟨z2,I2,E1.trans E2,.cons (r1.go E2.z) r2⟩
end
end
section
section
variable{R:V→T→Prop}{v:V}{t:T}{xs:List V}{ts:List T}
theorem F2.flat(m:Nat)(h:F2 R xs ts):F2 R (NM m xs).flatten (NM m ts).flatten:=by
 induction m with
 | zero=>exact .nil
 | succ m ih=>
  rw[Qk,Qk];exact h.app ih
theorem dR.len{es ts}(h:dR R es ts):es.length=ts.length:=by
 induction h with
 | nil=>rfl
 | cons _ _ ih=>exact Nw (· + 1) ih
theorem dR.any{es ts}{s:Str}(h:dR R es ts):es.any (fun p=>decide (p.1=s))=ts.any (fun p=>decide (p.1=s)):=by
 induction h with
 | nil=>rfl
 | cons _ _ ih=>rw[OA,OA,ih]
theorem jV.any{es ts}{s:Int}(h:jV R es ts):es.any (fun p=>decide (p.1=s))=ts.any (fun p=>decide (p.1=s)):=by
 induction h with
 | nil=>rfl
 | cons _ _ ih=>rw[OA,OA,ih]
theorem dR.look{es ts}{s:Str}(h:dR R es ts)(e:ts.lookup s=some t):∃v,es.lookup s=some v∧R v t:=by
 induction h with
 | nil=>exact ac e
 | cons h _ ih=>
  rw[NK]at e ⊢;split at e
  ·injection e with e;subst e;exact ⟨_,rfl,h⟩
  ·exact ih e
theorem jV.look{es ts}{s:Int}(h:jV R es ts)(e:ts.lookup s=some t):∃v,es.lookup s=some v∧R v t:=by
 induction h with
 | nil=>exact ac e
 | cons h _ ih=>
  rw[NK]at e ⊢;split at e
  ·injection e with e;subst e;exact ⟨_,rfl,h⟩
  ·exact ih e
theorem dR.lookN{es ts}{s:Str}(h:dR R es ts)(e:ts.lookup s=none):es.lookup s=none:=by
 induction h with
 | nil=>rfl
 | cons h _ ih=>
  rw[NK]at e ⊢;split at e
  ·exact (NN _ e).elim
  ·exact ih e
theorem F2.nth(h:F2 R xs ts):∀{n},cq ts n=some t→∃v,xs[n]? = some v∧R v t:=by
 induction h with
 | nil=>exact (fun h=>by exact ac h)
 | cons h _ ih=>
  intro n e;rcases n with _ | n
  ·injection e with e;subst e;exact ⟨_,List.getElem?_cons_zero,h⟩
  ·exact ih e
theorem F2.take(h:F2 R xs ts):∀n,F2 R (xs.take n) (ts.take n):=by
 induction h with
 | nil=>intro n;rw[List.take_nil,List.take_nil];exact .nil
 | cons h _ ih=>
  intro n;rcases n with _ | n
  ·exact .nil
  ·exact .cons h (ih n)
end
section
variable{Γ:Gm}{w w' w'':Wd}{C:UL}{W W':UW}{v u:V}{x y z:UV}{a n:Addr}{o o':WO}{b:O}{j:Nat}{t:T}{k:KU}{Q:Q1}{vs:List V}{xs:List UV}{ts:List T}{kb kb':Bool→Prop}{kt:T→Prop}{Qv Qv':V→Prop}
theorem aP{u:V}(h:VR w v (tv u)):v=u:=Rt.casesOn (motive_1:=fun v t ζ=>match t with | .leaf u=>v=u | _=>True) (h) (fun ζ=>rfl) (fun ζ ζ ζ=>trivial) (fun ζ ζ ζ=>trivial) (fun ζ ζ ζ=>trivial) fun ζ ζ=>trivial
theorem t8(h:lf v=false):fk v=none∧aF v=false∧decide (v=.none)=false:=by
 induction v<;>first | exact ⟨rfl,rfl,rfl⟩ | exact NG h
theorem jp(h:VR w v x):bW x=v∨(bW x=.oth∧lf v=false):=by
 induction x with
 | t t=>exact Rt.casesOn (motive_1:=fun v t ζ=>bW (.t t)=v∨(bW (.t t)=.oth∧lf v=false)) h (fun ζ=>.inl rfl) (fun ζ ζ ζ=>.inr ⟨rfl,rfl⟩) (fun ζ ζ ζ=>.inr ⟨rfl,rfl⟩) (fun ζ ζ ζ=>.inr ⟨rfl,rfl⟩) fun ζ ζ=>.inr ⟨rfl,rfl⟩
 | w=>induction h;exact .inr ⟨rfl,rfl⟩
 | v=>induction h with | mk h=>exact .inr ⟨rfl,h⟩
 | k=>induction h;exact .inr ⟨rfl,rfl⟩
theorem md(h:VR w v x):fk v=fk (bW x):=by
 rcases jp h with e | ⟨e,l⟩<;>rw[e];exact (t8 l).1
theorem KV.tr(q:KV Γ C w k Q)(I:aV Γ w C W)(h:k (.t t) W)(r:Rt w.z v t):Q v w.h:=q _ _ _ _ h I .refl r
theorem KV.lf(q:KV Γ C w k Q)(I:aV Γ w C W)(h:k (tv v) W)(l:lf v=true):Q v w.h:=q.tr I h (.leaf l)
theorem KV.ex(q:KV Γ C w k Q)(E:Ex w w'):KV Γ C w' k Q:=fun ζ ζ ζ ζ h I E' r=>q _ _ _ _ h I (E.trans E') r
theorem KV.new(q:KV Γ C w k Q)(I:aV Γ w C W)(h:cy o W k)(r:∀w' n,Ex w w'→w'.z n=none→w'.h n=some b→WR w' n o):bI b w.h Q:=fun n hn=>by
 refine NO (fun I' zz=>NO (fun E e=>?_) (zz)) (I.new hn fun E z=>r _ n E z (aj _ _ _));exact q _ _ _ _ h I' E ⟨e⟩
theorem KV.newL{ys:List V}{zs:List T}(q:KV Γ C w k Q)(I:aV Γ w C W)(h:cy (.l zs) W k)(l:zs.length≤100000)(r:F2 (Rt w.z) ys zs):bI (.list ys) w.h Q:=
 q.new I h fun w' n E z g=>⟨_,z,g,r.len'▸l,r.imp fun ζ ζ h=>h.go E.z⟩
theorem KV.kp(q:KV Γ C w k Q)(I:aV Γ w C W)(h:k x W)(c:b.isC=false)(r:∀w' n,Ex w w'→w'.z n=some b→VR w' (.ref n) x):bI b w.h Q:=fun n hn=>by
 refine NO (fun I' E=>?_) (I.tree hn c);exact q _ _ _ _ h I' E (r _ n E (aj _ _ _))
theorem JO{op:Ph}{i j:Int}(I:aV Γ w C W)(q:KV Γ C w k Q)(h:F5 op i j H0 fun v ζ=>k (tv v) W):F5 op i j w.h Q:=by
 induction op with
 | Add=>exact q.lf I h rfl
 | Sub=>exact q.lf I h rfl
 | Mult=>exact ⟨h.1,q.lf I h.2 rfl⟩
 | FloorDiv=>exact ⟨h.1,h.2.1,q.lf I h.2.2 rfl⟩
 | Mod=>exact ⟨h.1,q.lf I h.2 rfl⟩
 | Pow=>exact ⟨h.1,h.2.1,h.2.2.1,h.2.2.2.1,q.lf I h.2.2.2.2 rfl⟩
 | _=>exact h.elim
theorem FN{op:Ph}(I:aV Γ w C W)(hx:VR w v x)(hy:VR w u y)(q:KV Γ C w k Q)(h:jW W k op x y):oD w.h Q op v u:=by
 induction h with
 | addS l g=>
  obtain rfl:=aP hx;obtain rfl:=aP hy;exact .addS l (q.lf I g rfl)
 | mulS h1 h2 h3 g=>
  obtain rfl:=aP hx;obtain rfl:=aP hy;exact .mulS h1 h2 h3 (q.lf I g rfl)
 | addL e e' l g0=>
  refine ql I.toCr hx e fun ζ ζ g l1 f=>?_;refine ql I.toCr hy e' fun ζ ζ g' l2 f'=>?_;exact .addL g g' (by rw[f.len',f'.len'];exact l) (q.newL I g0 (by rw[NH];exact l) (f.app f'))
 | mulL e h1 h2 h3 g0=>
  obtain rfl:=aP hy;refine ql I.toCr hx e fun ζ ζ g l1 f=>?_;exact .mulL g (f.len'.trans h1) h2 h3 (q.newL I g0 (by rw[List.length_flatten,Py,List.sum_replicate_nat,h1,Nat.mul_one];exact Int.toNat_le.mpr h2) (f.flat _))
theorem FO{op:Ph}(I:aV Γ w C W)(hx:VR w v x)(hy:VR w u y)(h:n7 op x y W k)(q:KV Γ C w k Q):n6 op v u w.h Q:=by
 have o:=FN (op:=op) I hx hy q;unfold n7 at h;unfold n6;rw[md hx,md hy];refine ay (o:=fk (bW x)) (fun e=>?_) (fun i e=>?_)
 ·rw[e]at h;exact o h
 ·
  rw[e]at h;refine ay (o:=fk (bW y)) (fun e2=>?_) (fun i2 e2=>?_)
  ·rw[e2]at h;exact o h
  ·rw[e2]at h;exact JO I q h
theorem z6{i:Int}(h:VR w v x)(e:bW x=.int i):v=.int i:=(jp h).elim (fun e'=>e'.symm.trans e) fun e'=>nomatch e'.1.symm.trans e
theorem IB{i:Str}(h:VR w v x)(e:bW x=.str i):v=.str i:=(jp h).elim (fun e'=>e'.symm.trans e) fun e'=>nomatch e'.1.symm.trans e
theorem wZ{P P':V→Prop}(h:VR w v x)(m:∀v,P v→P' v)(no : ¬ P .oth)(q:P (bW x)):P' v:=by
 rcases jp h with e | ⟨e,_⟩<;>rw[e]at q
 ·exact m _ q
 ·exact (no q).elim
theorem zf{K K':Str→Prop}(m:∀s,K s→K' s)(v:V)(q:iA v K):iA v K':=by
 induction v<;>first | exact m _ q | exact q.elim
theorem xB{K K':Bool→Prop}(m:∀s,K s→K' s)(v:V)(q:eh v K):eh v K':=by
 induction v<;>first | exact m _ q | exact q.elim
theorem zR{K K':V→Prop}(m:∀i,K (.int i)→K' (.int i))(v:V)(q:nc v K):nc v K':=by
 induction v<;>first | exact m _ q | exact q.elim
theorem wQ{p p':Prop}(m:p→p')(v:V)(q:eF v p):eF v p':=by
 induction v<;>first | exact m q | exact q.elim
theorem xX{K K':Str→Prop}(h:VR w v x)(m:∀s,K s→K' s)(q:sW x K):iA v K':=wZ (P:=fun v=>iA v K) (P':=fun v=>iA v K') h (zf m) id q
theorem mq{K K':Bool→Prop}(h:VR w v x)(m:∀s,K s→K' s)(q:nY x K):eh v K':=wZ (P:=fun v=>eh v K) (P':=fun v=>eh v K') h (xB m) id q
theorem Eh{K K':V→Prop}(h:VR w v x)(m:∀i,K (.int i)→K' (.int i))(q:nc (bW x) K):nc v K':=wZ (P:=fun v=>nc v K) (P':=fun v=>nc v K') h (zR m) id q
theorem tM{p p':Prop}(h:VR w v x)(m:p→p')(q:eF (bW x) p):eF v p':=wZ (P:=fun v=>eF v p) (P':=fun v=>eF v p') h (wQ m) id q
theorem tN(h:VR w v x):decide (bW x=.none)=decide (v=.none):=by
 rcases jp h with e | ⟨e,l⟩<;>rw[e];exact (t8 l).2.2.symm
theorem As{K K':Int→Int→Prop}(m:∀i j,K i j→K' i j)(v u:V)(q:dM v u K):dM v u K':=by
 induction v<;>first | exact q.elim;done | (induction u<;>first | exact m _ _ q | exact q.elim)
theorem jx{K K':Int→Int→Prop}(hx:VR w v x)(hy:VR w u y)(m:∀i j,K i j→K' i j)(q:dM (bW x) (bW y) K):dM v u K':=by
 have q:dM v u K:=by unfold dM;rw[md hx,md hy];exact q
 exact As m v u q
theorem FT{op:Ph}{K K':Int→Prop}(hx:VR w v x)(hy:VR w u y)(m:∀i,K i→K' i)(q:mr op (bW x) (bW y) K):mr op v u K':=by
 refine jx hx hy (fun i j h=>?_) q
 induction op using PySem.Operator.casesOn<;>first | exact m _ h | exact h.elim
theorem qC(h:VR w v x):aF v=aF (bW x):=by
 rcases jp h with e | ⟨e,l⟩<;>rw[e];exact (t8 l).2.1
theorem uF(h:VR w v x)(f:aF (bW x)=true):bW x=v:=(jp h).elim id fun e=>by replace f:=(e.1)▸f;exact NG f
theorem F2.em{R:V→T→Prop}{xs:List V}{ts:List T}(f:F2 R xs ts):(xs=[]↔ts=[])∧xs.isEmpty=ts.isEmpty:=by
 induction f with
 | nil=>exact ⟨⟨fun ζ=>rfl,fun ζ=>rfl⟩,rfl⟩
 | cons=>exact ⟨⟨(fun h=>by injection h),(fun h=>by injection h)⟩,rfl⟩
theorem F2.rd{H:AH}{n:Nat}(ih:∀{v t},Rt w.z v t→b5 n t=true→Rd w.h n v t){xs:List V}{ts:List T}(f:F2 (Rt w.z) xs ts)(r:ts.all (b5 n)=true):F2 (Rd w.h n) xs ts:=by
 induction f with
 | nil=>exact .nil
 | cons h _ ih2=>
  rw[RO,NY]at r;exact .cons (ih h r.1) (ih2 r.2)
theorem dR.rd{H:AH}{n:Nat}(ih:∀{v t},Rt w.z v t→b5 n t=true→Rd w.h n v t){xs:List (Str×V)}{ts:List (Str×T)}(f:dR (Rt w.z) xs ts)(r:ts.all (fun p=>b5 n p.2)=true):F2 (fun p q=>p.1=q.1∧Rd w.h n p.2 q.2) xs ts:=by
 induction f with
 | nil=>exact .nil
 | cons h _ ih2=>
  rw[RO,NY]at r;exact .cons ⟨rfl,ih h r.1⟩ (ih2 r.2)
theorem tz{n:Nat}(ih:∀{v t},Rt w.z v t→b5 n t=true→Rd w.h n v t)(h:Rh w v t)(r:b5 (n+1) t=true):Rd w.h (n+1) v t:=by
 induction t using T.casesOn with
 | leaf u=>rw[show v=u from h];exact ⟨r,rfl⟩
 | list ts=>obtain ⟨a,xs,e,g,_,f⟩:=h;exact ⟨a,xs,e,g,f.rd (H:=w.h) ih r⟩
 | tup ts=>obtain ⟨a,xs,e,g,_,f⟩:=h;exact ⟨a,xs,e,g,f.rd (H:=w.h) ih r⟩
 | dict ts=>obtain ⟨a,xs,ep,e,g,_,f⟩:=h;exact ⟨a,xs,ep,e,g,f.rd (H:=w.h) ih r⟩
 | inst=>exact (Nt r).elim
theorem Dg(zs:∀a o,w.z a=some o→w.h a=some o∧o.isC=false):∀n {v t},Rt w.z v t→b5 n t=true→Rd w.h n v t:=by
 intro n
 induction n with
 | zero=>exact fun {v t} h=>Rt.casesOn (motive_1:=fun v t ζ=>b5 0 t=true→Rd w.h 0 v t) h (fun ζ r=>⟨r,rfl⟩) (fun ζ ζ ζ=>(fun h=>by exact (Nt h).elim)) (fun ζ ζ ζ=>(fun h=>by exact (Nt h).elim)) (fun ζ ζ ζ=>(fun h=>by exact (Nt h).elim)) fun ζ ζ=>(fun h=>by exact (Nt h).elim)
 | succ n ih=>exact fun h r=>tz ih (h.hd zs) r
theorem p9(h:Rh w v t)(s:t.isSeq=true):∃a,v=.ref a:=by
 induction t using T.casesOn with
 | list=>obtain ⟨a,_,e,_⟩:=h;exact ⟨a,e⟩
 | tup=>obtain ⟨a,_,e,_⟩:=h;exact ⟨a,e⟩
 | _=>exact (Nt s).elim
theorem Fh(I:aV Γ w C W)(hx:VR w v x)(hy:VR w u y)(m:∀b,kb b→kb' b)(h:GO x y W kb):yF v u w.h kb':=by
 unfold GO at h;unfold yF;rw[qC hx,qC hy];refine aw (o:=aF (bW x)&&aF (bW y)) (fun e=>?_) (fun e=>?_)
 ·
  rw[e]at h;have e1:=aa e;rw[uF hx e1.1,uF hy e1.2]at h;exact m _ h
 ·
  rw[e]at h
  induction h with
  | ts g q=>obtain rfl:=aP hy;refine zy I.toCr hx g fun ζ ζ g ζ ζ=>?_;exact .ts g (m _ q)
  | nil g g' e2 q=>
   refine ql I.toCr hx g fun ζ ζ g ζ f=>?_;refine ql I.toCr hy g' fun ζ ζ g' ζ f'=>?_;exact .nil g g' (e2.imp f.em.1.mpr f'.em.1.mpr) (m _ (by rw[f.em.2,f'.em.2];exact q))
  | same g g' s r q=>
   have r1:=lL I.toCr hx g;have r2:=lL I.toCr hy g';obtain ⟨_,rfl⟩:=p9 r1 s;obtain ⟨_,rfl⟩:=p9 r2 s;exact .tree _ s (tz (Dg I.zs 7) r1 r) (tz (Dg I.zs 7) r2 r) (m _ q)
end
end
section
section
variable{Γ:Gm}{w w' w'':Wd}{C:UL}{W W':UW}{v u:V}{x y z:UV}{a n:Addr}{o o':WO}{b:O}{j:Nat}{t:T}{k:KU}{Q:Q1}{vs:List V}{xs:List UV}{ts:List T}{kb kb':Bool→Prop}{kt:T→Prop}{ks:UW→Prop}{Qv Qv':V→Prop}{Qh:AH→Prop}{c:Cx}
theorem gQ{Z:AH}{xs ys:List V}(f:F2 (Rt Z) xs (ys.map .leaf)):xs=ys:=by
 generalize e:ys.map T.leaf=ts at f
 induction f generalizing ys with
 | nil=>exact (List.map_eq_nil_iff.mp e).symm
 | cons h _ ih=>
  induction ys using List.casesOn with
  | nil=>injection e
  | cons y r=>
   injection e with e zz;subst e;subst zz;rw[ih rfl];cases h;rfl
theorem EV(I:aV Γ w C W)(hx:VR w v x)(hy:VR w u y)(m:∀b,kb b→kb' b)(h:mF W kb x y):Ba w.h kb' v u:=by
 induction h with
 | in_lst e f g q=>obtain rfl:=aP hx;refine ql I.toCr hy e fun ζ ζ h l r=>?_;cases gQ r;exact .in_lst h f g l (m _ q)
 | in_tup e f g q=>obtain rfl:=aP hx;refine zy I.toCr hy e fun ζ ζ h l r=>?_;cases gQ r;exact .in_tup h f g l (m _ q)
 | in_sd e q=>obtain rfl:=aP hx;refine D4 I.toCr hy e fun ζ ζ ζ h l r=>?_;exact .in_sd h (m _ (r.any▸q))
 | in_id e q=>obtain rfl:=aP hx;induction hy with | mk hj=>obtain ⟨_,_,h,l,r⟩:=I.ow _ _ _ hj e;exact .in_id h (m _ (r.any▸q))
theorem Fv{op:CmpOp}(I:aV Γ w C W)(hx:VR w v x)(hy:VR w u y)(m:∀b,kb b→kb' b)(h:cF op x y W kb):c8 op v u w.h kb':=by
 induction op using PySem.CmpOp.casesOn with
 | Is=>exact tM hy (m _) (tN hx▸h)
 | IsNot=>exact tM hy (m _) (tN hx▸h)
 | Lt=>exact jx hx hy (fun ζ ζ=>m _) h
 | LtE=>exact jx hx hy (fun ζ ζ=>m _) h
 | Gt=>exact jx hx hy (fun ζ ζ=>m _) h
 | GtE=>exact jx hx hy (fun ζ ζ=>m _) h
 | Eq=>exact Fh I hx hy m h
 | NotEq=>exact Fh (kb:=fun r=>kb (!r)) I hx hy (fun ζ=>m _) h
 | In=>exact EV I hx hy m h
 | NotIn=>exact EV (kb:=fun r=>kb (!r)) I hx hy (fun ζ=>m _) h
theorem Rt.nb{Z:AH}(h:Rt Z v t):v.isBi=false:=Rt.casesOn (motive_1:=fun v ζ ζ=>v.isBi=false) h (fun {v} h=>by induction v using V.casesOn<;>first | rfl | exact (Nt h).elim) (fun ζ ζ ζ=>rfl) (fun ζ ζ ζ=>rfl) (fun ζ ζ ζ=>rfl) fun ζ ζ=>rfl
theorem VR.nb(h:VR w v x)(n:x.isV=false):v.isBi=false:=by
 induction x using UV.casesOn with
 | t t=>exact Rt.nb h
 | v=>exact (Nt n.symm).elim
 | w=>induction h;rfl
 | k=>induction h;rfl
inductive VF(w:Wd)(k:Str)(l:Addr)(va:V)(lo:Bool)(x:Str)(y:UV):Prop
 | mk(v:V)(e:(kx k l va lo).lookup x=some v)(g:bO x=false)(b:v.isBi=false)(h:VR w v y)
theorem VF.el{w:Wd}{k:Str}{l:Addr}{va:V}{lo:Bool}{x:Str}{y:UV}{P_:Prop}(h_:VF w k l va lo x y)(k_:∀(v:V) (e:(kx k l va lo).lookup x=some v) (g:bO x=false) (b:v.isBi=false) (h:VR w v y),P_):P_:=VF.rec (motive:=fun ζ=>P_) k_ h_
theorem y6{k:Str}{l:Addr}{va:V}{it at_:UV}{lo:Bool}{nm:Str}(hi:VR w (.ref l) it)(ha:VR w va at_)(hb:va.isBi=false)(e:Bv k it at_ lo nm=some y):VF w k l va lo nm y:=by
 have h:∀(s:Str) (p:UV) (r:List (Str×UV)),OB nm ((s,p)::r)=some y→(nm=s∧p=y)∨OB nm r=some y:=fun s p r h=>by
  rw[NK]at h;refine aw (o:=nm==s) (fun e=>?_) (fun e=>?_)
  ·rw[e]at h;exact .inl ⟨eq_of_beq e,Option.some.inj h⟩
  ·rw[e]at h;exact .inr h
 rcases h _ _ _ e with ⟨rfl,rfl⟩ | e
 ·exact ⟨_,by ac_rfl,by ac_rfl,rfl,.leaf rfl⟩
 rcases h _ _ _ e with ⟨rfl,rfl⟩ | e
 ·exact ⟨_,by ac_rfl,by ac_rfl,rfl,hi⟩
 rcases h _ _ _ e with ⟨rfl,rfl⟩ | e
 ·exact ⟨_,by ac_rfl,by ac_rfl,hb,ha⟩
 rcases h _ _ _ e with ⟨rfl,rfl⟩ | e
 ·exact ⟨_,by ac_rfl,by ac_rfl,rfl,.leaf rfl⟩
 ·exact ac e
theorem FU{nm:Str}{ku:UV→Prop}(I:aV Γ w C W)(hx:VR w v x)(h:ew c nm W ku x)(q:∀v y,ku y→VR w v y→Qv v):getA c v nm w.h Qv:=by
 induction h with
 | mk e f g l h=>
  refine D5 I.toCr hx e fun ζ ζ e r=>?_;refine Nz (r.look l) fun v' zz=>NO (fun e' hr=>?_) (zz);exact .getA_of e f g e' hr.nb (q _ (.t _) h hr)
 | own e f nb l h=>
  induction hx with | mk hj=>
  refine (I.ow _ _ _ hj e).el fun ζ ζ ζ g hi ha=>?_;refine (y6 hi ha (ha.nb nb) l).el fun v' e' g' b hr=>?_;exact .getA_of g f g' e' b (q _ _ h hr)
theorem y5{k:Str}{l:Addr}{va v:V}{lo:Bool} : dG (kx k l va lo) (No "attrs") (if bO (No "attrs") then .oth else v)=kx k l v lo:=by ac_rfl
theorem y4{k:Str}{l:Addr}{va:V}{lo b:Bool} : dG (kx k l va lo) (No "loose") (if bO (No "loose") then .oth else .bool b)=kx k l va b:=by ac_rfl
theorem Ct{fs fs':List (Str×V)}{s:Str}(h:w.h a=some (.inst CV fs))(f:c.fld CV s=true)(l:fs.length≤100)(e:dG fs s (if bO s then .oth else v)=fs')(q:Qh (upd w.h a (.inst CV fs'))):setA c (.ref a) s v w.h Qh:=.setA_of h f l (e▸q)
theorem zE(h:t.isOth=true):t=.leaf .oth:=by
 cases t with
 | leaf u=>cases u<;>first | rfl | cases h
 | _=>cases h
theorem HC{R:V→T→Prop}{es ts}{s:Str}(k:∀v,R v (.leaf .oth)→v=.oth)(r:dR R es ts)(b:ts.all (fun p=>!decide (p.1=s)||p.2.isOth)=true):es.map (fun p=>if p.1=s then (p.1,V.oth) else p)=es:=by
 induction r with
 | nil=>rfl
 | @cons k' v t es ts h _ ih=>
  rw[RO]at b;have b:=aa b;rw[NT,ih b.2];refine Nw (· :: es) ((ite_congr rfl (fun e=>?_) fun ζ=>rfl).trans (ite_self _));have b:=b.1;rw[NF e]at b;rw[k v (zE b▸h)]
theorem HD{es ts}(r:dR (Rt w.z) es ts)(b:(ts.any (fun p=>decide (p.1=No "shared"))&&ts.all (fun p=>!decide (p.1=No "shared")||p.2.isOth))=true):dG es (No "shared") (if bO (No "shared") then .oth else u)=es:=by
 rw[show bO (No "shared")=true by ac_rfl,if_pos rfl];unfold dG;rw[r.any,(aa b).1,if_pos rfl];exact HC (fun v h=>by cases h;rfl) r (aa b).2
theorem Cw{nm:Str}(I:aV Γ w C W)(hx:VR w v x)(hy:VR w u y)(h:sj c W ks nm y x)(q:KS Γ C w ks Qh):setA c v nm u w.h Qh:=by
 have l5:∀{k l va lo},(kx k l va lo).length≤100:=fun {_ _ _ _}=>NJ rfl
 induction h with
 | at_ e f h=>
  induction hx with | mk hj=>
  obtain ⟨_,_,z,g,hi,ha⟩:=I.ow _ _ _ hj e;obtain ⟨I',E⟩:=I.set (o:=.v _ _ _ _) hj z fun E=>⟨_,_,z,aj _ _ _,hi.go E,hy.go E⟩;exact Ct g f l5 y5 (q _ _ h I' E)
 | lo e f h=>
  induction hx with | mk hj=>
  obtain ⟨_,_,z,g,hi,ha⟩:=I.ow _ _ _ hj e;obtain ⟨I',E⟩:=I.set (o:=.v _ _ _ _) hj z fun E=>⟨_,_,z,aj _ _ _,hi.go E,ha.go E⟩;rw[show u=_ from aP hy];exact Ct g f l5 y4 (q _ _ h I' E)
 | shT e f b h=>
  refine D5 I.toCr hx e fun ζ ζ g r=>?_;exact .setA_of g f (r.len▸NJ (aa b).2) ((HD r (aa b).1).symm▸(sH g).symm▸q _ _ h I .refl)
theorem yi{xs:List T}{P:Prop}(h:zN xs kt v)(p:∀(n:Nat) (t:T),v=.int n→cq xs n=some t→kt t→P):P:=by
 induction v using V.casesOn with
 | int i=>
  induction i using Int.casesOn with
  | ofNat n=>exact dm (o:=cq xs n) h fun t e q=>p n t rfl e q
  | negSucc n=>exact h.elim
 | _=>exact h.elim
theorem uj(I:aV Γ w C W)(hx:VR w v x)(hy:VR w u y)(h:jT W kt x y)(q:∀v t,kt t→Rt w.z v t→Qv v):nw v u w.h Qv:=by
 induction h with
 | str h0 h1 l h=>obtain rfl:=aP hx;obtain rfl:=aP hy;exact .item_str h0 h1 l (q _ _ h (.leaf rfl))
 | dict e l h=>
  obtain rfl:=aP hy;refine D4 I.toCr hx e fun ζ ζ ζ g ζ f=>?_;refine Nz (f.look l) fun v' zz=>NO (fun e' r=>?_) (zz);exact .item_dict g e' (q _ _ h r)
 | idict e l h=>
  obtain rfl:=aP hy
  induction hx with | mk hj=>
  refine (I.ow _ _ _ hj e).el fun ζ ζ g ζ f=>?_;refine Nz (f.look l) fun v' zz=>NO (fun e' r=>?_) (zz);exact .item_idict g e' (q _ _ h r)
theorem Ao(I:aV Γ w C W)(hx:VR w v x)(hy:VR w u y)(h:ed x y W kt)(q:∀v t,kt t→Rt w.z v t→Qv v):nw v u w.h Qv:=by
 unfold ed at h;refine ay (o:=pk W x) (fun e=>?_) fun t e=>?_
 ·rw[e]at h;exact uj I hx hy h q
 rw[e]at h
 induction t using T.casesOn with
 | tup ts=>
  refine yi h fun n t e1 e2 h=>?_;obtain rfl:=z6 hy e1;refine zy I.toCr hx e fun ζ ζ g l f=>?_;refine Nz (f.nth e2) fun v' zz=>NO (fun e3 r=>?_) (zz);exact .item_tup g l (NB _) e3 (q _ _ h r)
 | list ts=>
  refine ql I.toCr hx e fun ζ ys g l f=>?_;unfold wP at h;by_cases w:bW y=.int (-1)
  ·rw[NF w]at h;obtain rfl:=z6 hy w;refine dm (o:=cq ts (ts.length-1)) h fun t e2 h=>?_;refine Nz (f.nth e2) fun v' zz=>NO (fun e3 r=>?_) (zz);have hl:=NV (Ol _) (List.getElem?_eq_some_iff.mp e3).1;have hl':(0:Int)≤-1+(ys.length:Int):=by rw[Sg];exact PJ (Int.ofNat_le.mpr hl)
   have e4:(-1+(ys.length:Int)).toNat=ts.length-1:=by rw[← f.len,Sg];exact QO _ 1
   exact .item_listN g l (by decide) hl' (e4▸e3) (q _ _ h r)
  ·rw[Ny w]at h;refine yi h fun n t e1 e2 h=>?_;obtain rfl:=z6 hy e1;refine Nz (f.nth e2) fun v' zz=>NO (fun e3 r=>?_) (zz);exact .item_list g l (NB _) e3 (q _ _ h r)
 | _=>exact uj I hx hy h q
theorem qx{Z:AH}(is:List V)(h:∀v∈is,lf v=true):F2 (Rt Z) is (is.map .leaf):=by
 induction is with
 | nil=>exact .nil
 | cons v r ih=>exact .cons (.leaf (h v (.head _))) (ih fun v hv=>h v (.tail _ hv))
theorem ul{Z:AH}(is:List Int):F2 (Rt Z) (is.map .int) (is.map fun i=>.leaf (.int i)):=by
 induction is with
 | nil=>exact .nil
 | cons v r ih=>exact .cons (.leaf rfl) ih
theorem Cs(I:aV Γ w C W){v1:V}(hx:VR w v x)(hy:VR w u y)(hz:VR w v1 z)(h:hO c W k x y z)(q:KV Γ C w k Q):lD c v u v1 w.h Q:=by
 induction h with
 | str h e e' g=>obtain rfl:=aP hx;obtain rfl:=aP hy;obtain rfl:=aP hz;exact .slc_str h e e' (q.lf I g rfl)
 | lst e h0 g=>
  obtain rfl:=aP hy;obtain rfl:=aP hz;refine ql I.toCr hx e fun ζ ζ h l f=>?_;exact .slc_ h l h0 (q.newL I g (Np (Tn _ _) (f.len'▸l)) (f.take _))
 | arg e l h0 g=>
  obtain rfl:=aP hy;obtain rfl:=aP hz;induction hx;have e2:c.argXs.size=(c.argXs.toList.map er).length:=by rw[Nq];rfl
  refine .slc_arg (by rw[e2,e,Nq];exact Np l (by decide)) h0 (q.newL I g (Np (Tn _ _) (by rw[Nq];exact Np l (by decide))) ?_);rw[e];exact (ul _).take _
theorem yp{nm:Str}(I:aV Γ w C W)(hx:VR w v x)(m:∀f,Qv f→lf f=false→Qv' f)(h:jS c W Qv nm x):np c v nm w.h Qv':=by
 induction h with
 | rjust q=>rw[aP hx];exact .m_rjust (m _ q rfl)
 | join q=>rw[aP hx];exact .m_join (m _ q rfl)
 | tup e q=>refine zy I.toCr hx e fun ζ ζ h ζ ζ=>?_;exact .m_tup h (m _ q rfl)
 | dict e q=>refine D4 I.toCr hx e fun ζ ζ ζ h ζ ζ=>?_;exact .m_dict h (m _ q rfl)
 | inst e n f q=>refine D5 I.toCr hx e fun ζ ζ h r=>?_;exact .m_own h (r.lookN n) f (m _ q rfl)
theorem Ei{nm:Str}(I:aV Γ w C W)(hx:VR w v x)(m:∀f,Qv f→lf f=false→Qv' f)(h:rz c W Qv nm x):np c v nm w.h Qv':=by
 unfold rz at h;refine ay (o:=pk W x) (fun e=>?_) (fun t e=>?_)
 ·rw[e]at h;exact yp I hx m h
 ·
  rw[e]at h
  induction t using T.casesOn with
  | list ts=>
   refine dm h fun id e2 h=>?_;refine ql I.toCr hx e fun ζ ζ g ζ ζ=>?_;exact .m_list g e2 (m _ h rfl)
  | _=>exact yp I hx m h
end
end
section
section
variable{R:V→T→Prop}{v:V}{t:T}{es:List (Str×V)}{ts:List (Str×T)}
theorem jV.len{es ts}(h:jV R es ts):es.length=ts.length:=by
 induction h with
 | nil=>rfl
 | cons _ _ ih=>exact Nw (· + 1) ih
theorem dR.key{s:Str}(h:dR R es ts)(l:R .none (.leaf .none)):R ((es.lookup s).getD .none) ((ts.lookup s).getD (.leaf .none)):=by
 induction h with
 | nil=>exact l
 | cons h _ ih=>
  rw[NK,NK];split
  ·exact h
  ·exact ih
theorem F2.rev{xs ts}(h:F2 R xs ts):F2 R xs.reverse ts.reverse:=by
 induction h with
 | nil=>exact .nil
 | cons h _ ih=>rw[PE,PE];exact ih.app (.cons h .nil)
theorem F2.dropLast{xs ts}(h:F2 R xs ts):F2 R xs.dropLast ts.dropLast:=by
 induction h with
 | nil=>exact .nil
 | cons h r ih=>induction r with
  | nil=>exact .nil
  | cons h' r=>exact .cons h ih
theorem F2.last{xs ts}(h:F2 R xs ts)(e:ts.getLast? = some t):∃v,xs.getLast? = some v∧R v t:=by
 induction h with
 | nil=>exact ac e
 | cons h r ih=>induction r with
  | nil=>injection e with e;subst e;exact ⟨_,rfl,h⟩
  | cons h' r=>exact ih e
inductive Ni{α β:Type}(R:α→β→Prop)(vs:List α)(x:β):Prop
 | mk(v:α)(e:vs=[v])(h:R v x)
inductive Nb{α β:Type}(R:α→β→Prop)(vs:List α)(x y:β):Prop
 | mk(v w:α)(e:vs=[v,w])(h:R v x)(h':R w y)
theorem F2.c1{α β:Type}{R:α→β→Prop}{vs:List α}{x:β}(h:F2 R vs [x]):Ni R vs x:=by
 cases h with | cons h r=>cases r;exact ⟨_,rfl,h⟩
theorem F2.c2{α β:Type}{R:α→β→Prop}{vs:List α}{x y:β}(h:F2 R vs [x,y]):Nb R vs x y:=by
 cases h with | cons h r=>
 obtain ⟨w,rfl,h'⟩:=r.c1;exact ⟨_,_,rfl,h,h'⟩
@[elab_as_elim] theorem rV{α β:Type}{R:α→β→Prop}{vs:List α}{x:β}{P:List α→Prop}(h:F2 R vs [x])(k:∀v,R v x→P [v]):P vs:=by obtain ⟨v,rfl,h1⟩:=h.c1;exact k v h1
@[elab_as_elim] theorem sr{α β:Type}{R:α→β→Prop}{vs:List α}{x y:β}{P:List α→Prop}(h:F2 R vs [x,y])(k:∀v w,R v x→R w y→P [v,w]):P vs:=by obtain ⟨v,w,rfl,h1,h2⟩:=h.c2;exact k v w h1 h2
end
section
variable{Γ:Gm}{w w' w'':Wd}{C:UL}{W W':UW}{v u:V}{x y z:UV}{a n:Addr}{o o':WO}{b:O}{j:Nat}{t:T}{k:KU}{Q:Q1}{vs:List V}{xs:List UV}{ts:List T}{kb kb':Bool→Prop}{kt:T→Prop}{ks:UW→Prop}{Qv Qv':V→Prop}{Qh:AH→Prop}{c:Cx}{d:Nat}{E:XP}
theorem xb{Z:AH}{xs:List V}{is:List Int}(f:F2 (Rt Z) xs (is.map fun i=>.leaf (.int i))):xs=is.map .int:=
 gQ (Z:=Z) (by rw[Oc];exact f)
theorem sV:∀ss:List Str,fB (ss.map .str)=some ss
 | []=>rfl
 | s::r=>by show (fB (r.map V.str)).map (s :: ·)=_;rw[sV r];rfl
theorem vS{Z:AH}{xs:List V}{ss:List Str}(f:F2 (Rt Z) xs (ss.map fun i=>.leaf (.str i))):fB xs=some ss:=by
 rw[show xs=ss.map .str from gQ (Z:=Z) (by rw[Oc];exact f)];exact sV ss
theorem kK{lo hi:Int} : ∀v∈aW lo hi,lf v=true:=fun v hv=>by
 obtain ⟨i,_,rfl⟩:=List.mem_map.mp hv;rfl
theorem kJ{lo hi:Int}(h:yc lo hi):((aW lo hi).map T.leaf).length≤100000:=by
 show (PU _ (PU _ _)).length≤_;rw[Nq,Nq,OC];exact h.2.2.2.2
theorem nW(hx:VR w v (.v u)):v=u:=by induction hx;rfl
inductive Nh(Γ:Gm)(w:Wd)(C:UL)(W:UW)(j:Nat)(v:V)(ts:List T):Prop
 | mk(a:Addr)(xs:List V)(e:v=.ref a)(hj:w.A[j]? = some a)(n:w.z a=none)(h:w.h a=some (.list xs))(l:xs.length≤100000)(f:F2 (Rt w.z) xs ts)
  (s:∀ys zs,F2 (Rt w.z) ys zs→zs.length≤100000→aV Γ ⟨w.z,upd w.h a (.list ys),w.A⟩ C (ar W j (.l zs))∧Ex w ⟨w.z,upd w.h a (.list ys),w.A⟩)
theorem m8{ts:List T}(I:aV Γ w C W)(hx:VR w v (.w j))(e:af W j=some (.l ts)):Nh Γ w C W j v ts:=by
 induction hx with | mk hj=>
 obtain ⟨_,n,h,l,f⟩:=I.ow _ _ _ hj e;exact ⟨_,_,rfl,hj,n,h,l,f,fun ys zs fy l=>I.set (o:=.l zs) hj n fun E=>⟨ys,n,aj _ _ _,fy.len'▸l,fy⟩⟩
theorem zC{ys:List T}(I:aV Γ w C W)(hj:w.A[j]? = some a)(n:w.z a=none)(hx:VR w (.ref a) x)(e:pk W x=some (.list ys)):x=.w j:=by
 induction x with
 | t t=>obtain ⟨b,g⟩:=Rt.at_ hx;exact ac (n.symm.trans g)
 | v=>exact ac e
 | k=>exact ac e
 | w i=>obtain ⟨h⟩:=hx;rw[g9 I.nd h hj]
theorem JK{f:V}(I:aV Γ w C W)(hv:F2 (VR w) vs xs)(h:bL c W k f xs)(q:KV Γ C w k Q):eg c d f vs w.h Q E:=by
 induction h with
 | len e g=>refine rV hv fun v hx=>?_;refine ql I.toCr hx e fun ζ ζ h l r=>?_;exact .len_l h l (q.lf I (r.len'▸g) rfl)
 | lenI e g=>refine rV hv fun v hx=>?_;induction hx with | mk hj=>obtain ⟨_,_,h,l,r⟩:=I.ow _ _ _ hj e;exact .len_i h l (q.lf I (r.len▸g) rfl)
 | lenS l g=>refine rV hv fun v hx=>?_;rw[aP hx];exact .len_x l (q.lf I g rfl)
 | isC e o g=>refine sr hv fun v w hx hy=>?_;rw[nW hy];refine D5 I.toCr hx e fun ζ ζ h ζ=>?_;exact .isC h o (q.lf I g rfl)
 | isS g=>refine sr hv fun v w hx hy=>?_;rw[nW hy,aP hx];exact .isS (q.lf I g rfl)
 | isI e o g=>refine sr hv fun v w hx hy=>?_;rw[nW hy];refine D5 I.toCr hx e fun ζ ζ h ζ=>?_;exact .isI h o (q.lf I g rfl)
 | isT e g=>refine sr hv fun v w hx hy=>?_;rw[nW hy];refine zy I.toCr hx e fun ζ ζ h ζ ζ=>?_;exact .isT h (q.lf I g rfl)
 | max2 g=>refine sr hv fun v w hx hy=>?_;rw[aP hx,aP hy];exact .max2 (q.lf I g rfl)
 | max1 e h3 g=>refine rV hv fun v hx=>?_;refine ql I.toCr hx e fun ζ ζ h l r=>?_;cases xb r;exact .max1 h rfl h3 (by rwa [Nq]at l) fun M h1 h2=>q.lf I (g M h1 h2) rfl
 | abs g=>refine rV hv fun v hx=>?_;rw[aP hx];exact .abs_ (q.lf I g rfl)
 | chr h h' g=>refine rV hv fun v hx=>?_;rw[aP hx];exact .chr_ h h' (q.lf I g rfl)
 | append e g l q'=>
  refine sr hv fun v u hx hy=>?_;obtain ⟨_,I',E',r⟩:=eJ I hy e;obtain ⟨a,xs,rfl,_,n,h,l',f,st⟩:=m8 I' (hx.go E') g;obtain ⟨I2,E2⟩:=st _ _ (f.app (.cons r .nil)) (by rw[NH];exact l);exact .append_ h l' (q _ _ _ _ q' I2 (E'.trans E2) (.leaf rfl))
 | extend g e n l q'=>
  refine sr hv fun v u hx hy=>?_;obtain ⟨b,ys,rfl,g2,l2,f2⟩:=lL I.toCr hy e;obtain ⟨a,xs,rfl,hj,z,h,l',f,st⟩:=m8 I hx g;obtain ⟨I2,E2⟩:=st _ _ (f.app f2) (by rw[NH];exact l);exact .extend_ h g2 (fun w=>n (zC I hj z (w▸hy) e)) (by rw[f.len',f2.len'];exact l) (q _ _ _ _ q' I2 E2 (.leaf rfl))
 | reverse g q'=>
  refine rV hv fun v hx=>?_;obtain ⟨a,xs,rfl,_,z,h,l,f,st⟩:=m8 I hx g;obtain ⟨I2,E2⟩:=st _ _ f.rev (by rw[Tv];exact f.len'▸l);exact .reverse_ h l (q _ _ _ _ q' I2 E2 (.leaf rfl))
 | pop e g q'=>
  refine rV hv fun v hx=>?_;obtain ⟨a,xs,rfl,_,z,h,l,f,st⟩:=m8 I hx e;obtain ⟨v,e2,hr⟩:=f.last g;obtain ⟨I2,E2⟩:=st _ _ f.dropLast (by rw[List.length_dropLast];exact Np (Nat.sub_le _ _) (f.len'▸l));exact .pop_ h l e2 (q _ _ _ _ q' I2 E2 hr)
 | index e f g i h'=>refine sr hv fun v w hx hy=>?_;rw[aP hy];refine ql I.toCr hx e fun ζ ζ h l r=>?_;cases gQ r;exact .index_ h f g l i (q.lf I h' rfl)
 | indexT e f g i h'=>refine sr hv fun v w hx hy=>?_;rw[aP hy];refine zy I.toCr hx e fun ζ ζ h l r=>?_;cases gQ r;exact .indexT_ h f g l i (q.lf I h' rfl)
 | get e g=>refine sr hv fun v w hx hy=>?_;rw[aP hy];refine D4 I.toCr hx e fun ζ ζ ζ h l r=>?_;exact .get_ h (q.tr I g (r.key (.leaf rfl)))
 | rjust h1 h2 h3 l g=>cases hv with | cons hx hv=>obtain ⟨v,w,rfl,hy,hz⟩:=hv.c2;rw[aP hx,aP hy,aP hz];exact .rjust_ h1 h2 h3 l (q.lf I g rfl)
 | join e j l g=>refine sr hv fun v w hx hy=>?_;rw[aP hx];refine ql I.toCr hy e fun ζ ζ h ζ r=>?_;exact .join_ h (vS r) j l (q.lf I g rfl)
 | list e g=>refine rV hv fun v hx=>?_;refine ql I.toCr hx e fun ζ ζ h l r=>?_;exact .list_ h l (q.newL I g (r.len'▸l) r)
 | listR g=>refine rV hv fun v hx=>?_;induction hx with | mk h o=>exact .listR (I.zs _ _ h).1 o.1 o.2.1 o.2.2.1 o.2.2.2.1 (q.newL I g (kJ o) (qx _ kK))
 | dict e g=>refine rV hv fun v hx=>?_;refine D4 I.toCr hx e fun ζ ζ ζ h l r=>?_;exact .dict_ h l fun ep=>q.new (o:=.d _) I g fun w' n E z e=>⟨_,_,z,e,l,r.imp fun ζ ζ h=>h.go E.z⟩
 | rng1 h h' g=>refine rV hv fun v hx=>?_;rw[aP hx];exact .rng1 h h' (q.kp I g rfl fun w' n E e=>⟨e,by decide,by decide,h',h,Int.toNat_le.mpr (by rw[Tk];exact h')⟩)
 | rng2 h h0 h1 h' g=>refine sr hv fun v w hx hy=>?_;rw[aP hx,aP hy];exact .rng2 (NC (by decide) h) h0 h1 h' (q.kp I g rfl fun w' n E e=>⟨e,NC (by decide) h,h0,h',h1,Int.toNat_le.mpr (NC (P2 _ h) h')⟩)
 | str h g=>refine rV hv fun v hx=>?_;rw[aP hx];exact .str_ h (q.lf I g rfl)
end
end
section
theorem yu:∀{js:List Nat}{j i:Nat},bV js j=some i→js[i]? = some j
 | k::r,j,i,h=>by
  have h:(bif O8 k j then some 0 else (bV r j).map (· + 1))=some i:=h;refine aw (o:=O8 k j) (fun e=>?_) (fun e=>?_)
  ·replace h:=(e)▸h;injection h with h;subst h;rw[OG e];rfl
  ·
   replace h:=(e)▸h;obtain ⟨i',h',rfl⟩:=Option.map_eq_some_iff.mp h;exact yu (js:=r) h'
theorem qv:∀{js:List Nat}{j:Nat},bV js j=none→j ∉ js
 | k::r,j,h,m=>by
  have h:(bif O8 k j then some 0 else (bV r j).map (· + 1))=none:=h;refine aw (o:=O8 k j) (fun e=>?_) (fun e=>?_)
  ·rw[e]at h;exact (NN _ h).elim
  ·
   rw[e]at h;rcases List.mem_cons.mp m with rfl | m
   ·rw[Tj]at e;exact NG e
   ·exact qv (Option.map_eq_none_iff.mp h) m
theorem yn:∀{js:List Nat},nk js=true→js.Nodup
 | [],_=>.nil
 | j::r,h=>List.nodup_cons.mpr ⟨qv (Option.isNone_iff_eq_none.mp (aa h).1),yn (aa h).2⟩
noncomputable def selA(A:List Addr)(js:List Nat):List Addr:=js.map fun j=>A[j]?.getD 0
section
variable{Γ:Gm}{w w' w'':Wd}{C:UL}{W W':UW}{v u:V}{x y z:UV}{a n:Addr}{o o':WO}{b:O}{j:Nat}{t:T}{k:KU}{Q:Q1}{vs:List V}{xs:List UV}{ts:List T}{js ks:List Nat}
theorem o0{A:List Addr}{i:Nat}(h:js[i]? = some j)(e:A[j]? = some a):(selA A js)[i]? = some a:=by
 unfold selA;rw[Pd,h];exact Nw some (show A[j]?.getD 0=a by rw[e];rfl)
abbrev Wd.sel(w:Wd)(js:List Nat):Wd:=⟨w.z,w.h,selA w.A js⟩
theorem qc(h:VR w v x)(e:qd js x=some y):VR (w.sel js) v y:=by
 induction x with
 | t=>injection e with e;subst e;exact h
 | v=>injection e with e;subst e;exact h
 | k=>injection e with e;subst e;induction h with | mk h q=>exact ⟨h,q⟩
 | w j=>
  obtain ⟨i,e',rfl⟩:=Option.map_eq_some_iff.mp e
  induction h with | mk h=>exact ⟨o0 (yu e') h⟩
theorem Dd(h:WR w a o)(e:yd js o=some o'):WR (w.sel js) a o':=by
 induction o with
 | l=>injection e with e;subst e;obtain ⟨_,n,g,l,f⟩:=h;exact ⟨_,n,g,l,f⟩
 | d=>injection e with e;subst e;obtain ⟨_,_,n,g,l,f⟩:=h;exact ⟨_,_,n,g,l,f⟩
 | i=>injection e with e;subst e;obtain ⟨_,n,g,l,f⟩:=h;exact ⟨_,n,g,l,f⟩
 | z=>injection e with e;subst e;exact h
 | p=>injection e with e;subst e;obtain ⟨_,n,g,t,f⟩:=h;exact ⟨_,n,g,t,f⟩
 | v=>
  refine (aR e).el fun x e1 e=>?_;refine (aR e).el fun y e2 e=>?_;injection e with e;subst e;refine (h).el fun ζ ζ n h hi ha=>?_;exact ⟨_,_,n,h,qc hi e1,qc ha e2⟩
theorem lA:∀{ks:List Nat}{W':UW},bX js ks W=some W'→W'.length=ks.length
 | [],_,e=>by injection e with e;subst e;rfl
 | _::_,_,e=>by
  refine (aR e).el fun ζ ζ e=>?_;refine (aR e).el fun ζ ζ e=>?_;refine (aR e).el fun ζ e3 e=>?_;injection e with e;subst e;exact Nw (· + 1) (lA e3)
theorem oS:∀{ks:List Nat}{W':UW}{i:Nat},bX js ks W=some W'→af W' i=some o'→∃j o,ks[i]? = some j∧af W j=some o∧yd js o=some o'
 | [],_,_,e,h=>by injection e with e;subst e;exact ac h
 | j::r,_,i,e,h=>by
  refine (aR e).el fun o e1 e=>?_;refine (aR e).el fun o2 e2 e=>?_;refine (aR e).el fun W2 e3 e=>?_;injection e with e;subst e;rcases i with _ | i
  ·injection h with h;subst h;exact ⟨j,o,rfl,e1,e2⟩
  ·exact oS (ks:=r) (i:=i) e3 h
theorem ja{A:List Addr}{i:Nat}(l:∀j∈js,j<A.length)(h:(selA A js)[i]? = some a):∃j,js[i]? = some j∧A[j]? = some a:=by
 unfold selA at h;rw[Pd]at h;refine Nz (Option.map_eq_some_iff.mp h) fun j zz=>NO (fun hj e=>?_) (zz);have g:=NI (l j (OP hj));rw[g]at e;exact ⟨j,hj,g.trans (Nw some e)⟩
theorem vR(e:bX js js W=some W'):∀j∈js,j<W.length:=fun j h=>by
 obtain ⟨i,hi,rfl⟩:=Pq h;have hl:i<W'.length:=lA e▸hi;obtain ⟨j,o,h1,h2,_⟩:=oS (i:=i) e ((aU _ _).trans (NI hl));replace h1:=(NI hi)▸h1;injection h1 with h1;subst h1;exact mh h2
theorem Cr.selA(I:Cr w W)(e:bX js js W=some W'):(∀j∈js,j<w.A.length)∧∀a∈selA w.A js,a∈w.A:=by
 have l:∀j∈js,j<w.A.length:=fun j h=>I.ln▸vR e j h;refine ⟨l,fun a h=>?_⟩;refine Nz (Pq h) fun i zz=>Nz (zz) fun hi e=>?_;refine Nz (ja l ((NI hi).trans (Nw some e))) fun j zz=>NO (fun ζ g=>?_) (zz);exact OP g
theorem Cr.sel(I:Cr w W)(n:nk js=true)(e:bX js js W=some W'):Cr (w.sel js) W':=by
 have l:=(I.selA e).1;refine ⟨I.zs,?_,?_,fun i a o h h'=>?_⟩
 ·refine List.pairwise_map.mpr ((yn n).imp_of_mem fun {i j} hi hj ne e=>ne ?_);have e1:=NI (l i hi);have e2:=NI (l j hj);rw[e1,e2]at e;exact g9 I.nd e1 (e2.trans (Nw some e.symm))
 ·show (PU _ _).length=_;rw[Nq,lA e]
 ·obtain ⟨j,o,h1,h2,h3⟩:=oS e h';refine Nz (ja l h) fun j' zz=>NO (fun h1' h2'=>?_) (zz);have h1:=(h1').symm.trans h1;injection h1 with h1;subst h1;exact Dd (I.ow _ _ _ h2' h2) h3
end
end
section
section
variable{Γ:Gm}{w w' w'' w1:Wd}{C:UL}{W W' W1:UW}{v u:V}{x y z:UV}{a n:Addr}{o o':WO}{b:O}{i j m:Nat}{t:T}{k:KU}{Q:Q1}{vs us:List V}{xs ys:List UV}{ts:List T}{js ks:List Nat}
theorem vj{B:List Addr}(h:∀(i:Nat) (a:Addr),w1.A[i]? = some a→B[sy js m i]? = some a)(r:VR w1 v x):VR ⟨w1.z,w1.h,B⟩ v (su js m x):=by
 induction x with
 | t t=>exact r
 | v=>exact r
 | k=>induction r with | mk r q=>exact ⟨r,q⟩
 | w i=>induction r with | mk r=>exact ⟨h _ _ r⟩
theorem FL{B:List Addr}(h:∀(i:Nat) (a:Addr),w1.A[i]? = some a→B[sy js m i]? = some a)(r:WR w1 a o):WR ⟨w1.z,w1.h,B⟩ a (rX js m o):=by
 induction o with
 | v=>
  refine (r).el fun ζ ζ n f hi ha=>?_;exact ⟨_,_,n,f,vj h hi,vj h ha⟩
 | l=>obtain ⟨_,n,g,l,f⟩:=r;exact ⟨_,n,g,l,f⟩
 | d=>obtain ⟨_,_,n,g,l,f⟩:=r;exact ⟨_,_,n,g,l,f⟩
 | i=>obtain ⟨_,n,g,l,f⟩:=r;exact ⟨_,n,g,l,f⟩
 | z=>exact r
 | p=>obtain ⟨_,n,g,t,f⟩:=r;exact ⟨_,n,g,t,f⟩
theorem tW(W:UW):wU js m W=W.map (rX js m):=by
 induction W with
 | nil=>rfl
 | cons o r ih=>exact Nw (rX js m o :: ·) ih
theorem tV:∀{ks:List Nat}{W W1:UW},ks.length≤W1.length→af (gm js m ks W W1) j=some o→(∃i o1,sy ks W.length i=j∧af W1 i=some o1∧o=rX js m o1)∨(j ∉ ks∧af W j=some o)
 | [],W,W1,_,h=>by
  have h:af (W++wU js m W1) j=some o:=h;rw[tW,aU,Tq]at h;split at h
  ·exact .inr ⟨Oo,(aU _ _).trans h⟩
  ·replace h:=(Pd)▸h;obtain ⟨o1,e,rfl⟩:=Option.map_eq_some_iff.mp h;exact .inl ⟨_,o1,PQ (Nat.not_lt.mp ‹_›),(aU _ _).trans e,rfl⟩
 | k::r,W,o1::W1,l,h=>by
  rcases tV (ks:=r) (Tg l) h with ⟨i,o2,e,e2,rfl⟩ | ⟨n,h⟩
  ·replace e:=(cm)▸e;exact .inl ⟨i+1,o2,e,e2,rfl⟩
  ·rcases jA h with ⟨rfl,rfl⟩ | ⟨n2,h⟩
   ·exact .inl ⟨0,o1,rfl,rfl,rfl⟩
   ·exact .inr ⟨fun e=>(List.mem_cons.mp e).elim n2 n,h⟩
theorem qp:∀{ks:List Nat}{W W1:UW},ks.length≤W1.length→(gm js m ks W W1).length=W.length+(W1.length-ks.length)
 | [],W,W1,_=>by
  show (W++wU js m W1).length=W.length+W1.length;rw[tW,NH,Nq]
 | k::r,W,o1::W1,l=>by
  refine (qp (ks:=r) (Tg l)).trans ?_;rw[cm,OY,OY,Nat.add_sub_add_right]
theorem yQ{B:List Addr} : ∀{ks:List Nat}{A1:List Addr},(∀(i:Nat) (a:Addr),(selA w.A ks)[i]? = some a→A1[i]? = some a)→(∀j∈ks,j<w.A.length)→A1.drop ks.length=B→∀{i:Nat},A1[i]? = some a→(w.A++B)[sy ks w.A.length i]? = some a
 | [],A1,_,_,hB,i,h=>by
  subst hB;show (w.A++A1)[w.A.length+i]? = some a;rw[Qn (NS _ _),Nat.add_sub_cancel_left];exact h
 | k::r,A1,hp,hl,hB,0,h=>by
  have e:=NI (hl k (.head _));have e2:=hp 0 _ (o0 (js:=k::r) rfl e);have e2:=(h).symm.trans e2;injection e2 with e2;subst e2;exact pH e
 | k::r,A1,hp,hl,hB,i+1,h=>by
  induction A1 with
  | nil=>exact ac h
  | cons b A1=>exact yQ (ks:=r) (A1:=A1) (fun i a h=>hp (i+1) a h) (fun j h=>hl j (.tail _ h)) hB h
theorem aV.back(I:aV Γ w C W)(n:nk js=true)(e:bX js js W=some W1)(I1:aV ⟨w.sel js,[],none⟩ w1 [] W')(E1:Ex (w.sel js) w1) :
  ∃w',w'.h=w1.h∧aV Γ w' C (gm js W.length js W W')∧Ex w w'∧∀u v,VR w1 u v→VR w' u (su js W.length v):=by
 have zz:=I.selA e;have l:=zz.1;have m:=zz.2;have sl:(selA w.A js).length=js.length:=Nq _;have pre:∀a∈selA w.A js,∀i,w1.A[i]? = some a→i<js.length:=fun a h i hi=>by
  obtain ⟨i',hi',e⟩:=Pq h;rw[g9 I1.nd hi (E1.p i' a ((NI hi').trans (Nw some e)))];exact sl▸hi'
 have lw:js.length≤W'.length:=by
  rw[← I1.ln];rcases T1 js.length with z | z
  ·rw[z];exact Ol _
  ·have hi:js.length-1<(selA w.A js).length:=sl.symm▸Nat.sub_lt z Nat.one_pos;exact Nat.le_of_pred_lt (List.getElem?_eq_some_iff.mp (E1.p _ _ (NI hi))).1
 have bk:∀i a,w1.A[i]? = some a→(w.A++w1.A.drop js.length)[sy js W.length i]? = some a:=fun i a h=>I.ln▸yQ E1.p l rfl h;have E:Ex w ⟨w1.z,w1.h,w.A++w1.A.drop js.length⟩:=⟨E1.z,fun j a h=>pH h⟩;have kp:∀{a b},a ∉ selA w.A js→w.h a=some b→w1.h a=some b:=fun n h=>I1.le.at_ _ _ n h;refine ⟨⟨w1.z,w1.h,w.A++w1.A.drop js.length⟩,rfl,⟨⟨I1.zs,?_,?_,fun j a o h h'=>?_⟩,I.ex.trans E,⟨fun b o hb h=>kp (fun q=>?_) (I.le.at_ b o hb h),fun b h=>I.le.dom b (I1.le.dom b h)⟩,fun a h=>?_,fun a o h=>?_,fun i a h=>?_,I.cd,I.cn⟩,E,fun u v r=>vj bk r⟩
 ·refine List.nodup_append.mpr ⟨I.nd,I1.nd.sublist (List.drop_sublist _ _),fun x hx y hy q=>?_⟩;subst q;rcases I1.fr x (Rx hy) with z | z
  ·obtain ⟨b,g,_⟩:=I.inA hx;exact ac (z.symm.trans g)
  ·obtain ⟨i,hi,q⟩:=Pq hy;rw[List.getElem_drop]at q;exact Nat.not_lt.mpr (NS _ _) (pre x z (js.length+i) (List.getElem?_eq_some_iff.mpr ⟨_,q⟩))
 ·show (w.A++w1.A.drop js.length).length=_;rw[qp lw,NH,Uj,I.ln,I1.ln]
 ·rcases tV lw h' with ⟨i,o1,rfl,e1,rfl⟩ | ⟨nj,e1⟩
  ·obtain ⟨a',g,r⟩:=I1.own e1;have h:=(bk i a' g).symm.trans h;injection h with h;subst h;exact FL bk r
  ·have hj:w.A[j]? = some a:=by
    have:=PK (l₂:=w1.A.drop js.length) (I.ln▸mh e1);exact this.symm.trans h
   have na:a ∉ selA w.A js:=fun q=>by
    obtain ⟨i,hi,q⟩:=Pq q;obtain ⟨j',h1,h2⟩:=ja l ((NI hi).trans (Nw some q));exact nj (g9 I.nd h2 hj▸OP h1)
   obtain ⟨b,g,_⟩:=I.inA (OP hj);refine (I.ow j a o hj e1).go E (fun zn=>?_) fun b=>kp na;show w1.z a=none;cases q:w1.z a with
   | none=>rfl
   | some ob=>
    rcases I1.zz a ob q with z | z | z
    ·exact ac (zn.symm.trans z)
    ·exact ac (z.symm.trans g)
    ·exact (na z).elim
 ·rcases I.fr b (m b q) with z | z
  ·have z:=(h).symm.trans z;exact ac z.symm
  ·exact hb z
 ·rcases List.mem_append.mp h with h | h
  ·exact I.fr a h
  ·rcases I1.fr a (Rx h) with z | z
   ·exact .inl (I.le.dom a z)
   ·exact I.fr a (m a z)
 ·rcases I1.zz a o h with z | z | z
  ·exact I.zz a o z
  ·exact .inr (.inl (I.le.dom a z))
  ·exact .inr (I.fr a (m a z))
 ·obtain ⟨f,o,g,r⟩:=I.cs i a h;refine ⟨f,o,kp (fun q=>?_) g,r.go E⟩;obtain ⟨b,g2,hc⟩:=I.inA (m a q);replace g2:=(g)▸g2;injection g2 with g2;subst g2;exact NG hc
end
end
section
section
variable{Γ:Gm}{w w' w'' w1:Wd}{C:UL}{W W' W1:UW}{v u:V}{x y z:UV}{a n:Addr}{o o':WO}{b:O}{i j m:Nat}{t:T}{k:KU}{Q:Q1}{vs us:List V}{xs ys:List UV}{ts:List T}{js ks:List Nat}{c:Cx}{d:Nat}{E:XP}{Ee:Str→UW→Prop}{Qh:AH→Prop}{kq:UW→Prop}
theorem F2.vr(e:Ex w w')(h:F2 (VR w) vs xs):F2 (VR w') vs xs:=h.imp fun ζ ζ h=>h.go e
inductive qP(Γ:Gm)(w:Wd)(C:UL)(js:List Nat)(us:List V)(ys:List UV)(W':UW):Prop
 | mk(z':AH)(I:aV Γ ⟨z',w.h,w.A⟩ C W')(E:Ex w ⟨z',w.h,w.A⟩)(h:F2 (VR (Wd.sel ⟨z',w.h,w.A⟩ js)) us ys)
theorem qP.el{Γ:Gm}{w:Wd}{C:UL}{js:List Nat}{us:List V}{ys:List UV}{W':UW}{P_:Prop}(h_:qP Γ w C js us ys W')(k_:∀(z':AH) (I:aV Γ ⟨z',w.h,w.A⟩ C W') (E:Ex w ⟨z',w.h,w.A⟩) (h:F2 (VR (Wd.sel ⟨z',w.h,w.A⟩ js)) us ys),P_):P_:=qP.rec (motive:=fun ζ=>P_) k_ h_
theorem zx(h:F2 (VR w) us xs):∀{w' W ys W'},aV Γ w' C W→Ex w w'→aS js xs W=some (ys,W')→qP Γ w' C js us ys W':=by
 induction h with
 | nil=>intro w' W ys W' I E q;injection q with q;injection q with q zz;subst q;subst zz;exact ⟨w'.z,I,.refl,.nil⟩
 | @cons v x _ _ h _ ih=>
  intro w' W ys W' I E q;unfold aS at q;refine eQ (o:=qd js x) (fun y e=>?_) (fun e=>?_)
  ·
   rw[e]at q;refine (aR q).el fun p q1 q=>?_;injection q with q;injection q with q zz;subst q;subst zz;refine (ih I E q1).el fun z1 I1 E1 r1=>?_;exact ⟨z1,I1,E1,.cons (qc (h.go (E.trans E1)) e) r1⟩
  ·
   rw[e]at q;refine (aR q).el fun p q1 q=>?_;refine (aR q).el fun p2 q2 q=>?_;injection q with q;injection q with q zz;subst q;subst zz;refine (eJ I (h.go E) q1).el fun z1 I1 E1 r1=>?_;refine (ih I1 (E.trans E1) q2).el fun z2 I2 E2 r2=>?_;exact ⟨z2,I2,E1.trans E2,.cons (show VR _ _ (.t _) from Rt.go E2.z r1) r2⟩
theorem Cr.inv(I:Cr w W):aV ⟨w,[],none⟩ w [] W:=⟨I,.refl,.refl,fun ζ h=>.inr h,fun ζ ζ h=>.inl h,nofun,nofun,rfl⟩
def KE(Γ:Gm)(C:UL)(w:Wd)(k:Str→UW→Prop)(E:XP):Prop:=∀m W' w',k m W'→aV Γ w' C W'→Ex w w'→E (.str m) w'.h
theorem KE.ex(q:KE Γ C w Ee E)(e:Ex w w'):KE Γ C w' Ee E:=fun ζ ζ ζ h I E'=>q _ _ _ h I (e.trans E')
theorem AP{q:Rq→Prop}(I:aV Γ w C W)(hv:F2 (VR w) vs xs)(hn:nk js=true)(hp:aS js xs W=some (ys,W'))(hs:bX js js W'=some W1)(h:de c d a ys W1 q)
  (kr:∀v W2,q (.r v W2)→k (su js W'.length v) (gm js W'.length js W' W2)) (ke:∀m W2,q (.e m W2)→Ee m (gm js W'.length js W' W2)) (qk:KV Γ C w k Q) (qe:KE Γ C w Ee E):dy c d (.ref a) vs w.h Q E:=by
 obtain ⟨z,I1,E1,r1⟩:=zx hv I .refl hp;have I2:=I1.toCr.sel hn hs;refine h _ _ I2 r1 _ _ (fun v W2 u w2 e I3 E3 r=>?_) fun m W2 w2 e I3 E3=>?_
 ·obtain ⟨w3,g,I4,E4,r4⟩:=I1.back hn hs I3 E3;exact g▸qk _ _ _ _ (kr v W2 e) I4 (E1.trans E4) (r4 _ _ r)
 ·obtain ⟨w3,g,I4,E4,r4⟩:=I1.back hn hs I3 E3;exact g▸qe _ _ _ (ke m W2 e) I4 (E1.trans E4)
theorem Jl(P:PF c)(I:aV Γ w C W)(hv:F2 (VR w) vs xs)(f:iH c d W k Ee a xs)(q:KV Γ C w k Q)(qe:KE Γ C w Ee E):dy c d (.ref a) vs w.h Q E:=by
 induction f with
 | n js hn hp hs h kr ke=>exact AP I hv hn hp hs h kr ke q qe
 | v3 hd e g=>
  subst hd;cases hv with | cons hx hv=>
  obtain ⟨_,_,rfl,hy,hz⟩:=hv.c2;rw[aP hx];obtain ⟨_,_,rfl,_⟩:=lL I.toCr hy e;exact Ej P fun n H' hn ζ ζ e=>e▸q.new (o:=.v _ _ _ _) I g (fun w' n E z h=>⟨_,_,z,h,hy.go E,hz.go E⟩) n hn
 | v2 hd e g=>
  subst hd;obtain ⟨_,_,rfl,hx,hy⟩:=hv.c2;rw[aP hx];obtain ⟨_,_,rfl,_⟩:=lL I.toCr hy e;exact Ek P fun n H' hn ζ ζ e=>e▸q.new (o:=.v _ _ _ _) I g (fun w' n E z h=>⟨_,_,z,h,hy.go E,.leaf rfl⟩) n hn
 | nl hd g=>
  subst hd;cases hv;exact Iu P fun n H' hn ζ ζ e=>e▸q.kp I g rfl (fun w' n E e=>.inst e (.cons (.leaf rfl) (.cons (.leaf rfl) .nil))) n hn
 | ms hd g=>
  subst hd;cases hv;exact Iv P fun n H' hn ζ ζ e=>e▸q.kp I g rfl (fun w' n E e=>.inst e (.cons (.leaf rfl) (.cons (.leaf rfl) .nil))) n hn
theorem FC(P:PF c)(I:aV Γ w C W)(hf:VR w v x)(hv:F2 (VR w) vs xs)(f:rU c d x xs W k Ee)(q:KV Γ C w k Q)(qe:KE Γ C w Ee E):eg c d v vs w.h Q E:=by
 induction x using UV.casesOn with
 | v f'=>
  rw[nW hf]
  induction f' using V.casesOn with
  | ref=>exact Jl P I hv f q qe
  | _=>exact JK I hv f q
 | _=>cases f
end
noncomputable def aN{K α:Type}[DecidableEq K](es:List (K×α))(x:K)(v:α):List (K×α):=
 if es.any (fun p=>decide (p.1=x)) then es.map (fun p=>if p.1=x then (p.1,v) else p) else es++[(x,v)]
inductive sk(W:UW)(k:UW→Prop):UV→UV→UV→Prop
 | l{j v t W' xs}{n:Int}(e:frz W v=some (t,W'))(h:af W' j=some (.l xs))(h0:0≤n)(h1:n<xs.length)(q:k (ar W' j (.l (xs.set n.toNat t)))):sk W k (.w j) (ti n) v
 | d{j s v t W' es}(e:frz W v=some (t,W'))(h:af W' j=some (.d es))(l:es.length<100000)(q:k (ar W' j (.d (aN es s t)))):sk W k (.w j) (tS s) v
 | i{j v t W' es}{n:Int}(e:frz W v=some (t,W'))(h:af W' j=some (.i es))(l:es.length<100000)(q:k (ar W' j (.i (aN es n t)))):sk W k (.w j) (ti n) v
inductive pS(W:UW)(k:KU):List UV→Prop
 | d0(q:cy (.d []) W k):pS W k []
 | i0(q:cy (.i []) W k):pS W k []
 | d1{s v t W'}(e:frz W v=some (t,W'))(q:cy (.d [(s,t)]) W' k):pS W k [tS s,v]
 | i3{i j l:Int}{a b c:T}(h:i≠j)(h2:i≠l)(h3:j≠l)(q:cy (.i [(i,a),(j,b),(l,c)]) W k):pS W k [ti i,.t a,ti j,.t b,ti l,.t c]
noncomputable def Ap:T→Option (List T)
 | .list ts=>some ts
 | .tup ts=>some ts
 | .dict es=>some (es.map fun p=>.leaf (.str p.1))
 | _=>none
def ec(W:UW)(v:UV)(k:List T→UW→Prop):Prop:=match v with
 | .k (.rng lo hi)=>k ((aW lo hi).map .leaf) W
 | v=>au (frz W v) fun p=>au (Ap p.1) fun ts=>k ts p.2
section
variable{R:V→T→Prop}{v:V}{t:T}
theorem F2.set_{xs:List V}{ts:List T}(h:F2 R xs ts)(hv:R v t):∀n,F2 R (xs.set n v) (ts.set n t):=by
 induction h with
 | nil=>exact fun ζ=>.nil
 | cons h r ih=>
  intro n
  induction n using Pw with
  | zero=>exact .cons hv r
  | succ n=>exact .cons h (ih n)
theorem dR.map1{es ts}{s:Str}(h:dR R es ts)(hv:R v t):dR R (es.map fun p=>if p.1=s then (p.1,v) else p) (ts.map fun p=>if p.1=s then (p.1,t) else p):=by
 induction h with
 | nil=>exact .nil
 | cons h _ ih=>
  rw[NT,NT];dsimp only;split
  ·exact .cons hv ih
  ·exact .cons h ih
theorem dR.snoc{es ts}{s:Str}(h:dR R es ts)(hv:R v t):dR R (es++[(s,v)]) (ts++[(s,t)]):=by
 induction h with
 | nil=>exact .cons hv .nil
 | cons h _ ih=>exact .cons h ih
theorem dR.set{es ts}{s:Str}(h:dR R es ts)(hv:R v t):dR R (iB es s v) (aN ts s t):=by
 unfold iB aN;rw[h.any];split
 ·exact h.map1 hv
 ·exact h.snoc hv
theorem jV.map1{es ts}{s:Int}(h:jV R es ts)(hv:R v t):jV R (es.map fun p=>if p.1=s then (p.1,v) else p) (ts.map fun p=>if p.1=s then (p.1,t) else p):=by
 induction h with
 | nil=>exact .nil
 | cons h _ ih=>
  rw[NT,NT];dsimp only;split
  ·exact .cons hv ih
  ·exact .cons h ih
theorem jV.snoc{es ts}{s:Int}(h:jV R es ts)(hv:R v t):jV R (es++[(s,v)]) (ts++[(s,t)]):=by
 induction h with
 | nil=>exact .cons hv .nil
 | cons h _ ih=>exact .cons h ih
theorem jV.set{es ts}{s:Int}(h:jV R es ts)(hv:R v t):jV R (iB es s v) (aN ts s t):=by
 unfold iB aN;rw[h.any];split
 ·exact h.map1 hv
 ·exact h.snoc hv
theorem cZ{K α:Type}[DecidableEq K]{es:List (K×α)}{s:K}{v:α} : (aN es s v).length≤es.length+1:=by
 unfold aN;split
 ·rw[Nq];exact PC _
 ·rw[NH];exact Oe _
end
section
variable{Γ:Gm}{w w' w'' w1:Wd}{C:UL}{W W' W1:UW}{v u:V}{x y z:UV}{a n:Addr}{o o':WO}{b:O}{i j m:Nat}{t:T}{k:KU}{Q:Q1}{vs us:List V}{xs ys:List UV}{ts:List T}{js ks:List Nat}{c:Cx}{d:Nat}{E:XP}{Ee:Str→UW→Prop}{Qh:AH→Prop}{kq:UW→Prop}
theorem DX{v':V}(I:aV Γ w C W)(hx:VR w v x)(hy:VR w u y)(hz:VR w v' z)(h:sk W kq x y z)(q:KS Γ C w kq Qh):wB v u v' w.h Qh:=by
 induction h with
 | @l _ _ _ _ _ ix e g h0 h1 q'=>
  rw[aP hy];obtain ⟨_,I',E',r⟩:=eJ I hz e;obtain ⟨a,xs,rfl,_,n,h,l,f,st⟩:=m8 I' (hx.go E') g;obtain ⟨I2,E2⟩:=st _ _ (f.set_ r ix.toNat) (by rw[Qi];exact f.len'▸l);exact .itemL_ h h0 (f.len'▸h1) l (q _ _ q' I2 (E'.trans E2))
 | @d _ sx _ _ _ _ e g l q'=>
  rw[aP hy];obtain ⟨_,I',E',r⟩:=eJ I hz e;have hx:=hx.go E'
  induction hx with | mk hj=>
  obtain ⟨_,_,n,h,l',f⟩:=I'.ow _ _ _ hj g;refine .itemD_ h l' fun ep=>?_;have f':=f.set (s:=sx) r;obtain ⟨I2,E2⟩:=I'.set (o:=.d _) (b:=.sdict _ ep) hj n fun E=>⟨_,_,n,aj _ _ _,f'.len▸Np cZ l,f'⟩;exact q _ _ q' I2 (E'.trans E2)
 | @i _ _ _ _ _ ix e g l q'=>
  rw[aP hy];obtain ⟨_,I',E',r⟩:=eJ I hz e;have hx:=hx.go E'
  induction hx with | mk hj=>
  obtain ⟨_,n,h,l',f⟩:=I'.ow _ _ _ hj g;have f':=f.set (s:=ix) r;obtain ⟨I2,E2⟩:=I'.set (o:=.i _) (b:=.idict _) hj n fun E=>⟨_,n,aj _ _ _,f'.len▸Np cZ l,f'⟩;exact .itemN_ h l' (q _ _ q' I2 (E'.trans E2))
theorem Ft(I:aV Γ w C W)(hv:F2 (VR w) vs xs)(h:pS W k xs)(q:KV Γ C w k Q):xn vs w.h Q:=by
 induction h with
 | d0 g=>cases hv;exact .inl fun ep=>q.new (o:=.d _) I g fun w' n E z e=>⟨_,_,z,e,Ol _,.nil⟩
 | i0 g=>cases hv;exact .inr (q.new (o:=.i _) I g fun w' n E z e=>⟨_,z,e,Ol _,.nil⟩)
 | d1 e g=>
  obtain ⟨_,v,rfl,hx,hy⟩:=hv.c2;rw[aP hx];intro ep;obtain ⟨_,I',E',r⟩:=eJ I hy e;exact (q.ex E').new (o:=.d _) I' g fun w' n E z e=>⟨_,_,z,e,NJ rfl,.cons (r.go E.z) .nil⟩
 | i3 h h2 h3 g=>
  cases hv with | cons hx hv=>cases hv with | cons hy hv=>cases hv with | cons hx' hv=>cases hv with | cons hy' hv=>
  obtain ⟨_,_,rfl,hx'',hy''⟩:=hv.c2;rw[aP hx,aP hx',aP hx''];exact ⟨h,h2,h3,q.new (o:=.i _) I g fun w' n E z e=>⟨_,z,e,NJ rfl,.cons (Rt.go E.z hy) (.cons (Rt.go E.z hy') (.cons (Rt.go E.z hy'') .nil))⟩⟩
inductive yV(Γ:Gm)(w:Wd)(C:UL)(v:V)(k:List T→UW→Prop):Prop
 | mk(ts:List T)(W':UW)(z':AH)(q:k ts W')(I:aV Γ ⟨z',w.h,w.A⟩ C W')(E:Ex w ⟨z',w.h,w.A⟩)(a:Addr)(o:O)(xs:List V)(ea:v=.ref a)(g:z' a=some o)(i:w8 xs o)(ln:xs.length≤100000)(f:F2 (Rt z') xs ts)
theorem dR.keys{Z:AH}{es:List (Str×V)}{ts}(h:dR (Rt Z) es ts):F2 (Rt Z) (es.map fun p=>.str p.1) (ts.map fun p=>.leaf (.str p.1)):=by
 induction h with
 | nil=>exact .nil
 | cons _ _ ih=>exact .cons (.leaf rfl) ih
inductive K6(Z:AH)(v:V)(ts:List T):Prop
 | mk(a:Addr)(o:O)(xs:List V)(ea:v=.ref a)(g:Z a=some o)(i:w8 xs o)(ln:xs.length≤100000)(f:F2 (Rt Z) xs ts)
theorem Db{Z:AH}(h:Rt Z v t):Ap t=some ts→K6 Z v ts:=by
 refine Rt.casesOn (motive_1:=fun v t ζ=>Ap t=some ts→K6 Z v ts) h (fun ζ=>nofun) (fun h l f e=>?_) (fun h l f e=>?_) (fun h l f e=>?_) fun ζ ζ=>nofun
 ·injection e with e;subst e;exact ⟨_,_,_,rfl,h,⟨l,rfl⟩,l,f⟩
 ·injection e with e;subst e;exact ⟨_,_,_,rfl,h,⟨l,rfl⟩,l,f⟩
 ·injection e with e;subst e;exact ⟨_,_,_,rfl,h,⟨l,rfl⟩,by rw[Nq];exact l,f.keys⟩
theorem yw{k:List T→UW→Prop}(I:aV Γ w C W)(h:VR w v x)(q:au (frz W x) fun p=>au (Ap p.1) fun ts=>k ts p.2):yV Γ w C v k:=by
 refine dm q fun p e q=>?_;refine dm q fun ts e2 q=>?_;obtain ⟨_,I',E',r⟩:=eJ I h e;obtain ⟨_,_,_,h1,h2,h3,h4,h5⟩:=Db r e2;exact ⟨_,_,_,q,I',E',_,_,_,h1,h2,h3,h4,h5⟩
theorem pn{k:List T→UW→Prop}(I:aV Γ w C W)(h:VR w v x)(q:ec W x k):yV Γ w C v k:=by
 induction x using UV.casesOn with
 | k o=>
  induction o using O.casesOn with
  | rng lo hi=>induction h with | mk g o=>exact ⟨_,_,_,q,I,.refl,_,_,_,rfl,g,⟨o.1,o.2.1,o.2.2.1,o.2.2.2.1,rfl⟩,by have:=kJ o;rwa [Nq]at this,qx _ kK⟩
  | _=>exact yw I h q
 | _=>exact yw I h q
end
end
section
inductive Rz where
 | nx(st:List UV) | brk | cnt | ret (v:UV) | exc (m:Str)
abbrev UQ:=Rz→UL→UL→UW→Prop
def iw(st:List UV)(k:UV→List UV→Prop):Prop:=match st with
 | v::r=>k v r
 | _=>False
def xV(st:List UV)(k:UV→UV→List UV→Prop):Prop:=match st with
 | b::a::r=>k a b r
 | _=>False
noncomputable def qY:Nat→List UV→List UV→(List UV→List UV→Prop)→Prop
 | 0,st,vs,k=>k vs st
 | n+1,st,vs,k=>iw st fun v r=>qY n r (v::vs) k
def xi(n:Nat)(p:Prop):Prop:=bif S2 n 1000 then p else False
noncomputable def pp:UL→Nat→Prop→Prop
 | [],_,_=>False
 | _::_,0,p=>p
 | _::r,n+1,p=>pp r n p
noncomputable def oJ:Nat→List T→List UV→(List UV→Prop)→Prop
 | 0,[],st,k=>k st
 | n+1,t::r,st,k=>oJ n r st fun st=>k (.t t::st)
 | _,_,_,_=>False
def BA(o:Option T)(k:List T→Prop):Prop:=match o with
 | some (.tup xs)=>k xs
 | _=>False
noncomputable def f9:Nat→Nat→T→UL
 | 0,_,_=>[]
 | m+1,0,v=>some (.t v)::f9 m m v
 | m+1,i+1,v=>none::f9 m i v
abbrev KL:=UL→UL→UW→Prop
noncomputable def cT(k:Option T→UL→UW→Prop):UQ
 | .nx [v],_,C,W=>au (frz W v) fun p=>k (some p.1) C p.2
 | .nx [],_,C,W=>k none C W
 | _,_,_,_=>False
noncomputable def bT(body:T→UL→UW→(Option T→UL→UW→Prop)→Prop)(K:List T→UL→UW→Prop):List T→List T→UL→UW→Prop
 | [],ys,C,W=>K ys C W
 | x::r,ys,C,W=>body x C W fun o C W=>bT body K r (ys++o.toList) C W
noncomputable def dT(k:Option (Str×T)→UL→UW→Prop):UQ
 | .nx [v,s],_,C,W=>sW s fun s=>au (frz W v) fun p=>k (some (s,p.1)) C p.2
 | .nx [],_,C,W=>k none C W
 | _,_,_,_=>False
noncomputable def F8(ys:List (Str×T)):Option (Str×T)→List (Str×T)
 | some p=>aN ys p.1 p.2
 | none=>ys
noncomputable def kR(body:T→UL→UW→(Option (Str×T)→UL→UW→Prop)→Prop)(K:List (Str×T)→UL→UW→Prop):List T→List (Str×T)→UL→UW→Prop
 | [],ys,C,W=>K ys C W
 | x::r,ys,C,W=>body x C W fun o C W=>kR body K r (F8 ys o) C W
noncomputable def wX(J K:KL)(Q:UQ):UQ
 | .nx _,L,C,W=>J L C W
 | .cnt,L,C,W=>J L C W
 | .brk,L,C,W=>K L C W
 | r,L,C,W=>Q r L C W
noncomputable def mJ(body:UQ→KL)(K:KL)(Q:UQ):Nat→KL
 | 0,_,_,_=>False
 | n+1,L,C,W=>body (wX (mJ body K Q n) K Q) L C W
noncomputable def cu(body:T→UQ→KL)(K:KL)(Q:UQ):List T→KL
 | [],L,C,W=>K L C W
 | x::r,L,C,W=>body x (wX (cu body K Q r) K Q) L C W
noncomputable def LN:List Str:=[No "value",No "v",No "notes",No "ix"]
noncomputable def LQ:Str:=(D 134).qual ++ ".<locals>." ++ No "<lambda>"
inductive vz(c:Cx)(Γ:Gm):Prop
 | mk(l:kw)(e:Γ.lm=some l)(h:CodeHd c.h₀ l.code l.pool)(a:Γ.o.A[0]? = some l.pool)(q:l.qual=LQ)(n:Γ.cl.map (·.1)=LN)
def lj(c:Cx)(d:Nat)(b:Nu)(sc:Scope)(p:Pos)(f:UV)(C:UL)(W:UW)(k:KU):Prop:=∀Γ w v (Q:Q1) E,vz c Γ→aV Γ w C W→VR w v f→KV Γ C w k Q→
 z8 c Γ.cl Γ.lm b sc p w.h fun u H=>eg c d v [u] H Q E
noncomputable def TR(c:Cx)(m:Bool)(d:Nat):UQ→I→List UV→UL→UL→UW→Prop
 | Q,.fin,st,L,C,W=>Q (.nx st) L C W
 | Q,.rtn,st,L,C,W=>iw st fun v ζ=>Q (.ret v) L C W
 | Q,.brk,_,L,C,W=>Q .brk L C W
 | Q,.cnt,_,L,C,W=>Q .cnt L C W
 | Q,.rse,st,L,C,W=>iw st fun v ζ=>sW v fun m=>sO d (Q (.exc m) L C W)
 | Q,.cst v k,st,L,C,W=>bif lf v then TR c m d Q k (tv v::st) L C W else False
 | Q,.loc i k,st,L,C,W=>au (gB L i) fun v=>TR c m d Q k (v::st) L C W
 | Q,.cel i k,st,L,C,W=>au (gB C i) fun v=>TR c m d Q k (v::st) L C W
 | Q,.glo g k,st,L,C,W=>TR c m d Q k ((bif lf (Gv g) then tv (Gv g) else .v (Gv g))::st) L C W
 | Q,.bin o k,st,L,C,W=>xV st fun a b st=>n7 o a b W fun v W=>TR c m d Q k (v::st) L C W
 | Q,.cmp o k,st,L,C,W=>xV st fun a b st=>cF o a b W fun t=>TR c m d Q k (tb t::st) L C W
 | Q,.aug o k,st,L,C,W=>xV st fun a b st=>mr o (bW a) (bW b) fun t=>TR c m d Q k (ti t::st) L C W
 | Q,.neg k,st,L,C,W=>iw st fun v st=>nc (bW v) fun v=>TR c m d Q k (tv v::st) L C W
 | Q,.not k,st,L,C,W=>iw st fun v st=>nY v fun b=>TR c m d Q k (tb (!b)::st) L C W
 | Q,.att n k,st,L,C,W=>iw st fun v st=>ew c n W (fun v=>TR c m d Q k (v::st) L C W) v
 | Q,.sub k,st,L,C,W=>xV st fun a i st=>ed a i W fun t=>TR c m d Q k (.t t::st) L C W
 | Q,.slc k,st,L,C,W=>xV st fun l u st=>iw st fun a st=>hO c W (fun v W=>TR c m d Q k (v::st) L C W) a l u
 | Q,.lst n k,st,L,C,W=>xi n<|qY n st [] fun vs st=>au (et vs W) fun p=>cy (.l p.1) p.2 fun v W=>TR c m d Q k (v::st) L C W
 | Q,.tpl n k,st,L,C,W=>xi n<|qY n st [] fun vs st=>au (et vs W) fun p=>TR c m d Q k (.t (.tup p.1)::st) L C p.2
 | Q,.dic n k,st,L,C,W=>qY n st [] fun vs st=>pS W (fun v W=>TR c m d Q k (v::st) L C W) vs
 | Q,.cal n k,st,L,C,W=>qY n st [] fun vs st=>iw st fun f st=>rU c d f vs W (fun v W=>TR c m d Q k (v::st) L C W) fun m W=>Q (.exc m) L C W
 | Q,.mth n k,st,L,C,W=>iw st fun o st=>rz c W (fun f=>TR c m d Q k (o :: .v f::st) L C W) n o
 | Q,.ite t e k,st,L,C,W=>iw st fun v st=>nY v fun b=>fO b (TR c m d (fun r L C W=>match r with | .nx st=>TR c m d Q k st L C W | r=>Q r L C W) t st L C W) (TR c m d (fun r L C W=>match r with | .nx st=>TR c m d Q k st L C W | r=>Q r L C W) e st L C W)
 | Q,.and b k,st,L,C,W=>iw st fun v st=>nY v fun t=>fO t (TR c m d (fun r L C W=>match r with | .nx st=>TR c m d Q k st L C W | r=>Q r L C W) b st L C W) (TR c m d Q k (tb false::st) L C W)
 | Q,.or b k,st,L,C,W=>iw st fun v st=>nY v fun t=>fO t (TR c m d Q k (tb true::st) L C W) (TR c m d (fun r L C W=>match r with | .nx st=>TR c m d Q k st L C W | r=>Q r L C W) b st L C W)
 | Q,.lcm n i b k,st,L,C,W=>iw st fun it st=>ec W it fun xs W=>bT (fun x C W kk=>TR c false d (cT kk) b [] (f9 n i x) C W) (fun ys C W=>cy (.l ys) W fun v W=>TR c m d Q k (v::st) L C W) xs [] C W
 | Q,.dcm n i b k,st,L,C,W=>iw st fun it st=>ec W it fun xs W=>kR (fun x C W kk=>TR c false d (dT kk) b [] (f9 n i x) C W) (fun ys C W=>cy (.d ys) W fun v W=>TR c m d Q k (v::st) L C W) xs [] C W
 | Q,.put i k,st,L,C,W=>iw st fun v st=>TR c m d Q k st (eD L i v) C W
 | Q,.ptc i k,st,L,C,W=>iw st fun v st=>pp C i (TR c m d Q k st L (eD C i v) W)
 | Q,.sat n k,st,L,C,W=>xV st fun v o st=>sj c W (fun W=>TR c m d Q k st L C W) n v o
 | Q,.sit k,st,L,C,W=>xV st fun o i st=>iw st fun v st=>sk W (fun W=>TR c m d Q k st L C W) o i v
 | Q,.unp n k,st,L,C,W=>iw st fun v st=>BA (pk W v) fun xs=>oJ n xs st fun st=>TR c m d Q k st L C W
 | Q,.pop k,st,L,C,W=>iw st fun ζ st=>TR c m d Q k st L C W
 | Q,.whl b k,st,L,C,W=>∃n,mJ (fun q=>TR c m d q b []) (fun L C W=>TR c m d Q k st L C W) Q n L C W
 | Q,.for i b k,st,L,C,W=>iw st fun it st=>ec W it fun xs W=>cu (fun x q L=>TR c m d q b [] (eD L i (.t x))) (fun L C W=>TR c m d Q k st L C W) Q xs L C W
 | Q,.fst a b k,st,L,C,W=>iw st fun v st=>sW v fun s=>s.length≤1000∧TR c m d Q k (tS (QE++a++s++b)::st) L C W
 | Q,.lam b sc p (.cal 1 k),st,L,C,W=>bif m then iw st fun f st=>lj c d b sc p f C W (fun v W=>TR c m d Q k (v::st) L C W) else False
 | _,_,_,_,_,_=>False
end
section
noncomputable def RR(w:Wd):Rs→Rz→Prop
 | .nx st',.nx st=>F2 (VR w) st' st
 | .brk,.brk=>True
 | .cnt,.cnt=>True
 | .ret v',.ret v=>VR w v' v
 | _,_=>False
inductive KQ(Γ:Gm)(w:Wd)(Q:UQ)(Q':QR)(E:XP):Prop
 | mk(n:∀r' r L' L C W w',Q r L C W→aV Γ w' C W→Ex w w'→F2 (OR w') L' L→RR w' r' r→Q' r' L' w'.h)
  (e:∀m L C W w',Q (.exc m) L C W→aV Γ w' C W→Ex w w'→E (.str m) w'.h)
abbrev Gm.F(Γ:Gm):Fr:=⟨Gv,Γ.cl,Γ.lm⟩
def aZ(c:Cx)(d:Nat)(k:I):Prop:=∀⦃m:Bool⦄ ⦃Γ:Gm⦄ ⦃w:Wd⦄ ⦃Q:UQ⦄ ⦃st:List UV⦄ ⦃L C:UL⦄ ⦃W:UW⦄ ⦃E:XP⦄ ⦃Q':QR⦄ ⦃st':List V⦄ ⦃L':Ls⦄,
 (m=true→vz c Γ)→TR c m d Q k st L C W→aV Γ w C W→F2 (OR w) L' L→F2 (VR w) st' st→KQ Γ w Q Q' E→ao c Γ.F d k E st' L' w.h Q'
section
variable{c:Cx}{m:Bool}{d:Nat}{k b t e:I}{Γ:Gm}{w w':Wd}{Q:UQ}{st:List UV}{L C:UL}{W:UW}{E:XP}{Q':QR}{st':List V}{L':Ls}{v:V}{x:UV}{a:Addr}
theorem KQ.ex(q:KQ Γ w Q Q' E)(e:Ex w w'):KQ Γ w' Q Q' E:=let ⟨n,m⟩:=q;⟨fun ζ ζ ζ ζ ζ ζ ζ h I E' l r=>n _ _ _ _ _ _ _ h I (e.trans E') l r,fun ζ ζ ζ ζ ζ h I E'=>m _ _ _ _ _ h I (e.trans E')⟩
theorem F2.lo(e:Ex w w')(h:F2 (OR w) L' L):F2 (OR w') L' L:=h.imp fun ζ ζ h=>h.go e
theorem aZ.psh(s:aZ c d k)(hm:m=true→vz c Γ)(hL:F2 (OR w) L' L)(hs:F2 (VR w) st' st)(q:KQ Γ w Q Q' E):KV Γ C w (fun v W=>TR c m d Q k (v::st) L C W) fun v H=>ao c Γ.F d k E (v::st') L' H Q':=
 fun ζ ζ ζ ζ h I E r=>s hm h I (hL.lo E) (.cons r (hs.vr E)) (q.ex E)
theorem aZ.stt(s:aZ c d k)(hm:m=true→vz c Γ)(hL:F2 (OR w) L' L)(hs:F2 (VR w) st' st)(q:KQ Γ w Q Q' E):KS Γ C w (fun W=>TR c m d Q k st L C W) fun H=>ao c Γ.F d k E st' L' H Q':=
 fun ζ ζ h I E=>s hm h I (hL.lo E) (hs.vr E) (q.ex E)
theorem aZ.jn(s:aZ c d k)(hm:m=true→vz c Γ)(q:KQ Γ w Q Q' E):KQ Γ w (fun r L C W=>match r with | .nx st=>TR c m d Q k st L C W | r=>Q r L C W) (fun r L H=>match r with | .nx st=>ao c Γ.F d k E st L H Q' | r=>Q' r L H) E:=
 ⟨fun r' r L' L C W w' h I e l rr=>by
  induction r with
  | nx=>induction r' with
   | nx=>exact s hm h I l rr (q.ex e)
   | _=>exact rr.elim
  | brk=>cases r' with
   | brk=>exact let ⟨n,_⟩:=q;n _ _ _ _ _ _ _ h I e l rr
   | _=>exact rr.elim
  | cnt=>cases r' with
   | cnt=>exact let ⟨n,_⟩:=q;n _ _ _ _ _ _ _ h I e l rr
   | _=>exact rr.elim
  | ret=>induction r' with
   | ret=>exact let ⟨n,_⟩:=q;n _ _ _ _ _ _ _ h I e l rr
   | _=>exact rr.elim
  | exc=>exact (by induction r'<;>exact rr.elim),fun m L C W w' h I e=>let ⟨_,n⟩:=q;n _ _ _ _ _ h I e⟩
theorem vh{b:Bool}{p p' q q':Prop}(h:p→p')(h':q→q')(x:fO b p q):fO b p' q':=by
 induction b using Bool.casesOn
 ·exact h' x
 ·exact h x
theorem qD{n:Nat}{p:Prop}(h:xi n p):n≤1000∧p:=by
 unfold xi at h;cases e:S2 n 1000 with
 | true=>rw[e]at h;exact ⟨NJ e,h⟩
 | false=>rw[e]at h;exact h.elim
theorem pC{b:Bool}{p:Prop}(h:bif b then p else False):b=true∧p:=by
 induction b using Bool.casesOn with
 | true=>exact ⟨rfl,h⟩
 | false=>cases h
theorem EX(g:Gn):VR w (Gv g) (bif lf (Gv g) then tv (Gv g) else .v (Gv g)):=by
 induction g with
 | int=>exact .leaf rfl
 | fn=>exact ⟨rfl⟩
 | cls=>exact ⟨rfl⟩
 | bi=>exact ⟨rfl⟩
 | ty=>exact ⟨rfl⟩
theorem bF{K:UV→List UV→Prop}{K':V→List V→Prop}(h:F2 (VR w) st' st)(m:∀v' v r' r,VR w v' v→F2 (VR w) r' r→K v r→K' v' r')(q:iw st K):bu st' K':=by
 induction h with
 | nil=>cases q
 | cons h s=>exact m _ _ _ _ h s q
theorem iU{K:UV→UV→List UV→Prop}{K':V→V→List V→Prop}(h:F2 (VR w) st' st)(m:∀v' v u' u r' r,VR w v' v→VR w u' u→F2 (VR w) r' r→K v u r→K' v' u' r')(q:xV st K):hW st' K':=by
 induction h with
 | nil=>exact q.elim
 | cons h s=>induction s with
  | nil=>exact q.elim
  | cons h' s=>exact m _ _ _ _ _ _ h' h s q
theorem pW{N:Nat}{K:List UV→List UV→Prop}{K':List V→List V→Prop}(q:∀vs' vs st' st,vs'.length=N→F2 (VR w) vs' vs→F2 (VR w) st' st→K vs st→K' vs' st') :
  ∀{n st' st vs' vs},n+vs'.length=N→F2 (VR w) st' st→F2 (VR w) vs' vs→qY n st vs K→cX n st' vs' K':=by
 intro n
 induction n with
 | zero=>exact fun hl hs hv h=>q _ _ _ _ ((Ot _).symm.trans hl) hv hs h
 | succ n ih=>exact fun hl hs hv h=>bF hs (fun v' v r' r hx hs2 h=>ih (by rw[OY,← hl,Qu,OU]) hs2 (.cons hx hv) h) h
theorem D9{u:Option V}{u':Option UV}{K:UV→Prop}{K':V→Prop}(h:OR w u u')(m:∀v x,VR w v x→K x→K' v)(q:au u' K):au u K':=by
 induction u' with
 | none=>exact q.elim
 | some x=>induction u with
  | none=>exact h.elim
  | some v=>exact m _ _ h q
theorem Jb(h:F2 (OR w) L' L):∀i,OR w (nI L' i) (gB L i):=by
 induction h with
 | nil=>exact fun ζ=>trivial
 | cons h _ ih=>
  intro i
  induction i with
  | zero=>exact h
  | succ i=>exact ih i
theorem DY(h:F2 (OR w) L' L)(hv:VR w v x):∀i,F2 (OR w) (gN L' i v) (eD L i x):=by
 induction h with
 | nil=>
  intro i
  induction i with
  | zero=>exact .cons hv .nil
  | succ i ih=>exact .cons trivial ih
 | cons h r ih=>
  intro i
  induction i with
  | zero=>exact .cons hv r
  | succ i=>exact .cons h (ih i)
theorem yg{t:T}(h:Rt w.z v t):∀m i,F2 (OR w) (cw m i v) (f9 m i t):=by
 intro m
 induction m with
 | zero=>exact fun ζ=>.nil
 | succ m ih=>
  intro i
  induction i with
  | zero=>exact .cons h (ih m)
  | succ i=>exact .cons trivial (ih i)
theorem qz:∀{C:UL}{i:Nat},gB C i=some x→i<C.length
 | _::_,0,_=>Nat.zero_lt_succ _
 | _::r,i+1,h=>Nat.succ_lt_succ (qz (C:=r) h)
theorem uo{p:Prop} : ∀{C:UL}{i:Nat},pp C i p→i<C.length∧p
 | _::_,0,h=>⟨Nat.zero_lt_succ _,h⟩
 | _::r,i+1,h=>⟨Nat.succ_lt_succ (uo (C:=r) h).1,(uo (C:=r) h).2⟩
theorem mo:∀{cl:List (Str×Addr)}{i:Nat},i<cl.length→∃a,ev cl i=some a
 | _::_,0,_=>⟨_,rfl⟩
 | _::r,i+1,h=>mo (cl:=r) (P4 h)
theorem Bx{xs:List V}{ts:List T}{Z:AH}(e:w.z=Z)(f:F2 (Rt Z) xs ts)(hs:F2 (VR w) st' st):∀{n}{K:List UV→Prop},oJ n ts st K→xs.length=n∧∃u,K u∧F2 (VR w) (xs++st') u:=by
 subst e
 induction f with
 | nil=>
  intro n K h
  induction n with
  | zero=>exact ⟨rfl,_,h,hs⟩
  | succ n=>exact h.elim
 | cons h _ ih=>
  intro n K q
  induction n with
  | zero=>exact q.elim
  | succ n=>
   obtain ⟨e,u,g,r⟩:=ih q;exact ⟨Nw (· + 1) e,_,g,.cons h r⟩
theorem VR.tr{t:T}(h:Rt w.z v t):VR w v (.t t):=h
theorem VR.le(l:lf v=true):VR w v (tv v):=.leaf l
theorem VR.fn(l:lf v=false):VR w v (.v v):=⟨l⟩
theorem wp{v}(s:aZ c d k):aZ c d (.cst v k):=fun ζ ζ ζ ζ ζ ζ ζ ζ ζ ζ ζ ζ hm h I l r q=>s hm (pC h).2 I l (.cons (VR.le (pC h).1) r) q
theorem wf{i}(s:aZ c d k):aZ c d (.loc i k):=fun ζ ζ ζ ζ ζ ζ ζ ζ ζ ζ ζ ζ hm h I l r q=>D9 (Jb l i) (fun ζ ζ hx h=>s hm h I l (.cons hx r) q) h
theorem wj{g}(s:aZ c d k):aZ c d (.glo g k):=fun ζ ζ ζ ζ ζ ζ ζ ζ ζ ζ ζ ζ hm h I l r q=>s hm h I l (.cons (EX g) r) q
theorem wv{o}(s:aZ c d k):aZ c d (.bin o k):=fun ζ ζ ζ ζ ζ ζ ζ ζ ζ ζ ζ ζ hm h I l r q=>iU r (fun ζ ζ ζ ζ ζ ζ hx hy r h=>FO I hx hy h (s.psh hm l r q)) h
theorem wr{o}(s:aZ c d k):aZ c d (.cmp o k):=fun ζ ζ ζ ζ ζ ζ ζ ζ ζ ζ ζ ζ hm h I l r q=>iU r (fun ζ ζ ζ ζ ζ ζ hx hy r h=>Fv I hx hy (fun b h=>s hm h I l (.cons (VR.le rfl) r) q) h) h
theorem ww{o}(s:aZ c d k):aZ c d (.aug o k):=fun ζ ζ ζ ζ ζ ζ ζ ζ ζ ζ ζ ζ hm h I l r q=>iU r (fun ζ ζ ζ ζ ζ ζ hx hy r h=>FT hx hy (fun b h=>s hm h I l (.cons (VR.le rfl) r) q) h) h
theorem wc(s:aZ c d k):aZ c d (.neg k):=fun ζ Γ w Q ζ L C W E Q' ζ L' hm h I l r q=>bF r (fun ζ ζ r' ζ hx r h=>Eh (K':=fun v=>ao c Γ.F d k E (v::r') L' w.h Q') hx (fun b h=>s hm h I l (.cons (VR.le rfl) r) q) h) h
theorem wb(s:aZ c d k):aZ c d (.not k):=fun ζ ζ ζ ζ ζ ζ ζ ζ ζ ζ ζ ζ hm h I l r q=>bF r (fun ζ ζ ζ ζ hx r h=>mq hx (fun b h=>s hm h I l (.cons (VR.le rfl) r) q) h) h
theorem wx{n}(s:aZ c d k):aZ c d (.att n k):=fun ζ ζ ζ ζ ζ ζ ζ ζ ζ ζ ζ ζ hm h I l r q=>bF r (fun ζ ζ ζ ζ hx r h=>FU I hx h fun ζ ζ h hy=>s hm h I l (.cons hy r) q) h
theorem vX(s:aZ c d k):aZ c d (.sub k):=fun ζ ζ ζ ζ ζ ζ ζ ζ ζ ζ ζ ζ hm h I l r q=>iU r (fun ζ ζ ζ ζ ζ ζ hx hy r h=>Ao I hx hy h fun ζ ζ h hy=>s hm h I l (.cons (VR.tr hy) r) q) h
theorem vY(s:aZ c d k):aZ c d (.slc k):=fun ζ ζ ζ ζ ζ ζ ζ ζ ζ ζ ζ ζ hm h I l r q=>iU r (fun ζ ζ ζ ζ ζ ζ hx hy r h=>bF r (fun ζ ζ ζ ζ hz r h=>Cs I hz hx hy h (s.psh hm l r q)) h) h
theorem wd{n}(s:aZ c d k):aZ c d (.mth n k):=fun ζ ζ ζ ζ ζ ζ ζ ζ ζ ζ ζ ζ hm h I l r q=>bF r (fun ζ ζ ζ ζ hx r h=>Ei I hx (fun f h z=>s hm h I l (.cons hx (.cons (VR.fn z) r)) q) h) h
theorem wn{n}(s:aZ c d k):aZ c d (.dic n k):=fun ζ ζ ζ ζ ζ ζ ζ ζ ζ ζ ζ ζ hm h I l r q=>pW (fun ζ ζ ζ ζ ζ hv r h=>Ft I hv h (s.psh hm l r q)) rfl r .nil h
theorem we{n}(s:aZ c d k):aZ c d (.lst n k):=fun ζ ζ ζ ζ ζ ζ ζ ζ ζ ζ ζ ζ hm h I l r q=>pW (fun ζ ζ ζ ζ hl hv r h'=>by
 refine dm h' fun p e h'=>?_;obtain ⟨_,I',E',f⟩:=uy hv I .refl e;exact ((s.psh hm l r q).ex E').newL I' h' (f.len'▸hl▸Np (qD h).1 (by decide)) f) rfl r .nil (qD h).2
theorem vW{n}(s:aZ c d k):aZ c d (.tpl n k):=fun ζ ζ ζ ζ ζ ζ ζ ζ ζ ζ ζ ζ hm h I l r q=>pW (fun ζ ζ ζ ζ hl hv r h'=>by
 refine dm h' fun p e h'=>?_;obtain ⟨_,I',E',f⟩:=uy hv I .refl e;exact (((s.psh hm l r q).ex E').kp I' (x:=.t (.tup p.1)) h' rfl fun w' n E e=>.tup e (hl▸Np (qD h).1 (by decide)) (f.imp fun ζ ζ h=>h.go E.z))) rfl r .nil (qD h).2
theorem wt{n}(P:PF c)(s:aZ c d k):aZ c d (.cal n k):=fun ζ ζ ζ ζ ζ ζ ζ ζ ζ ζ ζ ζ hm h I l r q=>pW (fun ζ ζ ζ ζ ζ hv r h=>bF r (fun ζ ζ ζ ζ hx r h=>FC P I hx hv h (s.psh hm l r q) (let ⟨_,z⟩:=q;fun ζ ζ ζ h I E=>z _ _ _ _ _ h I E)) h) rfl r .nil h
theorem wi(s1:aZ c d t)(s2:aZ c d e)(s:aZ c d k):aZ c d (.ite t e k):=fun ζ ζ ζ ζ ζ ζ ζ ζ ζ ζ ζ ζ hm h I l r q=>bF r (fun ζ ζ ζ ζ hx r h=>mq hx (fun b=>vh (fun h=>s1 hm h I l r (s.jn hm q)) fun h=>s2 hm h I l r (s.jn hm q)) h) h
theorem wy(s1:aZ c d b)(s:aZ c d k):aZ c d (.and b k):=fun ζ ζ ζ ζ ζ ζ ζ ζ ζ ζ ζ ζ hm h I l r q=>bF r (fun ζ ζ ζ ζ hx r h=>mq hx (fun b=>vh (fun h=>s1 hm h I l r (s.jn hm q)) fun h=>s hm h I l (.cons (VR.le rfl) r) q) h) h
theorem zj(s1:aZ c d b)(s:aZ c d k):aZ c d (.or b k):=fun ζ ζ ζ ζ ζ ζ ζ ζ ζ ζ ζ ζ hm h I l r q=>bF r (fun ζ ζ ζ ζ hx r h=>mq hx (fun b=>vh (fun h=>s hm h I l (.cons (VR.le rfl) r) q) fun h=>s1 hm h I l r (s.jn hm q)) h) h
theorem v8{i}(s:aZ c d k):aZ c d (.put i k):=fun ζ ζ ζ ζ ζ ζ ζ ζ ζ ζ ζ ζ hm h I l r q=>bF r (fun ζ ζ ζ ζ hx r h=>s hm h I (DY l hx i) r q) h
theorem v4{n}(s:aZ c d k):aZ c d (.sat n k):=fun ζ ζ ζ ζ ζ ζ ζ ζ ζ ζ ζ ζ hm h I l r q=>iU r (fun ζ ζ ζ ζ ζ ζ hv hx r h=>Cw I hx hv h (s.stt hm l r q)) h
theorem vZ(s:aZ c d k):aZ c d (.sit k):=fun ζ ζ ζ ζ ζ ζ ζ ζ ζ ζ ζ ζ hm h I l r q=>iU r (fun ζ ζ ζ ζ ζ ζ hx hy r h=>bF r (fun ζ ζ ζ ζ hz r h=>DX I hx hy hz h (s.stt hm l r q)) h) h
theorem wa(s:aZ c d k):aZ c d (.pop k):=fun ζ ζ ζ ζ ζ ζ ζ ζ ζ ζ ζ ζ hm h I l r q=>bF r (fun ζ ζ ζ ζ hx r h=>s hm h I l r q) h
theorem wk{a b}(s:aZ c d k):aZ c d (.fst a b k):=fun ζ ζ ζ ζ ζ ζ ζ ζ ζ ζ ζ ζ hm h I l r q=>bF r (fun ζ ζ ζ ζ hx r h=>xX hx (fun m h=>⟨h.1,s hm h.2 I l (.cons (VR.le rfl) r) q⟩) h) h
theorem y9{o:Option T}{K:List T→Prop}(h:BA o K):∃ts,o=some (.tup ts)∧K ts:=by
 induction o with
 | none=>exact h.elim
 | some t=>induction t using T.casesOn with
  | tup ts=>exact ⟨ts,rfl,h⟩
  | _=>exact h.elim
theorem y8{H:AH}{xs:List V}{K:List V→Prop}(g:H a=some (.tup xs))(h:K xs):kz H (.ref a) K:=by unfold kz;dsimp only;rw[g];exact h
theorem vV{n}(s:aZ c d k):aZ c d (.unp n k):=fun ζ ζ ζ ζ ζ ζ ζ ζ ζ ζ ζ ζ hm h I l r q=>bF r (fun v' ζ ζ ζ hx r h=>by
 obtain ⟨ts,e,h⟩:=y9 h;refine zy I.toCr hx e fun a xs g ζ f=>?_;obtain ⟨hl,u,h,ru⟩:=Bx rfl f r h;exact y8 g ⟨hl,s hm h I l ru q⟩) h
theorem FX{H:AH}{o:Option V}{K:Option V→Prop}(g:H a=some (.cell o))(h:K o):yR H a K:=by unfold yR;rw[g];exact h
theorem ws{i}(s:aZ c d k):aZ c d (.cel i k):=fun ζ ζ ζ ζ ζ ζ ζ ζ ζ ζ ζ ζ hm h I l r q=>by
 refine dm h fun x e h=>?_;obtain ⟨a,ea⟩:=mo (I.cn▸qz e);obtain ⟨_,o,g,z⟩:=I.cs i a ea;show au (ev _ i) _;rw[ea];refine FX g ?_;replace z:=(e)▸z;exact D9 z (fun ζ ζ hx h=>s hm h I l (.cons hx r) q) (K:=fun v=>TR _ _ _ _ _ (v::_) _ _ _) h
end
end
section
section
variable{c:Cx}{d:Nat}{k b t e:I}{Γ:Gm}{w w' w'':Wd}{Q:UQ}{st:List UV}{L C:UL}{W:UW}{E:XP}{Q':QR}{st':List V}{L':Ls}{v:V}{x:UV}{a:Addr}{ts:List T}{xs:List V}
theorem nG:∀{C:UL}{i:Nat},i<C.length→gB (eD C i x) i=some x
 | _::_,0,_=>rfl
 | _::r,_+1,h=>nG (C:=r) (P4 h)
theorem nH:∀{C:UL}{i j:Nat},i<C.length→j≠i→gB (eD C i x) j=gB C j
 | _::_,0,0,_,n=>(n rfl).elim
 | _::_,0,_+1,_,_=>rfl
 | _::_,_+1,0,_,_=>rfl
 | _::r,_+1,_+1,h,n=>nH (C:=r) (P4 h) fun e=>n (Nw (· + 1) e)
theorem qf:∀{C:UL}{i:Nat},i<C.length→(eD C i x).length=C.length
 | _::_,0,_=>rfl
 | _::r,i+1,h=>Nw (· + 1) (qf (C:=r) (P4 h))
theorem aV.cel{i:Nat}(I:aV Γ w C W)(h:ev Γ.cl i=some a)(hi:i<C.length)(hv:VR w v x):aV Γ ⟨w.z,upd w.h a (.cell (some v)),w.A⟩ (eD C i x) W∧Ex w ⟨w.z,upd w.h a (.cell (some v)),w.A⟩:=by
 obtain ⟨f,oc,g,_⟩:=I.cs i a h;have ne:∀{y ob},w.h y=some ob→ob.isC=false→y≠a:=fun e hc q=>by rw[q,g]at e;injection e with e;subst e;exact NG hc
 have E:Ex w ⟨w.z,upd w.h a (.cell (some v)),w.A⟩:=⟨fun ζ ζ h=>h,fun ζ ζ h=>h⟩;refine ⟨⟨⟨fun y o h=>⟨oG (I.zs y o h).1 (ne (I.zs y o h).1 (I.zs y o h).2),(I.zs y o h).2⟩,I.nd,I.ln,fun j y o hj ho=>?_⟩,I.ex.trans E,I.le.updF f,I.fr,I.zz,fun k y hy=>?_,I.cd,(qf hi).trans I.cn⟩,E⟩
 ·obtain ⟨ob,hob,hc⟩:=I.inA (OP hj);exact (I.ow j y o hj ho).go E (fun n=>n) fun b e=>oG e (ne hob hc)
 ·obtain ⟨f2,oc2,g2,r⟩:=I.cs k y hy;by_cases hk:k=i
  ·subst hk;replace hy:=(h)▸hy;injection hy with hy;subst hy;exact ⟨f,_,aj _ _ _,nG hi▸VR.go E hv⟩
  ·rw[nH hi hk];exact ⟨f2,oc2,oG g2 (fun q=>hk (I.cd _ _ _ hy (q▸h))),r.go E⟩
theorem v9{i}(s:aZ c d k):aZ c d (.ptc i k):=fun ζ ζ ζ ζ ζ ζ ζ ζ ζ ζ ζ ζ hm h I l r q=>bF r (fun ζ ζ ζ ζ hx r h=>by
 obtain ⟨hi,h⟩:=uo h;obtain ⟨a,ea⟩:=mo (I.cn▸hi);obtain ⟨_,o,g,_⟩:=I.cs i a ea;obtain ⟨I',E'⟩:=I.cel ea hi hx;show au (ev _ i) _;rw[ea];exact FX g (s hm h I' (l.lo E') (r.vr E') (q.ex E'))) h
inductive Lp(Γ:Gm)(w:Wd)(J:KL)(L':Ls)(H':AH):Prop
 | mk(L C:UL)(W:UW)(w':Wd)(j:J L C W)(I:aV Γ w' C W)(E:Ex w w')(l:F2 (OR w') L' L)(e:w'.h=H')
theorem Lp.q{X:XP}{J K:KL}{J' K':Ls→AH→Prop}(E:Ex w w')(hJ:∀L H',Lp Γ w J L H'→J' L H')(hK:∀L H',Lp Γ w K L H'→K' L H')(q:KQ Γ w Q Q' X):KQ Γ w' (wX J K Q) (z3 J' K' Q') X:=
 ⟨fun r' r L2 L C W w2 h I E2 l rr=>by
  induction r with
  | nx=>induction r' with
   | nx=>exact hJ _ _ ⟨_,_,_,_,h,I,E.trans E2,l,rfl⟩
   | _=>exact rr.elim
  | brk=>induction r' with
   | brk=>exact hK _ _ ⟨_,_,_,_,h,I,E.trans E2,l,rfl⟩
   | _=>exact rr.elim
  | cnt=>induction r' with
   | cnt=>exact hJ _ _ ⟨_,_,_,_,h,I,E.trans E2,l,rfl⟩
   | _=>exact rr.elim
  | ret=>induction r' with
   | ret=>exact let ⟨n,_⟩:=q;n _ _ _ _ _ _ _ h I (E.trans E2) l rr
   | _=>exact rr.elim
  | exc=>exact (by induction r'<;>exact rr.elim),fun m L C W w2 h I E2=>let ⟨_,n⟩:=q;n _ _ _ _ _ h I (E.trans E2)⟩
theorem vU(sb:aZ c d b)(s:aZ c d k):aZ c d (.whl b k):=fun m' Γ w Q st L C W E Q' st' L' hm h I l r q=>by
 obtain ⟨n,h⟩:=h;refine ⟨fun n L' H'=>Lp Γ w (mJ (fun q=>TR c m' d q b []) (fun L C W=>TR c m' d Q k st L C W) Q n) L' H',n,⟨_,_,_,_,h,I,.refl,l,rfl⟩,fun m L1 H1 z=>?_⟩;obtain ⟨L2,C2,W2,w2,j,I2,E2,l2,rfl⟩:=z
 induction m with
 | zero=>exact j.elim
 | succ m=>exact sb hm j I2 l2 .nil (Lp.q E2 (fun L H z=>⟨m,QY _,z⟩) (fun L H ⟨_,_,_,_,h,I,E,l,e⟩=>e▸s hm h I l (r.vr E) (q.ex E)) q)
theorem F2.at_{R:V→T→Prop}(f:F2 R xs ts):∀{j:Nat},xs[j]? = some v→∃t,R v t∧ts.drop j=t::ts.drop (j+1):=by
 induction f with
 | nil=>exact fun h=>ac (List.getElem?_nil.symm.trans h)
 | cons h _ ih=>
  intro j e
  induction j with
  | zero=>injection e with e;subst e;exact ⟨_,h,rfl⟩
  | succ j=>exact ih e
theorem fc{z:AH}{o:O}(E:Ex ⟨z,w.h,w.A⟩ w')(I:Cr ⟨z,w.h,w.A⟩ W){W':UW}(I':Cr w' W')(g:z a=some o):bZ (.ref a) w.h w'.h:=((I'.zs a o (E.z a o g)).1).trans (I.zs a o g).1.symm
theorem wl{i}(sb:aZ c d b)(s:aZ c d k):aZ c d (.for i b k):=fun m' Γ w Q st L C W E Q' st' L' hm h I l r q=>bF r (fun v' v s1 s2 hx r h=>by
 obtain ⟨ts,W1,z,h,I1,E1,a,o,xs,rfl,g,it,ln,f⟩:=pn I hx h;refine ⟨xs,⟨a,o,rfl,(I1.zs a o g).1,it⟩,fun j L' H'=>Lp Γ ⟨z,w.h,w.A⟩ (cu (fun x q L=>TR c m' d q b [] (eD L i (.t x))) (fun L C W=>TR c m' d Q k s2 L C W) Q (ts.drop j)) L' H',⟨_,_,_,_,h,I1,.refl,l.lo E1,rfl⟩,fun j u L1 H1 hu y=>?_,fun L1 H1 y=>?_⟩
 ·obtain ⟨L2,C2,W2,w2,j2,I2,E2,l2,rfl⟩:=y;obtain ⟨t,hr,e⟩:=f.at_ hu;rw[e]at j2;exact ⟨fc E2 I1.toCr I2.toCr g,sb hm j2 I2 (DY l2 (VR.tr (hr.go E2.z)) i) .nil (Lp.q E2 (fun L H z=>z) (fun L H ⟨_,_,_,_,h,I,E,l,e⟩=>e▸s hm h I l (r.vr (E1.trans E)) ((q.ex E1).ex E)) (q.ex E1))⟩
 ·obtain ⟨L2,C2,W2,w2,j2,I2,E2,l2,rfl⟩:=y;rw[f.len',Sj]at j2;exact ⟨fc E2 I1.toCr I2.toCr g,s hm j2 I2 l2 (r.vr (E1.trans E2)) ((q.ex E1).ex E2)⟩) h
theorem aV.lm{m:Option kw}(I:aV Γ w C W):aV ⟨Γ.o,Γ.cl,m⟩ w C W:=⟨I.toCr,I.ex,I.le,I.fr,I.zz,I.cs,I.cd,I.cn⟩
inductive Cp{α β:Type}(F:AH→List α→List β→Prop)(Γ:Gm)(w:Wd)(n:Nat)(J:List β→UL→UW→Prop)(ys':List α)(H':AH):Prop
 | mk(ys:List β)(C:UL)(W:UW)(w':Wd)(j:J ys C W)(I:aV Γ w' C W)(E:Ex w w')(f:F w'.z ys' ys)(l:ys.length≤n)(e:w'.h=H')
theorem JG{k:Option T→UL→UW→Prop}{k':Option V→AH→Prop}(n:∀C W w',k none C W→aV Γ w' C W→Ex w w'→k' none w'.h)(s:∀t v C W w',k (some t) C W→aV Γ w' C W→Ex w w'→Rt w'.z v t→k' (some v) w'.h):KQ Γ w (cT k) (cQ k') pb:=
 ⟨fun r' r L3 L4 C W w' h I E l rr=>by
  induction r with
  | nx st=>induction r' with
   | nx st'=>induction rr with
    | nil=>exact n _ _ _ h I E
    | cons h1 r1=>induction r1 with
     | nil=>
      refine dm h fun p e h=>?_;obtain ⟨z5,I5,E5,r5⟩:=eJ I h1 e;exact s _ _ _ _ ⟨z5,_,_⟩ h I5 (E.trans E5) r5
     | cons=>exact h.elim
   | _=>exact rr.elim
  | _=>exact h.elim,fun ζ ζ ζ ζ ζ h=>h.elim⟩
theorem wg{m i}(sb:aZ c d b)(s:aZ c d k):aZ c d (.lcm m i b k):=fun m' Γ w Q st L C W E Q' st' L' hm h I l r q=>bF r (fun v' v s1 s2 hx r h=>by
 obtain ⟨ts,W1,z,h,I1,E1,a,o,xs,rfl,g,it,ln,f⟩:=pn I hx h;refine ⟨xs,⟨a,o,rfl,(I1.zs a o g).1,it⟩,fun j ys H'=>Cp (fun z=>F2 (Rt z)) Γ ⟨z,w.h,w.A⟩ j (bT (fun x C W kk=>TR c false d (cT kk) b [] (f9 m i x) C W) (fun ys C W=>cy (.l ys) W fun v W=>TR c m' d Q k (v::s2) L C W) (ts.drop j)) ys H',⟨_,_,_,_,h,I1,.refl,.nil,Oe _,rfl⟩,fun j u ys H1 hu y=>?_,fun ys H1 y=>?_⟩
 ·obtain ⟨ys2,C2,W2,w2,j2,I2,E2,f2,l2,rfl⟩:=y;obtain ⟨t,hr,e⟩:=f.at_ hu;rw[e]at j2;refine ⟨fc E2 I1.toCr I2.toCr g,f2.len'▸l2,sb (m:=false) (Γ:=⟨Γ.o,Γ.cl,none⟩) (fun h=>by exact NG h) j2 I2.lm (yg (hr.go E2.z) m i) .nil (JG (fun C W w3 h I E=>⟨_,_,_,_,h,I.lm,E2.trans E,?_,?_,rfl⟩) fun t v C W w3 h I E r=>⟨_,_,_,_,h,I.lm,E2.trans E,(f2.imp fun ζ ζ h=>h.go E.z).app (.cons r .nil),?_,rfl⟩)⟩
  ·exact (f2.imp fun ζ ζ h=>h.go E.z).app .nil
  ·show (ys2++[]).length≤_;rw[Nr];exact PH l2
  ·show (ys2++[t]).length≤_;rw[NH];exact QX l2
 ·obtain ⟨ys2,C2,W2,w2,j2,I2,E2,f2,l2,rfl⟩:=y;rw[f.len',Sj]at j2;exact ⟨fc E2 I1.toCr I2.toCr g,(s.psh hm (l.lo (E1.trans E2)) (r.vr (E1.trans E2)) (q.ex (E1.trans E2))).newL I2 j2 (Np l2 ln) f2⟩) h
theorem zg{x:UV}{K:Str→Prop}(h:sW x K):∃s,bW x=.str s∧K s:=by
 have h:iA (bW x) K:=h;cases e:bW x with
 | str s=>rw[e]at h;exact ⟨s,rfl,h⟩
 | _=>rw[e]at h;cases h
theorem Ju{k:Option (Str×T)→UL→UW→Prop}{k':Option (V×V)→AH→Prop}(n:∀C W w',k none C W→aV Γ w' C W→Ex w w'→k' none w'.h)(s:∀x t v C W w',k (some (x,t)) C W→aV Γ w' C W→Ex w w'→Rt w'.z v t→k' (some (.str x,v)) w'.h):KQ Γ w (dT k) (dQ k') pb:=
 ⟨fun r' r L3 L4 C W w' h I E l rr=>by
  induction r with
  | nx st=>induction r' with
   | nx st'=>induction rr with
    | nil=>exact n _ _ _ h I E
    | cons h1 r1=>induction r1 with
     | nil=>exact h.elim
     | cons h2 r2=>induction r2 with
      | nil=>
       obtain ⟨x,e,h⟩:=zg h;refine dm h fun p e1 h=>?_;obtain ⟨z5,I5,E5,r5⟩:=eJ I h1 e1;exact IB h2 e▸s _ _ _ _ _ ⟨z5,_,_⟩ h I5 (E.trans E5) r5
      | cons=>exact h.elim
   | _=>exact rr.elim
  | _=>exact h.elim,fun ζ ζ ζ ζ ζ h=>h.elim⟩
theorem wo{m i}(sb:aZ c d b)(s:aZ c d k):aZ c d (.dcm m i b k):=fun m' Γ w Q st L C W E Q' st' L' hm h I l r q=>bF r (fun v' v s1 s2 hx r h=>by
 obtain ⟨ts,W1,z,h,I1,E1,a,o,xs,rfl,g,it,ln,f⟩:=pn I hx h;refine ⟨xs,⟨a,o,rfl,(I1.zs a o g).1,it⟩,fun j ys H'=>Cp (fun z=>dR (Rt z)) Γ ⟨z,w.h,w.A⟩ j (kR (fun x C W kk=>TR c false d (dT kk) b [] (f9 m i x) C W) (fun ys C W=>cy (.d ys) W fun v W=>TR c m' d Q k (v::s2) L C W) (ts.drop j)) ys H',⟨_,_,_,_,h,I1,.refl,.nil,Oe _,rfl⟩,fun j u ys H1 hu y=>?_,fun ys H1 y=>?_⟩
 ·obtain ⟨ys2,C2,W2,w2,j2,I2,E2,f2,l2,rfl⟩:=y;obtain ⟨t,hr,e⟩:=f.at_ hu;rw[e]at j2;exact ⟨fc E2 I1.toCr I2.toCr g,f2.len▸l2,sb (m:=false) (Γ:=⟨Γ.o,Γ.cl,none⟩) (fun h=>by exact NG h) j2 I2.lm (yg (hr.go E2.z) m i) .nil (Ju (fun C W w3 h I E=>⟨_,_,_,_,h,I.lm,E2.trans E,f2.imp fun ζ ζ h=>h.go E.z,PH l2,rfl⟩) fun x t v C W w3 h I E r=>⟨_,_,_,_,h,I.lm,E2.trans E,(f2.imp fun ζ ζ h=>h.go E.z).set r,Np cZ (QX l2),rfl⟩)⟩
 ·obtain ⟨ys2,C2,W2,w2,j2,I2,E2,f2,l2,rfl⟩:=y;rw[f.len',Sj]at j2;exact ⟨fc E2 I1.toCr I2.toCr g,fun ep=>(s.psh hm (l.lo (E1.trans E2)) (r.vr (E1.trans E2)) (q.ex (E1.trans E2))).new (o:=.d _) I2 j2 fun w' n E z e=>⟨_,_,z,e,f2.len▸Np l2 ln,f2.imp fun ζ ζ h=>h.go E.z⟩⟩) h
theorem wm:aZ c d .fin:=fun _ _ _ _ _ _ _ _ _ _ _ _ _ h I l r ⟨n,_⟩=>n _ _ _ _ _ _ _ h I .refl l r
theorem ak:aZ c d .bad:=fun ζ ζ ζ ζ ζ ζ ζ ζ ζ ζ ζ ζ ζ h=>h.elim
theorem wu:aZ c d .brk:=fun _ _ _ _ _ _ _ _ _ _ _ _ _ h I l r ⟨n,_⟩=>n _ _ _ _ _ _ _ h I .refl l trivial
theorem wq:aZ c d .cnt:=fun _ _ _ _ _ _ _ _ _ _ _ _ _ h I l r ⟨n,_⟩=>n _ _ _ _ _ _ _ h I .refl l trivial
theorem v5:aZ c d .rtn:=fun _ _ _ _ _ _ _ _ _ _ _ _ _ h I l r ⟨n,_⟩=>bF r (fun ζ ζ ζ ζ hx r h=>n (.ret _) (.ret _) _ _ _ _ _ h I .refl l hx) h
theorem Bz{p p':Prop}(h:p→p')(x:sO d p):sO d p':=by
 unfold sO at x ⊢;split at x
 ·exact h x
 ·exact x.elim
theorem v6:aZ c d .rse:=fun _ _ _ _ _ _ _ _ _ _ _ _ _ h I l r ⟨_,n⟩=>bF r (fun ζ ζ ζ ζ hx r h=>xX hx (fun m h=>Bz (fun h=>n m _ _ _ _ h I .refl) h) h) h
noncomputable def GZ:I→I
 | .cal _ k=>k
 | _=>.bad
theorem lF{k:I}(z:∀m Q st L C W,TR c m d Q k st L C W=False):aZ c d k:=fun ζ ζ ζ ζ ζ ζ ζ ζ ζ ζ ζ ζ ζ h=>by rw[z]at h;exact h.elim
theorem wh{b sc p}(h:aZ c d (GZ k)):aZ c d (.lam b sc p k):=by
 induction k using I.casesOn with
 | cal n k=>
  rcases n with _ | _ | n
  ·exact lF fun ζ ζ ζ ζ ζ ζ=>rfl
  ·exact fun m Γ w Q st L C W E Q' st' L' hm g I l r q=>by
    have g:=pC g
    induction r with
    | nil=>exact g.2.elim
    | cons hx r=>exact g.2 Γ w _ _ E (hm g.1) I hx (h.psh hm l r q)
  ·exact lF fun ζ ζ ζ ζ ζ ζ=>rfl
 | _=>exact lF fun ζ ζ ζ ζ ζ ζ=>rfl
theorem lG(P:PF c)(k:I):aZ c d k∧aZ c d (GZ k):=
 I.rec (motive:=fun k=>aZ c d k∧aZ c d (GZ k)) ⟨wm,ak⟩ ⟨ak,ak⟩ ⟨v5,ak⟩ ⟨wu,ak⟩ ⟨wq,ak⟩ ⟨v6,ak⟩
  (fun ζ ζ h=>⟨wp h.1,ak⟩) (fun ζ ζ h=>⟨wf h.1,ak⟩) (fun ζ ζ h=>⟨ws h.1,ak⟩) (fun ζ ζ h=>⟨wj h.1,ak⟩) (fun ζ ζ h=>⟨wv h.1,ak⟩) (fun ζ ζ h=>⟨wr h.1,ak⟩) (fun ζ ζ h=>⟨ww h.1,ak⟩)
  (fun ζ h=>⟨wc h.1,ak⟩) (fun ζ h=>⟨wb h.1,ak⟩) (fun ζ ζ h=>⟨wx h.1,ak⟩) (fun ζ h=>⟨vX h.1,ak⟩) (fun ζ h=>⟨vY h.1,ak⟩) (fun ζ ζ h=>⟨we h.1,ak⟩) (fun ζ ζ h=>⟨vW h.1,ak⟩) (fun ζ ζ h=>⟨wn h.1,ak⟩)
  (fun ζ ζ h=>⟨wt P h.1,h.1⟩) (fun ζ ζ h=>⟨wd h.1,ak⟩) (fun ζ ζ ζ h1 h2 h=>⟨wi h1.1 h2.1 h.1,ak⟩) (fun ζ ζ h1 h=>⟨wy h1.1 h.1,ak⟩) (fun ζ ζ h1 h=>⟨zj h1.1 h.1,ak⟩) (fun ζ ζ ζ ζ h1 h=>⟨wg h1.1 h.1,ak⟩) (fun ζ ζ ζ ζ h1 h=>⟨wo h1.1 h.1,ak⟩)
  (fun ζ ζ ζ ζ h=>⟨wh h.2,ak⟩) (fun ζ ζ h=>⟨v8 h.1,ak⟩) (fun ζ ζ h=>⟨v9 h.1,ak⟩) (fun ζ ζ h=>⟨v4 h.1,ak⟩) (fun ζ h=>⟨vZ h.1,ak⟩) (fun ζ ζ h=>⟨vV h.1,ak⟩) (fun ζ h=>⟨wa h.1,ak⟩) (fun ζ ζ h1 h=>⟨vU h1.1 h.1,ak⟩) (fun ζ ζ ζ h1 h=>⟨wl h1.1 h.1,ak⟩)
  (fun ζ ζ=>⟨lF fun ζ ζ ζ ζ ζ ζ=>rfl,ak⟩) (fun ζ ζ ζ h=>⟨wk h.1,ak⟩) k
end
end
section
noncomputable def o9:List UV→Nat→Option UV
 | [],_=>none
 | v::_,0=>some v
 | _::r,n+1=>o9 r n
noncomputable def pM(vs:List UV):Option Nat→Option UV
 | some i=>o9 vs i
 | none=>none
noncomputable def rE(vs:List UV):List (Option Nat)→UL
 | []=>[]
 | o::r=>pM vs o::rE vs r
noncomputable def Bm:List (Option Nat)→List UV→List Str→UL→(UL→Prop)→Prop
 | o::r,vs,_::ns,C,k=>Bm r vs ns (pM vs o::C) k
 | _,_,_,C,k=>k C
noncomputable def KD:List (Option Nat)→List Str→List Str→List Str
 | _::r,n::ns,a=>KD r ns (n::a)
 | _,_,a=>a
noncomputable def jX:Nat→List Nat
 | 0=>[]
 | n+1=>jX n++[n]
inductive gK(n:Nat)(q:Rq→Prop)(v:UV)(W:UW):Prop
 | k(r:List Nat){v' W'}(hn:nk (jX n++r)=true)(e:qd (jX n++r) v=some v')(s:bX (jX n++r) (jX n++r) W=some W')(hq:q (.r v' W'))
 | t{t W1 W'}(e:frz W v=some (t,W1))(hn:nk (jX n++[])=true)(s:bX (jX n++[]) (jX n++[]) W1=some W')(hq:q (.r (.t t) W'))
inductive Bc(n:Nat)(q:Rq→Prop)(m:Str)(W:UW):Prop
 | mk{W'}(hn:nk (jX n++[])=true)(s:bX (jX n++[]) (jX n++[]) W=some W')(hq:q (.e m W'))
noncomputable def lJ(n:Nat)(q:Rq→Prop):UQ
 | .nx _,_,_,W=>gK n q (tv .none) W
 | .ret v,_,_,W=>gK n q v W
 | .exc m,_,_,W=>Bc n q m W
 | _,_,_,_=>False
def defT(c:Cx)(m:Bool)(d:Nat)(D:DC)(vs:List UV)(W:UW)(Q:UQ):Prop:=Bm D.cin vs D.cn [] fun C=>TR c m d Q D.body [] (rE vs D.ini) C W
section
variable{Γ:Gm}{w w':Wd}{c:Cx}{d n:Nat}{C:UL}{W W':UW}{vs:List V}{xs:List UV}{a:Addr}{o:Option V}{x:Option UV}{s:Str}{q:Rq→Prop}{D:DC}{ks r:List Nat}
theorem sK:∀{n j:Nat}{r:List Nat},j<n→(jX n++r)[j]? = some j
 | n+1,j,r,h=>by
  show (jX n++[n]++r)[j]? = some j;rw[Om];rcases Nat.lt_or_eq_of_le (QF h) with h | rfl
  ·exact sK h
  ·have:∀n,(jX n).length=n:=fun n=>by
    induction n with
    | zero=>rfl
    | succ n ih=>exact List.length_append.trans (Nw (· + 1) ih)
   rw[Qn (NL (this j)),this j,Nat.sub_self];rfl
theorem aV.cut(I:aV Γ w C W)(hn:nk (jX Γ.o.A.length++r)=true)(e:bX (jX Γ.o.A.length++r) (jX Γ.o.A.length++r) W=some W'):aV ⟨Γ.o,[],none⟩ (w.sel (jX Γ.o.A.length++r)) [] W':=
 ⟨I.toCr.sel hn e,⟨I.ex.z,fun j a h=>o0 (sK (List.getElem?_eq_some_iff.mp h).1) (I.ex.p j a h)⟩,I.le,fun a h=>I.fr a ((I.toCr.selA e).2 a h),I.zz,nofun,nofun,rfl⟩
theorem aV.cell(I:aV Γ w C W)(ha:w.h a=none)(h:OR w o x):aV ⟨Γ.o,(s,a)::Γ.cl,Γ.lm⟩ ⟨w.z,upd w.h a (.cell o),w.A⟩ (x::C) W∧Ex w ⟨w.z,upd w.h a (.cell o),w.A⟩:=by
 have E:Ex w ⟨w.z,upd w.h a (.cell o),w.A⟩:=⟨fun ζ ζ h=>h,fun ζ ζ h=>h⟩;have ne:∀{i},ev Γ.cl i=some a→False:=fun e=>by
  obtain ⟨_,_,g,_⟩:=I.cs _ _ e;exact ac (ha.symm.trans g)
 refine ⟨⟨⟨fun y o h=>⟨updF (I.zs y o h).1 ha,(I.zs y o h).2⟩,I.nd,I.ln,fun j y o hj ho=>(I.ow j y o hj ho).go E (fun n=>n) fun b e=>updF e ha⟩,I.ex.trans E,I.le.updF (I.le.dom a ha),I.fr,I.zz,fun i b e=>?_,fun i j b e e'=>?_,Nw (· + 1) I.cn⟩,E⟩
 ·induction i using Pw with
  | zero=>injection e with e;subst e;exact ⟨I.le.dom _ ha,_,aj _ _ _,h.go E⟩
  | succ i=>obtain ⟨f,o2,g,r⟩:=I.cs i b e;exact ⟨f,o2,updF g ha,r.go E⟩
 ·induction i using Pw with
  | zero=>cases j with
   | zero=>rfl
   | succ j=>injection e with e;subst e;exact (ne e').elim
  | succ i=>induction j using Pw with
   | zero=>injection e' with e';subst e';exact (ne e).elim
   | succ j=>exact Nw (· + 1) (I.cd i j b e e')
theorem Ec(h:F2 (VR w) vs xs):∀i,OR w (nth vs i) (o9 xs i):=by
 induction h with
 | nil=>exact fun ζ=>trivial
 | cons h _ ih=>
  intro i
  induction i using Pw with
  | zero=>exact h
  | succ i=>exact ih i
theorem yS(h:F2 (VR w) vs xs)(o:Option Nat):OR w (jP vs o) (pM xs o):=by
 induction o using Option.casesOn with
 | none=>exact trivial
 | some i=>exact Ec h i
theorem yx(h:F2 (VR w) vs xs)(l:List (Option Nat)):F2 (OR w) (fq vs l) (rE xs l):=by
 induction l with
 | nil=>exact .nil
 | cons o r ih=>exact .cons (yS h o) ih
theorem tj{K:UL→Prop}{K':List (Str×Addr)→AH→Prop}{w₀:Wd}{lm:Option kw}{ci:List (Option Nat)} : ∀{ns cl C w},aV ⟨w₀,cl,lm⟩ w C W→F2 (VR w) vs xs→Bm ci xs ns C K→
  (∀cl' C w',K C→cl'.map (·.1)=KD ci ns (cl.map (·.1))→aV ⟨w₀,cl',lm⟩ w' C W→F2 (VR w') vs xs→K' cl' w'.h)→mS ci vs ns cl w.h K':=by
 induction ci with
 | nil=>exact fun I hv h q=>q _ _ _ h rfl I hv
 | cons o r ih=>
  intro ns cl C w I hv h q
  induction ns using List.casesOn with
  | nil=>exact q _ _ _ h rfl I hv
  | cons n ns=>
   intro a ha;obtain ⟨I',E⟩:=I.cell (s:=n) ha (yS hv o);exact ih I' (hv.vr E) h q
theorem qF{Q:Q1}{u:V}{v:UV}(n:Nat)(hA:Γ.o.A.length=n)(I:aV Γ w C W)(hv:VR w u v)(h:gK n q v W)(qr:∀v W' u w',q (.r v W')→aV ⟨Γ.o,[],none⟩ w' [] W'→Ex Γ.o w'→VR w' u v→Q u w'.h):Q u w.h:=by
 subst hA
 induction h with
 | k r hn e s hq=>
  have I':=I.cut hn s;exact qr _ _ _ (w.sel _) hq I' I'.ex (qc hv e)
 | t e hn s hq=>
  obtain ⟨z,I1,E1,r1⟩:=eJ I hv e;have I':=I1.cut hn s;exact qr _ _ _ (Wd.sel ⟨z,w.h,w.A⟩ _) hq I' I'.ex r1
theorem ae(P:PF c)(i:Nat){n:Nat}(h1:uR i n=true)(h2:aX i=D)(hl:xs.length=n)(h:defT c false d D xs W (lJ W.length q)):de c (d+1) (A i) xs W q:=by
 intro w us I hv Q E qr qe;refine P.cN i h1 h2 (hv.len'.trans hl) ?_;refine tj (w₀:=w) (lm:=none) I.inv hv h fun cl C w1 h ζ I1 hv1=>?_;refine (lG P D.body).1 (m:=false) (Γ:=⟨w,cl,none⟩) nofun h I1 (yx hv1 _) .nil ⟨fun r' r L' L C W2 w2 h I2 E2 l rr=>?_,fun m L C W2 w2 h I2 E2=>?_⟩
 ·induction r using Rz.casesOn with
  | nx=>cases r' with
   | nx=>exact qF (Γ:=⟨w,cl,none⟩) _ I.ln I2 (v:=tv .none) (.leaf rfl) h qr
   | _=>exact rr.elim
  | ret=>cases r' with
   | ret=>exact qF (Γ:=⟨w,cl,none⟩) _ I.ln I2 rr h qr
   | _=>exact rr.elim
  | exc=>cases r'<;>exact rr.elim
  | _=>exact h.elim
 ·obtain ⟨hn,s,hq⟩:=h;have I':=aV.cut (Γ:=⟨w,cl,none⟩) I2 (I.ln.symm▸hn) (I.ln.symm▸s);exact qe _ _ (w2.sel _) hq I' I'.ex
end
end
section
def be(c:Cx)(m:Bool)(d:Nat)(Q:UQ)(k:I)(st:List UV)(L C:UL)(W:UW):Prop:=TR c m d Q k st L C W
noncomputable def jU(c:Cx)(m:Bool)(d:Nat)(Q:UQ)(k:I):UQ:=fun r L C W=>match r with | .nx st=>be c m d Q k st L C W | r=>Q r L C W
section
variable(c:Cx)(m:Bool)(d:Nat)(Q:UQ)(k:I)(st:List UV)(L C:UL)
def K1(W:UW)(v:UV):Prop:=be c m d Q k (v::st) L C W
def K2(v:UV)(W:UW):Prop:=be c m d Q k (v::st) L C W
def Kb(W:UW)(b:Bool):Prop:=be c m d Q k (tb b::st) L C W
def Ki(W:UW)(i:Int):Prop:=be c m d Q k (ti i::st) L C W
def Kt(W:UW)(t:T):Prop:=be c m d Q k (.t t::st) L C W
def Kw(W:UW):Prop:=be c m d Q k st L C W
def Km(W:UW)(v:UV)(f:V):Prop:=be c m d Q k (v :: .v f::st) L C W
def Kx(s:Str)(W:UW):Prop:=Q (.exc s) L C W
def Kf(L C:UL)(W:UW):Prop:=be c m d Q k st L C W
def Kl(ys:List T)(C:UL)(W:UW):Prop:=cy (.l ys) W (K2 c m d Q k st L C)
def Nj(ys:List (Str×T))(C:UL)(W:UW):Prop:=cy (.d ys) W (K2 c m d Q k st L C)
noncomputable def Bf(i:Nat)(x:T)(q:UQ)(L:UL):UL→UW→Prop:=be c m d q k [] (eD L i (.t x))
def Bl(n i:Nat)(x:T)(C:UL)(W:UW)(kk:Option T→UL→UW→Prop):Prop:=be c false d (cT kk) k [] (f9 n i x) C W
def Bd(n i:Nat)(x:T)(C:UL)(W:UW)(kk:Option (Str×T)→UL→UW→Prop):Prop:=be c false d (dT kk) k [] (f9 n i x) C W
noncomputable def Bw(q:UQ):KL:=be c m d q k []
end
section
variable(c:Cx)(m:Bool)(d:Nat)(k b t e:I)(st:List UV)(L C:UL)(W:UW)(Q:UQ)(v u a f:UV)(i n:Nat)(g:Gn)(nm:Str)(op:Ph)(cp:CmpOp)(x y:Bool)(z:Int)
theorem BZ:TR c m d Q .fin st L C W=Q (.nx st) L C W:=rfl
theorem BJ:TR c m d Q .rtn (v::st) L C W=Q (.ret v) L C W:=rfl
theorem B6:TR c m d Q .brk st L C W=Q .brk L C W:=rfl
theorem B2:TR c m d Q .cnt st L C W=Q .cnt L C W:=rfl
theorem BK:TR c m (d+2) Q .rse (tS nm::st) L C W=Q (.exc nm) L C W:=rfl
theorem G9:TR c m d Q (.cst .none k) st L C W=TR c m d Q k (tv .none::st) L C W:=rfl
theorem Hb:TR c m d Q (.cst (.bool x) k) st L C W=TR c m d Q k (tb x::st) L C W:=rfl
theorem Ha:TR c m d Q (.cst (.int z) k) st L C W=TR c m d Q k (ti z::st) L C W:=rfl
theorem G8:TR c m d Q (.cst (.str nm) k) st L C W=TR c m d Q k (tS nm::st) L C W:=rfl
theorem BS:TR c m d Q (.loc i k) st L C W=au (gB L i) fun v=>TR c m d Q k (v::st) L C W:=rfl
theorem B4:TR c m d Q (.cel i k) st L C W=au (gB C i) fun v=>TR c m d Q k (v::st) L C W:=rfl
theorem G5:TR c m d Q (.glo (.fn i) k) st L C W=TR c m d Q k (.v (.ref (A i))::st) L C W:=rfl
theorem G6(a:Addr):TR c m d Q (.glo (.cls a) k) st L C W=TR c m d Q k (.v (.ref a)::st) L C W:=rfl
theorem G7(s:String):TR c m d Q (.glo (.bi s) k) st L C W=TR c m d Q k (.v (.bi s)::st) L C W:=rfl
theorem G3(s:String):TR c m d Q (.glo (.ty s) k) st L C W=TR c m d Q k (.v (.ty s)::st) L C W:=rfl
theorem G4:TR c m d Q (.glo (.int z) k) st L C W=TR c m d Q k (ti z::st) L C W:=rfl
theorem B7:TR c m d Q (.bin op k) (v::u::st) L C W=n7 op u v W (K2 c m d Q k st L C):=rfl
theorem B3:TR c m d Q (.cmp cp k) (v::u::st) L C W=cF cp u v W (Kb c m d Q k st L C W):=rfl
theorem B8:TR c m d Q (.aug op k) (v::u::st) L C W=mr op (bW u) (bW v) (Ki c m d Q k st L C W):=rfl
theorem BP:TR c m d Q (.neg k) (ti z::st) L C W=TR c m d Q k (ti (-z)::st) L C W:=rfl
theorem BO:TR c m d Q (.not k) (tb x::st) L C W=TR c m d Q k (tb (!x)::st) L C W:=rfl
theorem B9:TR c m d Q (.att nm k) (v::st) L C W=ew c nm W (K1 c m d Q k st L C W) v:=rfl
theorem BF:TR c m d Q (.sub k) (v::u::st) L C W=ed u v W (Kt c m d Q k st L C W):=rfl
theorem BG:TR c m d Q (.slc k) (v::u::a::st) L C W=hO c W (K2 c m d Q k st L C) a u v:=rfl
theorem B0:TR c m d Q (.dic n k) st L C W=qY n st [] fun vs st=>pS W (K2 c m d Q k st L C) vs:=rfl
theorem BR:TR c m d Q (.lst n k) st L C W=xi n (qY n st [] fun vs st=>au (et vs W) fun p=>cy (.l p.1) p.2 (K2 c m d Q k st L C)):=rfl
theorem BE:TR c m d Q (.tpl n k) st L C W=xi n (qY n st [] fun vs st=>au (et vs W) fun p=>be c m d Q k (.t (.tup p.1)::st) L C p.2):=rfl
theorem B5:TR c m d Q (.cal n k) st L C W=qY n st [] fun vs st=>iw st fun f st=>rU c d f vs W (K2 c m d Q k st L C) (Kx Q L C):=rfl
theorem BQ:TR c m d Q (.mth nm k) (v::st) L C W=rz c W (Km c m d Q k st L C W v) nm v:=rfl
theorem BV:TR c m d Q (.ite t e k) (tb x::st) L C W=fO x (be c m d (jU c m d Q k) t st L C W) (be c m d (jU c m d Q k) e st L C W):=rfl
theorem Ca:TR c m d Q (.and b k) (tb x::st) L C W=fO x (be c m d (jU c m d Q k) b st L C W) (be c m d Q k (tb false::st) L C W):=rfl
theorem G2:TR c m d Q (.or b k) (tb x::st) L C W=fO x (be c m d Q k (tb true::st) L C W) (be c m d (jU c m d Q k) b st L C W):=rfl
theorem BU(n i:Nat):TR c m d Q (.lcm n i b k) (v::st) L C W=ec W v fun xs W=>bT (Bl c d b n i) (Kl c m d Q k st L) xs [] C W:=rfl
theorem B1(n i:Nat):TR c m d Q (.dcm n i b k) (v::st) L C W=ec W v fun xs W=>kR (Bd c d b n i) (Nj c m d Q k st L) xs [] C W:=rfl
theorem BL:TR c m d Q (.put i k) (v::st) L C W=TR c m d Q k st (eD L i v) C W:=rfl
theorem BM:TR c m d Q (.ptc i k) (v::st) L C W=pp C i (TR c m d Q k st L (eD C i v) W):=rfl
theorem BI:TR c m d Q (.sat nm k) (u::v::st) L C W=sj c W (Kw c m d Q k st L C) nm v u:=rfl
theorem BH:TR c m d Q (.sit k) (v::u::a::st) L C W=sk W (Kw c m d Q k st L C) u v a:=rfl
theorem BN:TR c m d Q (.pop k) (v::st) L C W=TR c m d Q k st L C W:=rfl
theorem BC:TR c m d Q (.whl b k) st L C W=∃n,mJ (Bw c m d b) (Kf c m d Q k st) Q n L C W:=rfl
theorem BX:TR c m d Q (.for i b k) (v::st) L C W=ec W v fun xs W=>cu (Bf c m d b i) (Kf c m d Q k st) Q xs L C W:=rfl
theorem BW(p q:Str):TR c m d Q (.fst p q k) (tS nm::st) L C W=(nm.length≤1000∧be c m d Q k (tS (QE++p++nm++q)::st) L C W):=rfl
theorem EP:jU c m d Q k (.nx st) L C W=be c m d Q k st L C W:=rfl
theorem Ak:jU c m d Q k (.ret v) L C W=Q (.ret v) L C W:=rfl
theorem An:jU c m d Q k .brk L C W=Q .brk L C W:=rfl
theorem Am:jU c m d Q k .cnt L C W=Q .cnt L C W:=rfl
theorem Al:jU c m d Q k (.exc nm) L C W=Q (.exc nm) L C W:=rfl
theorem BD(xs:List T):TR c m d Q (.unp n k) (.t (.tup xs)::st) L C W=oJ n xs st fun st=>be c m d Q k st L C W:=rfl
theorem Lf(q:List UV→Prop):oJ 0 [] st q=q st:=rfl
theorem Ld(t:T)(r:List T)(q:List UV→Prop):oJ (n+1) (t::r) st q=oJ n r st fun st=>q (.t t::st):=rfl
end
section
variable(W W':UW)(o:WO)(v u:UV)(t:T)(st vs:List UV)(ts:List T)(n j m:Nat)(js ks:List Nat)(kT:T→UW→Prop)(kS:List T→UW→Prop)(kV:KU)(kk:List UV→List UV→Prop)(k1:UV→List UV→Prop)(L C:UL)(w:Option UV)(p:Prop)(f:V)(a:Addr)(q:Rq→Prop)
theorem Jd:af (o::W) 0=some o:=rfl
theorem Jc:af (o::W) (n+1)=af W n:=rfl
theorem sW_0(o':WO):ar (o::W) 0 o'=o'::W:=rfl
theorem sW_s(o':WO):ar (o::W) (n+1) o'=o::ar W n o':=rfl
theorem Jg:gB (w::L) 0=w:=rfl
theorem Jf:gB (w::L) (n+1)=gB L n:=rfl
theorem Ie:eD (w::L) 0 v=some v::L:=rfl
theorem Ic:eD (w::L) (n+1) v=w::eD L n v:=rfl
theorem Ij:f9 0 n t=[]:=rfl
theorem Ii:f9 (j+1) 0 t=some (.t t)::f9 j j t:=rfl
theorem Ih:f9 (j+1) (n+1) t=none::f9 j n t:=rfl
theorem I9:pp (w::L) 0 p=p:=rfl
theorem I8:pp (w::L) (n+1) p=pp L n p:=rfl
theorem GD:frz W (.t t)=some (t,W):=rfl
theorem vC:frz W (.w j)=(match af W j with | some (.v k it at_ lo)=>jB W j k it at_ lo | _=>eK W (.w j)):=rfl
theorem sz:eK W (.w j)=(af W j).bind fun o=>(mY o).bind fun t=>some (t,ar W j (.z t)):=rfl
theorem La:mY (.l ts)=some (.list ts):=rfl
theorem Lb(es:List (Str×T)):mY (.d es)=some (.dict es):=rfl
theorem K9:mY (.z t)=some t:=rfl
theorem GY:et [] W=some ([],W):=rfl
theorem lk:et (v::vs) W=(frz W v).bind fun p=>(et vs p.2).bind fun q=>some (p.1::q.1,q.2):=rfl
theorem m9{α β:Type}(x:α)(f:α→Option β):(some x).bind f=f x:=rfl
theorem MR:ec W (.t (.list ts)) kS=kS ts W:=rfl
theorem MQ:ec W (.t (.tup ts)) kS=kS ts W:=rfl
theorem MS(es:List (Str×T)):ec W (.t (.dict es)) kS=kS (es.map fun p=>.leaf (.str p.1)) W:=rfl
theorem KO(lo hi:Int):ec W (.k (.rng lo hi)) kS=kS ((aW lo hi).map .leaf) W:=rfl
theorem MP:ec W (.w j) kS=au (frz W (.w j)) fun p=>au (Ap p.1) fun ts=>kS ts p.2:=rfl
theorem MU:Ap (.list ts)=some ts:=rfl
theorem MT(es:List (Str×T)):Ap (.dict es)=some (es.map fun p=>.leaf (.str p.1)):=rfl
theorem G1:iw (v::st) k1=k1 v st:=rfl
theorem Hd:qY 0 st vs kk=kk vs st:=rfl
theorem Hc:qY (n+1) (v::st) vs kk=qY n st (v::vs) kk:=rfl
theorem MK:cy o W kV=kV (.w W.length) (W++[o]):=rfl
theorem JH(k:Option T→UL→UW→Prop):cT k (.nx [v]) L C W=au (frz W v) fun p=>k (some p.1) C p.2:=rfl
theorem JI(k:Option T→UL→UW→Prop):cT k (.nx []) L C W=k none C W:=rfl
theorem Jw(k:Option (Str×T)→UL→UW→Prop):dT k (.nx []) L C W=k none C W:=rfl
theorem Jv(k:Option (Str×T)→UL→UW→Prop)(s:Str):dT k (.nx [v,tS s]) L C W=au (frz W v) fun p=>k (some (s,p.1)) C p.2:=rfl
theorem MZ (c d E):rU c d (.v (.ref a)) vs W kV E=iH c d W kV E a vs:=rfl
theorem M4 (c d E) (s:String):rU c d (.v (.bi s)) vs W kV E=bL c W kV (.bi s) vs:=rfl
theorem M0 (c d E) (s:String):rU c d (.v (.ty s)) vs W kV E=bL c W kV (.ty s) vs:=rfl
theorem Ez(J K:KL)(Q:UQ):wX J K Q (.nx st) L C W=J L C W:=rfl
theorem Ab(J K:KL)(Q:UQ):wX J K Q .cnt L C W=J L C W:=rfl
theorem Ac(J K:KL)(Q:UQ):wX J K Q .brk L C W=K L C W:=rfl
theorem z9(J K:KL)(Q:UQ):wX J K Q (.ret v) L C W=Q (.ret v) L C W:=rfl
theorem Aa(J K:KL)(Q:UQ)(s:Str):wX J K Q (.exc s) L C W=Q (.exc s) L C W:=rfl
theorem DW:lJ n q (.nx st) L C W=gK n q (tv .none) W:=rfl
theorem zq:lJ n q (.ret v) L C W=gK n q v W:=rfl
theorem zr(s:Str):lJ n q (.exc s) L C W=Bc n q s W:=rfl
theorem bV_t:su js m (.t t)=.t t:=rfl
theorem bV_w:su js m (.w j)=.w (sy js m j):=rfl
theorem bI_n:sy [] m j=m+j:=rfl
theorem bI_0:sy (n::js) m 0=n:=rfl
theorem bI_s:sy (n::js) m (j+1)=sy js m j:=rfl
theorem bO_l:rX js m (.l ts)=.l ts:=rfl
theorem bO_d(es:List (Str×T)):rX js m (.d es)=.d es:=rfl
theorem bO_i(es:List (Int×T)):rX js m (.i es)=.i es:=rfl
theorem bO_z:rX js m (.z t)=.z t:=rfl
theorem bO_v(k:Str)(b:Bool):rX js m (.v k v u b)=.v k (su js m v) (su js m u) b:=rfl
theorem mg_0:gm js m [] W W'=W++wU js m W':=rfl
theorem mp_0:wU js m []=[]:=rfl
theorem mp_s:wU js m (o::W)=rX js m o::wU js m W:=rfl
theorem mg_s:gm js m (j::ks) W (o::W')=gm js m ks (ar W j (rX js m o)) W':=rfl
theorem I6(kt:T→Prop):ed (.t (.tup ts)) (ti 0) W kt=au (cq ts 0) kt:=rfl
theorem I0(kt:T→Prop):ed (.t (.tup ts)) (ti 1) W kt=au (cq ts 1) kt:=rfl
theorem IZ(kt:T→Prop):ed (.t (.tup ts)) (ti 2) W kt=au (cq ts 2) kt:=rfl
theorem IY(kt:T→Prop):ed (.t (.tup ts)) (ti 3) W kt=au (cq ts 3) kt:=rfl
theorem Iq:cq (t::ts) 0=some t:=rfl
theorem Ip:cq (t::ts) (n+1)=cq ts n:=rfl
theorem iT_0(kU:UL→Prop):Bm [] vs [] C kU=kU C:=rfl
theorem iT_s(kU:UL→Prop)(x:Option Nat)(r:List (Option Nat))(s:Str)(ns:List Str):Bm (x::r) vs (s::ns) C kU=Bm r vs ns (pM vs x::C) kU:=rfl
theorem in_0:rE vs []=[]:=rfl
theorem in_s(x:Option Nat)(r:List (Option Nat)):rE vs (x::r)=pM vs x::rE vs r:=rfl
theorem ar_s:pM vs (some n)=o9 vs n:=rfl
theorem ar_n:pM vs none=none:=rfl
theorem nV_0:o9 (v::vs) 0=some v:=rfl
theorem nV_s:o9 (v::vs) (n+1)=o9 vs n:=rfl
end
section
variable(W:UW)(kb:Bool→Prop)(kV:KU)(v u:V)(i j:Int)(s r:Str)(a b:UV)
theorem EJ:cF .Is (.t (.leaf v)) (tv .none) W kb=kb (decide (v=.none)):=rfl
theorem EI(n:Nat):cF .Is (.w n) (tv .none) W kb=kb false:=rfl
theorem Ag:cF .IsNot (.t (.leaf v)) (tv .none) W kb=kb (!decide (v=.none)):=rfl
theorem Af(n:Nat):cF .IsNot (.w n) (tv .none) W kb=kb true:=rfl
theorem IK:cF .Lt (ti i) (ti j) W kb=kb (decide (i<j)):=rfl
theorem IL:cF .LtE (ti i) (ti j) W kb=kb (decide (i≤j)):=rfl
theorem IP:cF .Gt (ti i) (ti j) W kb=kb (decide (j<i)):=rfl
theorem IQ:cF .GtE (ti i) (ti j) W kb=kb (decide (j≤i)):=rfl
theorem EL:cF .Eq (ti i) (ti j) W kb=kb (decide (i=j)):=rfl
theorem EG:cF .NotEq (ti i) (ti j) W kb=kb (!decide (i=j)):=rfl
theorem EK:cF .Eq (tS s) (tS r) W kb=kb (decide (s=r)):=rfl
theorem EF:cF .NotEq (tS s) (tS r) W kb=kb (!decide (s=r)):=rfl
theorem IM:cF .In a b W kb=mF W kb a b:=rfl
theorem EE:cF .NotIn a b W kb=mF W (fun r=>kb (!r)) a b:=rfl
theorem AZ:n7 .Add (ti i) (ti j) W kV=kV (ti (i+j)) W:=rfl
theorem AY:n7 .Sub (ti i) (ti j) W kV=kV (ti (i-j)) W:=rfl
end
end
section
abbrev Tx:=List (Option Str)
abbrev Gq:Str:=No "logical"
abbrev Gx:Str:=No "integer"
abbrev GC:Str:=No "double"
abbrev qR:Str:=No "character"
abbrev Gp:Str:=No "list"
abbrev aO:Str:=No "NULL"
abbrev JT:Str:=No "missing"
abbrev ah:Str:=No "names"
abbrev d9:Str:=No "unit"
set_option genCtorIdx true in
inductive Kd where
 | lg | it | db | ch | ls
 deriving DecidableEq
noncomputable def Kd.s:Kd→Str
 | .lg=>Gq
 | .it=>Gx
 | .db=>GC
 | .ch=>qR
 | .ls=>Gp
noncomputable def Kd.rank:Kd→Nat
 | .lg=>0
 | .it=>1
 | .db=>2
 | .ch=>3
 | .ls=>4
noncomputable def eA(k k':Kd):Kd:=bif Qx k.rank k'.rank then k' else k
inductive Sc where
 | na | int (i:Int) | q (n d:Int) | str (s:Str)
inductive X where
 | sc(s:Sc) | null | sv (k:Kd) (s:Sc)
structure PV where
 kind:Kd
 items:List X
 attrs:List (Str×Tx)
inductive Ix where
 | missing | null | vec (k:Kd) (items:List Sc)
abbrev lN:T:=.leaf .none
abbrev lI(i:Int):T:=.leaf (.int i)
abbrev lS(s:Str):T:=.leaf (.str s)
noncomputable def bz:Option Str→T
 | none=>lN
 | some s=>lS s
noncomputable def cL:Option Nat→T
 | none=>lN
 | some i=>lI i
noncomputable def cY:Sc→T
 | .na=>lN
 | .int i=>lI i
 | .str s=>lS s
 | .q n d=>.tup [lI n,lI d]
noncomputable def xT:X→T
 | .sc s=>cY s
 | .null=>nT CN aO
 | .sv k s=>vT k.s (.list [cY s]) lN false
noncomputable def qH(ts:Tx):T:=vT qR (.list (ts.map bz)) lN false
noncomputable def il(as:List (Str×Tx)):List (Str×T):=as.map fun e=>(e.1,qH e.2)
noncomputable def iG:List (Str×Tx)→T
 | []=>lN
 | e::r=>.dict (il (e::r))
noncomputable def pT(p:PV):T:=vT p.kind.s (.list (p.items.map xT)) (iG p.attrs) false
noncomputable def fA:Option PV→T
 | none=>nT CN aO
 | some p=>pT p
noncomputable def fR:Ix→T
 | .missing=>nT CM JT
 | .null=>nT CN aO
 | .vec k is=>vT k.s (.list (is.map cY)) lN false
noncomputable def fH:Option Tx→T
 | none=>lN
 | some ts=>.list (ts.map bz)
noncomputable def FY(o:Nat):List (Str×Tx)→UV
 | []=>tv .none
 | _::_=>.w (o+2)
noncomputable def GQ:List (Str×Tx)→UW
 | []=>[]
 | e::r=>[.d (il (e::r))]
noncomputable def OV(o:Nat)(k:Kd)(its:List X)(as:List (Str×Tx))(lo:Bool):UW:=.v k.s (.w (o+1)) (FY o as) lo :: .l (its.map xT)::GQ as
theorem zD(o:Nat)(k:Kd)(its:List X)(lo:Bool):OV o k its [] lo=[.v k.s (.w (o+1)) (tv .none) lo,.l (its.map xT)]:=rfl
theorem wL(o:Nat)(k:Kd)(its:List X)(e:Str×Tx)(r:List (Str×Tx))(lo:Bool):OV o k its (e::r) lo=[.v k.s (.w (o+1)) (.w (o+2)) lo,.l (its.map xT),.d (il (e::r))]:=rfl
theorem uA{B:T→UQ→KL}{K:KL}{Q:UQ}{x:T}{r:List T}{L C:UL}{W:UW}(h:∀R:UQ,(∀o L C W,wX (cu B K Q r) K Q o L C W→R o L C W)→B x R L C W):cu B K Q (x::r) L C W:=h _ fun ζ ζ ζ ζ h=>h
theorem iE{b:Bool}{p q:Prop}(h:b=false)(x:q):fO b p q:=by rw[h];exact x
theorem xA{b:Bool}{p q:Prop}(h:b=true)(x:p):fO b p q:=by rw[h];exact x
noncomputable def Eg(s:Str):Bool:=!(decide (Gq=s)||decide (Gx=s)||decide (GC=s)||decide (qR=s)||decide (Gp=s))
theorem nr(k:Kd){s:Str}(h:Eg s=true):decide (k.s=s)=false:=by
 unfold Eg at h;rw[Oi]at h;simp only [OS]at h
 induction k using Kd.casesOn
 ·exact h.1.1.1.1
 ·exact h.1.1.1.2
 ·exact h.1.1.2
 ·exact h.1.2
 ·exact h.2
section
variable{c:Cx}{d:Nat}{W:UW}{K:UV→Prop}{k:Str}{it at_:T}{lo:Bool}{j:Nat}{ui ua:UV}{kb:Bool→Prop}{a b:UV}{xs ys:List T}
theorem ng(h:pk W a=some (.list xs))(h':pk W b=some (.list []))(q:kb (!xs.isEmpty))(f:aF (bW a)=false:=by rfl):cF .NotEq a b W kb:=by
 show cond (aF (bW a)&&_) _ _;rw[f];exact .nil h h' (.inr rfl) (by rw[show ([]:List T).isEmpty=true from rfl,SW];exact q)
theorem qE(h:pk W a=some (.list xs))(h':pk W b=some (.list []))(q:kb xs.isEmpty)(f:aF (bW a)=false:=by rfl):cF .Eq a b W kb:=by
 show cond (aF (bW a)&&_) _ _;rw[f];exact .nil h h' (.inr rfl) (by rw[show ([]:List T).isEmpty=true from rfl,SW];exact q)
variable(P:PF c)
include P
theorem aK(q:K (tS k)):ew c (No "kind") W K (.t (vT k it at_ lo)):=.mk rfl (mH P (by decide)) (by ac_rfl) (by ac_rfl) q
theorem aI(q:K (.t it)):ew c (No "items") W K (.t (vT k it at_ lo)):=.mk rfl (mH P (by decide)) (by ac_rfl) (by ac_rfl) q
theorem aA(q:K (.t at_)):ew c (No "attrs") W K (.t (vT k it at_ lo)):=.mk rfl (mH P (by decide)) (by ac_rfl) (by ac_rfl) q
theorem aL(q:K (tb lo)):ew c (No "loose") W K (.t (vT k it at_ lo)):=.mk rfl (mH P (by decide)) (by ac_rfl) (by ac_rfl) q
theorem nK(q:K (tS k)):ew c (No "kind") W K (.t (nT CN k)):=.mk rfl (fl P (.head _) (by decide)) (by ac_rfl) (by ac_rfl) q
theorem nA(q:K (tv .none)):ew c (No "attrs") W K (.t (nT CN k)):=.mk rfl (fl P (.head _) (by decide)) (by ac_rfl) (by ac_rfl) q
theorem mK(q:K (tS k)):ew c (No "kind") W K (.t (nT CM k)):=.mk rfl (fl P (.tail _ (.head _)) (by decide)) (by ac_rfl) (by ac_rfl) q
theorem oK(h:af W j=some (.v k ui ua lo))(b:ua.isV=false)(q:K (tS k)):ew c (No "kind") W K (.w j):=.own h (mH P (by decide)) b (by ac_rfl) q
theorem oI(h:af W j=some (.v k ui ua lo))(b:ua.isV=false)(q:K ui):ew c (No "items") W K (.w j):=.own h (mH P (by decide)) b (by ac_rfl) q
theorem oA(h:af W j=some (.v k ui ua lo))(b:ua.isV=false)(q:K ua):ew c (No "attrs") W K (.w j):=.own h (mH P (by decide)) b (by ac_rfl) q
theorem oL(h:af W j=some (.v k ui ua lo))(b:ua.isV=false)(q:K (tb lo)):ew c (No "loose") W K (.w j):=.own h (mH P (by decide)) b (by ac_rfl) q
theorem xa{k2:KU}(q:k2 (tb true) W):bL c W k2 (.bi "isinstance") [.t (vT k it at_ lo),.v (.ref CV)]:=.isC rfl (zK P (.tail _ (.tail _ (.head _)))).1 q
theorem I7{k2:KU}(q:k2 (tb false) W):bL c W k2 (.bi "isinstance") [.t (nT CN k),.v (.ref CV)]:=.isC rfl (zK P (.head _)).1 q
end
end
local macro_rules | `(tactic| walk_at "m") => do
  let f (s : String) := (s.splitOn " ").toArray.map fun x => Lean.mkIdent x.toName; let l0 := f "defT iT_0 iT_s in_0 in_s ar_s ar_n nV_0 nV_s"; let l1 := f "mg_0 mg_s mp_0 mp_s bO_l bO_d bO_i bO_z bO_v bV_t bV_w bI_n bI_0 bI_s sW_0 sW_s List.append_nil"; let l2 := f "BZ BJ B6 B2 BK G9 Hb Ha G8 BS B4 G5 G6 G7 G3 G4 B7 B3 B8 BP BO B9 BF BG B0 BR BE B5 BQ BV Ca G2 BU B1 BL BM BI BH BN BC BX BW EP Ak An Am Al BD Lf Ld Jd Jc zD wL sW_0 sW_s Jg Jf Ie Ic Ij Ii Ih I9 I8 GD vC sz La Lb K9 GY lk m9 MR MQ MS KO MP MU MT G1 Hd Hc MK JH JI Jw Jv MZ M4 M0 Ez Ab Ac z9 Aa DW zq zr I6 I0 IZ IY Iq Ip EJ EI Ag Af IK IL IP IQ EL EG EK EF IM EE AZ AY yO yP iZ xi Nat.ble cond_true List.nil_append List.cons_append List.length_cons List.length_nil Nat.reduceAdd"
  `(tactic| (refine (?f : (?A = ?N) → ?N → ?A) ?e ?h; (case e => ((try dsimp only [$[$l0:ident],*]); (try dsimp only [$[$l1:ident],*]); (repeat (show (TR _ _ _ _ _ _ _ _ _ = _); dsimp only [$[$l2:ident],*])); exact rfl)); (case f => exact fun _ h => h)))
section
theorem Hf:aX 18=⟨[some 0,some 1],[],[],.loc 0<|.att "attrs"<|.cst .none<|.cmp .Is<|.ite (.cst .none<|.rtn) (.fin)<|.loc 0<|.att "attrs"<|.mth "get"<|.loc 1<|.cal 2<|.rtn⟩:=by ac_rfl
theorem He:aX 22=⟨[some 0,none],[],[],.glo (.fn 18)<|.loc 0<|.cst (.str "dim")<|.cal 2<|.put 1<|.loc 1<|.cst .none<|.cmp .Is<|.ite (.cst .none<|.rtn) (.fin)<|.glo (.ty "list")<|.loc 1<|.att "items"<|.cal 1<|.rtn⟩:=by ac_rfl
theorem Kh:aX 23=⟨[some 0,none],[],[],.glo (.fn 18)<|.loc 0<|.cst (.str "dimnames")<|.cal 2<|.put 1<|.loc 1<|.cst .none<|.cmp .Is<|.ite (.cst .none<|.rtn) (.fin)<|.loc 1<|.att "items"<|.lcm 2 1 (.loc 1<|.att "kind"<|.cst (.str "NULL")<|.cmp .Eq<|.ite (.cst .none<|.fin) (.glo (.ty "list")<|.loc 1<|.att "items"<|.cal 1<|.fin)<|.fin)<|.rtn⟩:=by ac_rfl
theorem Kj:aX 21=⟨[some 0,none,none,none,none],[],[],.loc 0<|.att "kind"<|.cst (.str "language")<|.cmp .Eq<|.ite (.loc 0<|.att "tags"<|.for 1 (.loc 1<|.cst .none<|.cmp .IsNot<|.ite (.loc 0<|.att "tags"<|.lcm 2 1 (.loc 1<|.cst .none<|.cmp .Is<|.ite (.cst (.str "")<|.fin) (.loc 1<|.fin)<|.fin)<|.rtn) (.fin)<|.fin)<|.cst .none<|.rtn) (.fin)<|.loc 0<|.att "kind"<|.cst (.str "environment")<|.cmp .Eq<|.ite (.bad) (.fin)<|.glo (.fn 22)<|.loc 0<|.cal 1<|.put 2<|.loc 2<|.cst .none<|.cmp .IsNot<|.and (.glo (.bi "len")<|.loc 2<|.cal 1<|.cst (.int 1)<|.cmp .Eq<|.fin)<|.ite (.glo (.fn 23)<|.loc 0<|.cal 1<|.put 3<|.loc 3<|.cst .none<|.cmp .Is<|.ite (.cst .none<|.fin) (.loc 3<|.cst (.int 0)<|.sub<|.fin)<|.rtn) (.fin)<|.glo (.fn 18)<|.loc 0<|.cst (.str "names")<|.cal 2<|.put 4<|.loc 4<|.cst .none<|.cmp .Is<|.ite (.cst .none<|.rtn) (.fin)<|.glo (.ty "list")<|.loc 4<|.att "items"<|.cal 1<|.rtn⟩:=by ac_rfl
theorem Hw:aX 106=⟨[some 0,none,none],[],[],.cst (.int 0)<|.put 1<|.loc 0<|.for 2 (.loc 2<|.cst .none<|.cmp .IsNot<|.and (.loc 2<|.loc 1<|.cmp .GtE<|.fin)<|.ite (.loc 2<|.cst (.int 1)<|.bin .Add<|.put 1<|.fin) (.fin)<|.fin)<|.loc 1<|.rtn⟩:=by ac_rfl
theorem LV:aX 20=⟨[some 0,some 1,some 2],[],[],.loc 0<|.att "attrs"<|.cst .none<|.cmp .Is<|.ite (.dic 0<|.loc 0<|.sat "attrs"<|.fin) (.fin)<|.glo (.fn 16)<|.loc 2<|.cal 1<|.loc 0<|.att "attrs"<|.loc 1<|.sit<|.fin⟩:=by ac_rfl
theorem Kk:aX 16=⟨[some 0],[],[],.glo (.bi "isinstance")<|.loc 0<|.glo (.cls 113)<|.cal 2<|.ite (.cst (.bool true)<|.loc 0<|.sat "shared"<|.fin) (.fin)<|.loc 0<|.rtn⟩:=by ac_rfl
theorem LZ:aX 11=⟨[some 0],[],[],.glo (.cls 113)<|.cst (.str "character")<|.glo (.ty "list")<|.loc 0<|.cal 1<|.cal 2<|.rtn⟩:=by ac_rfl
section
variable{c:Cx}{d:Nat}(P:PF c){as:List (Str×Tx)}{k:Kd}{it:T}{lo:Bool}{n:Str}
theorem qu(as:List (Str×Tx))(n:Str):((il as).lookup n).getD lN=((as.lookup n).map qH).getD lN:=by
 induction as with
 | nil=>rfl
 | cons e r ih=>
  show (OB n ((e.1,qH e.2)::il r)).getD lN=_;rw[NK,NK];split
  ·rfl
  ·exact ih
include P
theorem HO:ag c (d+1) (A 18) [.t (vT k.s it (iG as) lo),tS n] [] (.r (.t (((as.lookup n).map qH).getD lN)) []):=by
 exists ae P 18 (by ac_rfl) Hf rfl ?_;refine aA P ?_;rcases as with _ | ⟨e,r⟩
 ·symm;exact .k [] rfl rfl rfl rfl
 ·symm;exists aA P ?_;exists .dict rfl ?_;exists .get rfl ?_;rw[qu];exact .k [] rfl rfl rfl rfl
theorem lU{as:List (Str×Tx)}(h:as.lookup n=none):((as.lookup n).map qH).getD lN=lN:=by rw[h];rfl
theorem Kz(h:as.lookup (No "dim")=none):ag c (d+2) (A 22) [.t (vT k.s it (iG as) lo)] [] (.r (tv .none) []):=by
 exists ae P 22 (by ac_rfl) He rfl ?_;refine .r [] rfl rfl rfl (HO P) ?_;rw[lU P h];symm;exact .k [] rfl rfl rfl rfl
theorem My(h:as.lookup (No "dimnames")=none):ag c (d+2) (A 23) [.t (vT k.s it (iG as) lo)] [] (.r (tv .none) []):=by
 exists ae P 23 (by ac_rfl) Kh rfl ?_;refine .r [] rfl rfl rfl (HO P) ?_;rw[lU P h];symm;exact .k [] rfl rfl rfl rfl
theorem CD(h:as.lookup (No "dim")=none):ag c (d+3) (A 21) [.t (vT k.s it (iG as) lo)] [] (.r (.t (fH (as.lookup ah))) []):=by
 exists ae P 21 (by ac_rfl) Kj rfl ?_;exists aK P ?_;exists iE (nr k (by ac_rfl)) ?_;exists aK P ?_;exists iE (nr k (by ac_rfl)) ?_;exists .r [] rfl rfl rfl (Kz P h) ?_;exists .r [] rfl rfl rfl (HO P) ?_;cases as.lookup ah with
 | none=>
  symm;exact .k [] rfl rfl rfl rfl
 | some ts=>
  symm;exists aI P ?_;exists .list rfl ?_;exact .t rfl rfl rfl rfl
noncomputable def xt(m:Nat)(s:Option Nat):Nat:=match s with
 | some i=>max m (i+1)
 | none=>m
noncomputable def cnt(n:Nat)(spots:List (Option Nat)):Nat:=spots.foldl xt n
theorem C4(ps:List (Option Nat)):ag c (d+1) (A 106) [.t (.list (ps.map cL))] [] (.r (ti (cnt 0 ps)) []):=by
 exists ae P 106 (by ac_rfl) Hw rfl ?_;refine (?h:∀(ps:List (Option Nat)) (n:Nat) y,cnt n ps=_→cu _ _ _ (ps.map cL) [some _,some (ti n),y] [] []) ps 0 none rfl;intro ps
 induction ps with
 | nil=>
  intro n y h;subst h;symm;exact .k [] rfl rfl rfl rfl
 | cons p ps ih=>
  intro n y h;rcases p with _ | p
  ·symm;exact ih n _ h
  ·symm;exists aC (fun e=>?_) fun e=>?_
   ·exact ih (p+1) _ ((Nw (fun m=>cnt m ps) (So (PH (Int.ofNat_le.mp e))).symm).trans h)
   ·symm;exact ih n _ ((Nw (fun m=>cnt m ps) (Sy (Nat.not_le.mp fun w=>e (Int.ofNat_le.mpr w))).symm).trans h)
end
end
section
theorem t9:aX 9=⟨[some 0],[],[],.loc 0<|.glo (.int 1000000)<|.cmp .Gt<|.ite (.cst (.str "cannot allocate vector of length ")<|.loc 0<|.cst (.int 10)<|.cst (.int 18)<|.bin .Pow<|.cmp .Lt<|.ite (.glo (.ty "str")<|.loc 0<|.cal 1<|.fin) (.cst (.str "beyond 1e+18")<|.fin)<|.bin .Add<|.rse) (.fin)<|.loc 0<|.rtn⟩:=by ac_rfl
theorem LY:aX 12=⟨[some 0,none],[],[],.loc 0<|.att "kind"<|.put 1<|.loc 1<|.cst (.str "NULL")<|.cmp .Eq<|.ite (.cst (.int 0)<|.rtn) (.fin)<|.glo (.bi "isinstance")<|.loc 0<|.glo (.cls 113)<|.cal 2<|.or (.loc 1<|.cst (.str "language")<|.cmp .Eq<|.fin)<|.ite (.glo (.bi "len")<|.loc 0<|.att "items"<|.cal 1<|.rtn) (.fin)<|.loc 1<|.cst (.str "environment")<|.cmp .Eq<|.ite (.glo (.bi "len")<|.loc 0<|.att "frame"<|.cal 1<|.rtn) (.fin)<|.loc 1<|.cst (.str "dots")<|.cmp .Eq<|.ite (.glo (.bi "len")<|.loc 0<|.att "args"<|.cal 1<|.rtn) (.fin)<|.cst (.int 1)<|.rtn⟩:=by ac_rfl
theorem LX:aX 13=⟨[some 0],[],[],.glo (.bi "isinstance")<|.loc 0<|.glo (.cls 113)<|.cal 2<|.rtn⟩:=by ac_rfl
theorem LD:aX 59=⟨[some 0,none],[],[],.cst (.str "NULL")<|.cst (.str "logical")<|.cst (.str "integer")<|.cst (.str "double")<|.cst (.str "character")<|.cst (.str "list")<|.cst (.str "expression")<|.tpl 7<|.put 1<|.loc 0<|.loc 1<|.cmp .In<|.ite (.loc 1<|.mth "index"<|.loc 0<|.cal 2<|.rtn) (.fin)<|.cst (.int 5)<|.rtn⟩:=by ac_rfl
theorem LC:aX 60=⟨[some 0,none,none,none],[],[],.cst (.str "NULL")<|.cst (.str "logical")<|.cst (.str "integer")<|.cst (.str "double")<|.cst (.str "character")<|.cst (.str "list")<|.cst (.str "expression")<|.tpl 7<|.put 1<|.cst (.int 0)<|.put 2<|.loc 0<|.for 3 (.glo (.bi "max")<|.loc 2<|.glo (.fn 59)<|.loc 3<|.cal 1<|.cal 2<|.put 2<|.fin)<|.loc 1<|.loc 2<|.sub<|.rtn⟩:=by ac_rfl
theorem Lx:aX 70=⟨[some 0],[],[],.loc 0<|.cst (.str "logical")<|.cst (.str "integer")<|.cst (.str "double")<|.cst (.str "character")<|.tpl 4<|.cmp .In<|.rtn⟩:=by ac_rfl
theorem Lk:aX 92=⟨[some 0],[],[],.loc 0<|.cst (.str "list")<|.cst (.str "expression")<|.cst (.str "pairlist")<|.tpl 3<|.cmp .In<|.ite (.glo (.cls 63)<|.cal 0<|.rtn) (.fin)<|.cst .none<|.rtn⟩:=by ac_rfl
theorem Lj:aX 93=⟨[some 0],[],[],.loc 0<|.cst (.str "list")<|.cst (.str "expression")<|.cst (.str "pairlist")<|.tpl 3<|.cmp .In<|.rtn⟩:=by ac_rfl
theorem Li:aX 95=⟨[some 0],[],[],.loc 0<|.cst (.str "pairlist")<|.cmp .Eq<|.ite (.cst (.str "list")<|.rtn) (.fin)<|.loc 0<|.rtn⟩:=by ac_rfl
theorem Ck:aX 102=⟨[some 0,some 1],[],[],.glo (.fn 60)<|.glo (.fn 95)<|.loc 0<|.att "kind"<|.cal 1<|.glo (.fn 95)<|.loc 1<|.att "kind"<|.cal 1<|.lst 2<|.cal 1<|.rtn⟩:=by ac_rfl
theorem Lm:aX 87=⟨[some 0,some 1,none],[],[],.loc 1<|.cst .none<|.cmp .Is<|.or (.loc 0<|.att "kind"<|.cst (.str "integer")<|.cst (.str "double")<|.cst (.str "character")<|.tpl 3<|.cmp .NotIn<|.fin)<|.ite (.cst (.bool false)<|.rtn) (.fin)<|.glo (.fn 22)<|.loc 0<|.cal 1<|.put 2<|.loc 2<|.cst .none<|.cmp .IsNot<|.and (.glo (.bi "len")<|.loc 2<|.cal 1<|.cst (.int 2)<|.cmp .Eq<|.and (.loc 2<|.cst (.int 1)<|.sub<|.glo (.bi "len")<|.loc 1<|.cal 1<|.cmp .Eq<|.fin)<|.fin)<|.rtn⟩:=by ac_rfl
theorem Ll:aX 90=⟨[some 0,some 1,some 2,none,none,none],[none,none,none],["items","rows","i"],.glo (.fn 87)<|.loc 0<|.loc 1<|.cal 2<|.not<|.ite (.cst .none<|.rtn) (.fin)<|.loc 0<|.att "kind"<|.cst (.str "character")<|.cmp .Eq<|.ite (.bad) (.glo (.fn 78)<|.loc 0<|.cal 1<|.ptc 2<|.fin)<|.glo (.fn 22)<|.loc 0<|.cal 1<|.cst (.int 0)<|.sub<|.ptc 1<|.lst 0<|.put 3<|.bad⟩:=by ac_rfl
theorem Cm:aX 101=⟨[some 0,some 1],[],[],.glo (.fn 13)<|.loc 0<|.cal 1<|.ite (.loc 0<|.rtn) (.fin)<|.glo (.fn 93)<|.loc 1<|.att "kind"<|.cal 1<|.ite (.glo (.cls 113)<|.cst (.str "list")<|.loc 0<|.lst 1<|.cal 2<|.rtn) (.fin)<|.loc 0<|.att "kind"<|.cst (.str "symbol")<|.cst (.str "language")<|.tpl 2<|.cmp .In<|.ite (.glo (.cls 113)<|.cst (.str "list")<|.loc 0<|.lst 1<|.cal 2<|.rtn) (.fin)<|.bad⟩:=by ac_rfl
noncomputable def K7:List V:=[.str aO,.str Gq,.str Gx,.str GC,.str qR,.str Gp,.str (No "expression")]
noncomputable def K4:List V:=[.str Gq,.str Gx,.str GC,.str qR]
noncomputable def L3:List V:=[.str Gp,.str (No "expression"),.str (No "pairlist")]
noncomputable def IC:Option PV→Nat
 | none=>0
 | some p=>p.items.length
noncomputable def ie(k:Kd):X:=bif k.rank==4 then .null else .sc .na
noncomputable def Kd.isL(k:Kd):Bool:=k.rank==4
section
variable{c:Cx}{d:Nat}(P:PF c){as:List (Str×Tx)}{k k':Kd}{it at_:T}{lo:Bool}{n:Str}{W:UW}
include P
theorem s9{n:Int}(h:n≤1000000):ag c (d+1) (A 9) [ti n] [] (.r (ti n) []):=by
 exists ae P 9 (by ac_rfl) t9 rfl ?_;exists iE (Ny (Int.not_lt.mpr h)) ?_;exact .k [] rfl rfl rfl rfl
theorem tc:ag c (d+1) (A 16) [.t (vT n it at_ lo)] [] (.r (.t (vT n it at_ lo)) []):=by
 exists ae P 16 (by ac_rfl) Kk rfl ?_;exists xa P ?_;exists .shT rfl (mH P (by decide)) (by ac_rfl) ?_;exact .k [] rfl rfl rfl rfl
theorem HQ:ag c (d+1) (A 16) [.t (nT CN n)] [] (.r (.t (nT CN n)) []):=by
 exists ae P 16 (by ac_rfl) Kk rfl ?_;exists I7 P ?_;exact .k [] rfl rfl rfl rfl
theorem wF:ag c (d+1) (A 13) [.t (vT n it at_ lo)] [] (.r (tb true) []):=by
 exists ae P 13 (by ac_rfl) LX rfl ?_;exists xa P ?_;exact .k [] rfl rfl rfl rfl
theorem KA(o:Option PV):ag c (d+1) (A 12) [.t (fA o)] [] (.r (ti (IC o)) []):=by
 exists ae P 12 (by ac_rfl) LY rfl ?_;rcases o with _ | p
 ·exists nK P ?_;exact .k [] rfl rfl rfl rfl
 ·exists aK P ?_;exists iE (nr _ (by ac_rfl)) ?_;exists xa P ?_;exists aI P ?_;exists .len rfl ?_;rw[Nq];exact .k [] rfl rfl rfl rfl
theorem Ku:ag c (d+1) (A 59) [tS k.s] [] (.r (ti (k.rank+1:Nat)) []):=by
 exists ae P 59 (by ac_rfl) LD rfl ?_;refine .in_tup (ys:=K7) rfl rfl rfl ?_;exists xA (by induction k using Kd.casesOn<;>ac_rfl) ?_;exists .tup rfl ?_;exists .indexT (vs:=K7) (i:=k.rank+1) rfl rfl rfl (by induction k using Kd.casesOn<;>ac_rfl) ?_;exact .k [] rfl rfl rfl rfl
theorem HH:ag c (d+2) (A 60) [.t (.list [lS k.s,lS k'.s])] [] (.r (tS (eA k k').s) []):=by
 exists ae P 60 (by ac_rfl) LC rfl ?_;exists .r [] rfl rfl rfl (Ku P) ?_;exists .max2 ?_;exists .r [] rfl rfl rfl (Ku P) ?_;exists .max2 ?_
 induction k using Kd.casesOn<;>induction k' using Kd.casesOn<;>exact .k [] rfl rfl rfl rfl
theorem GH:ag c (d+1) (A 70) [tS k.s] [] (.r (tb (!k.isL)) []):=by
 exists ae P 70 (by ac_rfl) Lx rfl ?_;refine .in_tup (ys:=K4) rfl rfl rfl ?_;rw[show K4.contains (.str k.s)=!k.isL by induction k using Kd.casesOn<;>ac_rfl];symm;exact .k [] rfl rfl rfl rfl
theorem GG:ag c (d+1) (A 93) [tS k.s] [] (.r (tb k.isL) []):=by
 exists ae P 93 (by ac_rfl) Lj rfl ?_;refine .in_tup (ys:=L3) rfl rfl rfl ?_;rw[show L3.contains (.str k.s)=k.isL by induction k using Kd.casesOn<;>ac_rfl];symm;exact .k [] rfl rfl rfl rfl
theorem L7:ag c (d+3) (A 92) [tS k.s] [] (.r (.t (xT (ie k))) []):=by
 exists ae P 92 (by ac_rfl) Lk rfl ?_;refine .in_tup (ys:=L3) rfl rfl rfl ?_;rw[show L3.contains (.str k.s)=k.isL by induction k using Kd.casesOn<;>ac_rfl];refine aG (o:=k.isL) (fun e=>?_) (fun e=>?_)<;>unfold ie<;>rw[show (k.rank==4)=_ from e]
 ·symm;exact .k [] rfl rfl rfl rfl
 ·symm;exists .nl rfl ?_;exact .k [] rfl rfl rfl rfl
theorem Cy:ag c (d+1) (A 95) [tS k.s] [] (.r (tS k.s) []):=by
 exists ae P 95 (by ac_rfl) Li rfl ?_;exists iE (nr k (by ac_rfl)) ?_;exact .k [] rfl rfl rfl rfl
theorem C7{it' at':T}{lo':Bool} : ag c (d+3) (A 102) [.t (vT k.s it at_ lo),.t (vT k'.s it' at' lo')] [] (.r (tS (eA k k').s) []):=by
 exists ae P 102 (by ac_rfl) Ck rfl ?_;exists aK P ?_;exists .r [] rfl rfl rfl (Cy P) ?_;exists aK P ?_;exists .r [] rfl rfl rfl (Cy P) ?_;exists .r [] rfl rfl rfl (HH P) ?_;exact .k [] rfl rfl rfl rfl
theorem H8{t:T} : ag c (d+2) (A 101) [.t (vT n it at_ lo),.t t] [] (.r (.t (vT n it at_ lo)) []):=by
 exists ae P 101 (by ac_rfl) Cm rfl ?_;exists .r [] rfl rfl rfl (wF P) ?_;exact .k [] rfl rfl rfl rfl
theorem L8{t:T} : ag c (d+1) (A 87) [.t t,tv .none] [] (.r (tb false) []):=by
 exists ae P 87 (by ac_rfl) Lm rfl ?_;exact .k [] rfl rfl rfl rfl
theorem Kr{t u:T} : ag c (d+2) (A 90) [.t t,tv .none,.t u] [] (.r (tv .none) []):=by
 exists ae P 90 (by ac_rfl) Ll rfl ?_;exists .r [] rfl rfl rfl (L8 P) ?_;exact .k [] rfl rfl rfl rfl
end
end
section
theorem LP:aX 35=⟨[some 0,some 1,none,none],[],[],.loc 0<|.loc 1<|.bin .FloorDiv<|.put 2<|.cst (.int 2)<|.loc 0<|.loc 2<|.loc 1<|.bin .Mult<|.bin .Sub<|.bin .Mult<|.put 3<|.loc 3<|.loc 1<|.cmp .Gt<|.or (.loc 3<|.loc 1<|.cmp .Eq<|.and (.loc 2<|.cst (.int 2)<|.bin .Mod<|.cst (.int 1)<|.cmp .Eq<|.fin)<|.fin)<|.ite (.loc 2<|.cst (.int 1)<|.bin .Add<|.rtn) (.fin)<|.loc 2<|.rtn⟩:=by ac_rfl
theorem LO:aX 36=⟨[some 0,none,none,none],[],[],.glo (.bi "abs")<|.loc 0<|.cst (.int 0)<|.sub<|.cal 1<|.put 1<|.loc 0<|.cst (.int 1)<|.sub<|.put 2<|.cst (.int 0)<|.put 3<|.whl (.loc 1<|.cst (.int 10)<|.loc 2<|.bin .Mult<|.cmp .GtE<|.ite (.loc 2<|.cst (.int 10)<|.bin .Mult<|.put 2<|.loc 3<|.cst (.int 1)<|.aug .Add<|.put 3<|.fin) (.brk)<|.fin)<|.whl (.loc 1<|.loc 2<|.cmp .Lt<|.ite (.loc 1<|.cst (.int 10)<|.bin .Mult<|.put 1<|.loc 3<|.cst (.int 1)<|.aug .Sub<|.put 3<|.fin) (.brk)<|.fin)<|.loc 3<|.rtn⟩:=by ac_rfl
theorem KC{c:Cx}{d:Nat}{m b:Bool}{x g:I}{Q:UQ}{st:List UV}{L C:UL}{W:UW}(V:Bool)(h1:b=true→V=true)(h2:b=false→∀R:UQ,R (.nx (tb V::st)) L C W→be c m d R x st L C W)(hk:be c m d Q g (tb V::st) L C W):fO b (be c m d Q g (tb true::st) L C W) (be c m d (jU c m d Q g) x st L C W):=by
 induction b using Bool.casesOn
 ·exact h2 rfl _ hk
 ·rw[h1 rfl]at hk;exact hk
theorem FK{c:Cx}{d:Nat}{m:Bool}{b:Bool}{x g:I}{Q:UQ}{st:List UV}{L C:UL}{W:UW}(V:Bool)(h1:b=true→∀R:UQ,R (.nx (tb V::st)) L C W→be c m d R x st L C W)(h2:b=false→V=false)(hk:be c m d Q g (tb V::st) L C W):fO b (be c m d (jU c m d Q g) x st L C W) (be c m d Q g (tb false::st) L C W):=by
 induction b using Bool.casesOn
 ·rw[h2 rfl]at hk;exact hk
 ·exact h1 rfl _ hk
theorem AV{c:Cx}{d:Nat}{m:Bool}{b:Bool}{x e g:I}{Q:UQ}{st:List UV}{L C:UL}{W:UW}(V:Bool→UV)(h1:b=true→∀R:UQ,R (.nx (V true::st)) L C W→be c m d R x st L C W)(h2:b=false→∀R:UQ,R (.nx (V false::st)) L C W→be c m d R e st L C W)(hk:be c m d Q g (V b::st) L C W):fO b (be c m d (jU c m d Q g) x st L C W) (be c m d (jU c m d Q g) e st L C W):=by
 induction b using Bool.casesOn
 ·exact h2 rfl _ hk
 ·exact h1 rfl _ hk
noncomputable def mP(i:Int):Str:=No (toString i)
noncomputable def Ef(n d:Int):Bool:=decide (d<2*(n-n / d*d))||(decide (2*(n-n / d*d)=d)&&decide (n / d % 2=1))
noncomputable def Ed(n d:Int):Int:=bif Ef n d then n / d+1 else n / d
noncomputable def AE:Nat→Int→Int→Int→Option (Int×Int)
 | 0,_,_,_=>none
 | k+1,n,d,e=>bif decide (10*d≤n) then AE k n (d*10) (e+1) else some (d,e)
noncomputable def AD:Nat→Int→Int→Int→Option Int
 | 0,_,_,_=>none
 | k+1,n,d,e=>bif decide (n<d) then AD k (n*10) d (e-1) else some e
theorem Ff{k:Nat}{n d e:Int} : AE (k+1) n d e=bif decide (10*d≤n) then AE k n (d*10) (e+1) else some (d,e):=rfl
theorem Fe{k:Nat}{n d e:Int} : AD (k+1) n d e=bif decide (n<d) then AD k (n*10) d (e-1) else some e:=rfl
theorem zi:small 10:=⟨by decide,by decide⟩
theorem L6:small 2:=⟨by decide,by decide⟩
section
variable{c:Cx}{d:Nat}(P:PF c)
include P
theorem Ky{n m:Int}(h0:0<m)(h1:m<2^64):ag c (d+1) (A 35) [ti n,ti m] [] (.r (ti (Ed n m)) []):=by
 exists ae P 35 (by ac_rfl) LP rfl ?_;exists ⟨h0,h1,?_⟩;exists ⟨.inr ⟨Pc (by decide) h0,h1⟩,?_⟩;exists ⟨.inl L6,?_⟩;exists KC (Ef n m) (fun e=>by unfold Ef;rw[e];rfl) (fun e R hR=>?_) ?_
 ·exists FK (decide (2*(n-n / m*m)=m)&&decide (n / m % 2=1)) (fun w R' hR'=>?_) (fun w=>by rw[w];rfl) ?_
  ·exists ⟨by decide,?_⟩;rw[w]at hR';exact hR'
  ·unfold Ef at hR;rw[e]at hR;exact hR
 unfold Ed;cases Ef n m
 ·symm;exact .k [] rfl rfl rfl rfl
 ·symm;exact .k [] rfl rfl rfl rfl
theorem Mu{n m d1 e1 e:Int}(h1:AE 5 n.natAbs m 0=some (d1,e1))(h2:AD 5 n.natAbs d1 e1=some e):ag c (d+1) (A 36) [.t (.tup [lI n,lI m])] [] (.r (ti e) []):=by
 exists ae P 36 (by ac_rfl) LO rfl ?_;exists .abs ?_;refine ⟨5,?_⟩;refine (?h:∀(k:Nat) (b e0:Int),AE k n.natAbs b e0=some (d1,e1)→mJ _ _ _ k [_,some (ti n.natAbs),some (ti b),some (ti e0)] [] []) 5 _ _ h1;intro k
 induction k with
 | zero=>intro b e0 h;exact ac h
 | succ k ih=>
  intro b e0 h;rw[Ff]at h;symm;exists ⟨.inl zi,?_⟩;refine aC (fun w=>?_) fun w=>?_
  ·rw[NF w]at h;symm;exists ⟨.inr zi,?_⟩;exact ih _ _ h
  ·rw[Ny w]at h;cases h;symm;refine ⟨5,?_⟩;refine (?h3:∀(k:Nat) (a e0:Int),AD k a d1 e0=some e→mJ _ _ _ k [_,some (ti a),some (ti d1),some (ti e0)] [] []) 5 _ _ h2;intro k
   induction k with
   | zero=>intro a e0 h;exact ac h
   | succ k ih=>
    intro a e0 h;rw[Fe]at h;symm;refine aC (fun w=>?_) fun w=>?_
    ·rw[NF w]at h;symm;exists ⟨.inr zi,?_⟩;exact ih _ _ h
    ·rw[Ny w]at h;injection h with h;subst h;symm;exact .k [] rfl rfl rfl rfl
end
end
section
theorem LK:aX 41=⟨[some 0,some 1,some 2,none],[],[],.loc 2<|.cst (.int 1)<|.bin .Sub<|.loc 1<|.bin .Sub<|.put 3<|.loc 3<|.cst (.int 0)<|.cmp .GtE<|.ite (.glo (.fn 35)<|.glo (.bi "abs")<|.loc 0<|.cst (.int 0)<|.sub<|.cal 1<|.cst (.int 10)<|.loc 3<|.bin .Pow<|.bin .Mult<|.loc 0<|.cst (.int 1)<|.sub<|.cal 2<|.rtn) (.fin)<|.glo (.fn 35)<|.glo (.bi "abs")<|.loc 0<|.cst (.int 0)<|.sub<|.cal 1<|.loc 0<|.cst (.int 1)<|.sub<|.cst (.int 10)<|.cst (.int 0)<|.loc 3<|.bin .Sub<|.bin .Pow<|.bin .Mult<|.cal 2<|.rtn⟩:=by ac_rfl
theorem Kg:aX 42=⟨[some 0,some 1,none,none],[],[],.loc 0<|.cst (.int 0)<|.sub<|.cst (.int 0)<|.cmp .Eq<|.ite (.cst (.int 0)<|.cst (.str "0")<|.loc 1<|.bin .Mult<|.cst (.int 0)<|.tpl 3<|.rtn) (.fin)<|.glo (.fn 36)<|.loc 0<|.cal 1<|.put 2<|.glo (.fn 41)<|.loc 0<|.loc 2<|.loc 1<|.cal 3<|.put 3<|.loc 3<|.cst (.int 10)<|.loc 1<|.bin .Pow<|.cmp .GtE<|.ite (.loc 2<|.cst (.int 1)<|.aug .Add<|.put 2<|.glo (.fn 41)<|.loc 0<|.loc 2<|.loc 1<|.cal 3<|.put 3<|.fin) (.fin)<|.loc 0<|.cst (.int 0)<|.sub<|.cst (.int 0)<|.cmp .Gt<|.ite (.cst (.int 1)<|.fin) (.cst (.int 1)<|.neg<|.fin)<|.glo (.ty "str")<|.loc 3<|.cal 1<|.loc 2<|.tpl 3<|.rtn⟩:=by ac_rfl
theorem LJ:aX 43=⟨[some 0,none],[],[],.glo (.bi "len")<|.loc 0<|.cal 1<|.put 1<|.whl (.loc 1<|.cst (.int 1)<|.cmp .Gt<|.and (.loc 0<|.loc 1<|.cst (.int 1)<|.bin .Sub<|.sub<|.cst (.str "0")<|.cmp .Eq<|.fin)<|.ite (.loc 1<|.cst (.int 1)<|.aug .Sub<|.put 1<|.fin) (.brk)<|.fin)<|.loc 0<|.cst .none<|.loc 1<|.slc<|.rtn⟩:=by ac_rfl
noncomputable def f0(i:Int):Str:=⟨((Nat.toDigits 10 i.toNat).map SO).toArray⟩
theorem iK{i:Int}(h:0≤i):mP i=f0 i:=by
 induction i using Int.casesOn with
 | negSucc n=>exact absurd h (by simp)
 | ofNat n=>
  show No (Nat.repr n)=_;rw[Str.ofString_eq_byList];show (⟨((String.ofList (Nat.toDigits 10 n)).toList.map SO).toArray⟩:Str)=_;rw[String.toList_ofList];rfl
noncomputable def xY(n m e:Int):Int:=Ed ((n.natAbs:Int)*10^(15-1-e).toNat) m
noncomputable def Be(s:Str)(e:Int):Bool:=O8 (s.cps.toList.getD (e-1).toNat 0) 48
theorem Bs{s:Str}{e:Int}(h:1<e)(he:e≤s.length):decide (S4 s (e-1)=No "0")=Be s e:=by
 have e0:No "0" = ⟨#[48]⟩:=by decide +kernel
 have h1:T9 (e-1) s.length=some (e-1).toNat:=f6 (PJ (OM h)) (OD (RC (TI _)) he);have h2:S4 s (e-1)=⟨#[s.cps.toList.getD (e-1).toNat 0]⟩:=by
  unfold S4 Txt.charAt;rw[h1,List.getD_eq_getElem?_getD,Qa];rfl
 rw[e0,h2];unfold Be;refine aw (o:=O8 (s.cps.toList.getD (e-1).toNat 0) 48) (fun hb=>?_) (fun hb=>?_)
 ·rw[OG hb];rfl
 ·
  refine Ny fun h=>Nat.ne_of_beq_eq_false hb ?_;injection h with h;injection h with h;injection h
noncomputable def yZ(s:Str):Nat→Int→Option Int
 | 0,_=>none
 | k+1,e=>bif decide (1<e)&&Be s e then yZ s k (e-1) else some e
theorem Bt{s:Str}{k:Nat}{e:Int} : yZ s (k+1) e=bif decide (1<e)&&Be s e then yZ s k (e-1) else some e:=rfl
section
variable{c:Cx}{d:Nat}(P:PF c)
include P
theorem Ms{n m e:Int}(h0:0≤15-1-e)(h1:15-1-e≤1000)(hn:n.natAbs<200)(m0:0<m)(m1:m<2^64):ag c (d+2) (A 41) [.t (.tup [lI n,lI m]),ti e,ti 15] [] (.r (ti (xY n m e)) []):=by
 exists ae P 41 (by ac_rfl) LK rfl ?_;exists xA (NF h0) ?_;exists .abs ?_;exists ⟨by decide,by decide,h0,h1,?_⟩;exists ⟨.inl ⟨OD (by decide) (NB _),Pc (Int.ofNat_lt.mpr hn) (by decide)⟩,?_⟩;exists .r [] rfl rfl rfl (Ky P m0 m1) ?_;exact .k [] rfl rfl rfl rfl
theorem Mr{n m d1 e1 e:Int}(n0:n≠0)(hx:AE 5 n.natAbs m 0=some (d1,e1))(hy:AD 5 n.natAbs d1 e1=some e)(h0:0≤15-1-e)(h1:15-1-e≤1000)(hn:n.natAbs<200)(m0:0<m)(m1:m<2^64)(hs:(decide (0≤xY n m e)&&decide (xY n m e<10^15))=true):ag c (d+3) (A 42) [.t (.tup [lI n,lI m]),ti 15] [] (.r (.t (.tup [lI (bif decide (0<n) then 1 else -1),lS (f0 (xY n m e)),lI e])) []):=by
 have hs:=aa hs;have s0:=Nx hs.1;have s1:=Nx hs.2;exists ae P 42 (by ac_rfl) Kg rfl ?_;exists iE (Ny n0) ?_;exists .r [] rfl rfl rfl (Mu P hx hy) ?_;exists .r [] rfl rfl rfl (Ms P h0 h1 hn m0 m1) ?_;exists ⟨by decide,by decide,by decide,by decide,?_⟩;exists iE (Ny (Int.not_le.mpr s1)) ?_;exists AV (V:=fun b=>ti (bif b then 1 else -1)) (fun ζ R hR=>?_) (fun ζ R hR=>?_) ?_
 ·exact hR
 ·symm;exact hR
 symm;refine .str (pN s0 (Pc s1 (by decide))) ?_;refine (?h:∀w:Str,w=f0 (xY n m e)→be c _ _ _ _ (tS w::_) _ _ _) _ (iK s0);intro w hw;rw[hw];symm;exact .k [] rfl rfl rfl rfl
theorem HL{m:Int} : ag c (d+3) (A 42) [.t (.tup [lI 0,lI m]),ti 15] [] (.r (.t (.tup [lI 0,lS (Txt.mul (No "0") 15),lI 0])) []):=by
 exists ae P 42 (by ac_rfl) Kg rfl ?_;exists .mulS (by decide) (by decide) (by decide) ?_;exact .k [] rfl rfl rfl rfl
theorem Mq{s:Str}{r:Int}(h:yZ s 20 s.length=some r)(hl:s.length≤1000):ag c (d+1) (A 43) [tS s] [] (.r (tS (Qb s none (some r))) []):=by
 exists ae P 43 (by ac_rfl) LJ rfl ?_;exists .lenS (Np hl (by decide)) ?_;refine ⟨20,?_⟩;refine (?h:∀(k:Nat) (e:Int),e≤s.length→yZ s k e=some r→mJ _ _ _ k [_,some (ti e)] [] []) 20 _ (TI _) h;intro k
 induction k with
 | zero=>intro e _ h;exact ac h
 | succ k ih=>
  intro e he h;rw[Bt]at h;symm;exists FK (decide (1<e)&&Be s e) (fun w R hR=>?_) (fun w=>by rw[w];rfl) ?_
  ·have w:=Nx w;rw[NF w]at hR;exists .str (PJ (OM w)) (OD (RC (TI _)) he) (Np hl (by decide)) ?_;rw[Bs w he];exact hR
  symm;refine aw (o:=decide (1<e)&&Be s e) (fun e2=>?_) (fun e2=>?_)
  ·
   rw[e2]at h;symm;exact ih _ (NC (P2 _ (by decide)) he) h
  ·
   rw[e2]at h;injection h with h;subst h;symm;exists .str (Np hl (by decide)) rfl rfl ?_;exact .k [] rfl rfl rfl rfl
end
end
section
theorem LM:aX 39=⟨[some 0,none,none,none],[],[],.glo (.bi "abs")<|.loc 0<|.cal 1<|.put 1<|.lst 0<|.put 2<|.whl (.loc 1<|.cst (.int 10)<|.cst (.int 18)<|.bin .Pow<|.cmp .GtE<|.ite (.bad) (.brk)<|.fin)<|.loc 2<|.mth "append"<|.glo (.ty "str")<|.loc 1<|.cal 1<|.cal 2<|.pop<|.loc 0<|.cst (.int 0)<|.cmp .Lt<|.ite (.loc 2<|.mth "append"<|.cst (.str "-")<|.cal 2<|.pop<|.fin) (.fin)<|.loc 2<|.mth "reverse"<|.cal 1<|.pop<|.cst (.str "")<|.mth "join"<|.loc 2<|.cal 2<|.rtn⟩:=by ac_rfl
theorem LL:aX 40=⟨[some 0],[],[],.loc 0<|.cst .none<|.cmp .Is<|.ite (.cst (.str "NA")<|.rtn) (.fin)<|.loc 0<|.cst (.int 1)<|.sub<|.cst (.int 0)<|.cmp .Gt<|.ite (.cst .none<|.rtn) (.fin)<|.loc 0<|.cst (.int 0)<|.sub<|.cst (.int 0)<|.cmp .Eq<|.ite (.cst (.str "NaN")<|.rtn) (.fin)<|.loc 0<|.cst (.int 0)<|.sub<|.cst (.int 0)<|.cmp .Gt<|.ite (.cst (.str "Inf")<|.fin) (.cst (.str "-Inf")<|.fin)<|.rtn⟩:=by ac_rfl
theorem uh(s:Str):TW (No "") [s]=s:=by simp [TW,Builtin.Str.glued]
section
variable{c:Cx}{d:Nat}(P:PF c)
include P
theorem Kv{n m:Int} : ag c (d+1) (A 40) [.t (.tup [lI n,lI m])] [] (.r (bif decide (0<m) then tv .none else tS (bif decide (n=0) then No "NaN" else bif decide (0<n) then No "Inf" else No "-Inf")) []):=by
 exists ae P 40 (by ac_rfl) LL rfl ?_;refine aC (fun w=>?_) fun w=>?_
 ·rw[NF w];symm;exact .k [] rfl rfl rfl rfl
 rw[Ny w];symm;refine aC (fun w=>?_) fun w=>?_
 ·rw[NF w];symm;exact .k [] rfl rfl rfl rfl
 rw[Ny w];symm;refine aC (fun w=>?_) fun w=>?_
 ·rw[NF w];symm;exact .k [] rfl rfl rfl rfl
 rw[Ny w];symm;exact .k [] rfl rfl rfl rfl
theorem Mt{n:Int}(h0:0≤n)(h:n<10^18)(hl:(f0 n).length≤30):ag c (d+1) (A 39) [ti n] [] (.r (tS (f0 n)) []):=by
 exists ae P 39 (by ac_rfl) LM rfl ?_;refine .abs ?_;rw[Qe h0];symm;exists ⟨1,?_⟩;exists ⟨by decide,by decide,by decide,by decide,?_⟩;exists iE (Ny (Int.not_le.mpr h)) ?_;refine .str (pN h0 (Pc h (by decide))) ?_;refine (?h:∀w:Str,w=f0 n→be c _ _ _ _ (tS w::_) _ _ _) _ (iK h0);intro w hw;rw[hw];symm;exists .append rfl rfl (by decide) ?_;exists iE (Ny (Int.not_lt.mpr h0)) ?_;exists .reverse rfl ?_;exists .join ?_;refine .join (ss:=[f0 n]) rfl (PyProof.Rows.joinOk_of_weight (show (f0 n).length+1≤1048576 from Np (Ob hl 1) (by decide)) (by decide)) (by simp) ?_;rw[uh];symm;exact .k [] rfl rfl rfl rfl
end
end
section
theorem LI:aX 45=⟨[some 0,some 1,none,none],[],[],.glo (.fn 35)<|.glo (.bi "abs")<|.loc 0<|.cst (.int 0)<|.sub<|.cal 1<|.cst (.int 10)<|.loc 1<|.bin .Pow<|.bin .Mult<|.loc 0<|.cst (.int 1)<|.sub<|.cal 2<|.put 2<|.glo (.fn 39)<|.loc 2<|.cal 1<|.mth "rjust"<|.loc 1<|.cst (.int 1)<|.bin .Add<|.cst (.str "0")<|.cal 3<|.put 3<|.loc 1<|.cst (.int 0)<|.cmp .Gt<|.ite (.loc 3<|.cst .none<|.glo (.bi "len")<|.loc 3<|.cal 1<|.loc 1<|.bin .Sub<|.slc<|.cst (.str ".")<|.bin .Add<|.loc 3<|.glo (.bi "len")<|.loc 3<|.cal 1<|.loc 1<|.bin .Sub<|.cst .none<|.slc<|.bin .Add<|.put 3<|.fin) (.fin)<|.loc 0<|.cst (.int 0)<|.sub<|.cst (.int 0)<|.cmp .Lt<|.ite (.cst (.str "-")<|.loc 3<|.bin .Add<|.rtn) (.fin)<|.loc 3<|.rtn⟩:=by ac_rfl
theorem JJ{c:Cx}{d:Nat}{m:Bool}{b:Bool}{x e g:I}{Q:UQ}{st:List UV}{L C:UL}{W:UW}(L':UL)(h1:b=true→∀R:UQ,R (.nx st) L' C W→be c m d R x st L C W)(h2:b=false→∀R:UQ,R (.nx st) L' C W→be c m d R e st L C W)(hk:be c m d Q g st L' C W):fO b (be c m d (jU c m d Q g) x st L C W) (be c m d (jU c m d Q g) e st L C W):=by
 induction b using Bool.casesOn
 ·exact h2 rfl _ hk
 ·exact h1 rfl _ hk
noncomputable def yB(p w:Int):Str:=Ub (f0 w) (p+1) ((No "0").cps.getD 0 0)
noncomputable def Bn(p w:Int):Str:=Qb (yB p w) none (some ((yB p w).length-p))
noncomputable def GN(p w:Int):Str:=Qb (yB p w) (some ((yB p w).length-p)) none
noncomputable def xe(p w:Int):Str:=bif decide (0<p) then Bn p w++No "." ++ GN p w else yB p w
noncomputable def Jh(n p w:Int):Str:=bif decide (n<0) then No "-" ++ xe p w else xe p w
section
variable{c:Cx}{d:Nat}(P:PF c)
include P
theorem Mp{n m p w:Int}(hn:n.natAbs<200)(m0:0<m)(m1:m<2^64)(p0:0≤p)(p1:p<20)(hw:Ed ((n.natAbs:Int)*10^p.toNat) m=w)(w0:0≤w)(w1:w<10^18)(hl:(f0 w).length≤30)(hj:(yB p w).length≤30)(ha:(Bn p w).length≤30)(hb:(Bn p w++No ".").length+(GN p w).length≤40)(hu:(xe p w).length≤40):ag c (d+2) (A 45) [.t (.tup [lI n,lI m]),ti p] [] (.r (tS (Jh n p w)) []):=by
 exists ae P 45 (by ac_rfl) LI rfl ?_;exists .abs ?_;exists ⟨by decide,by decide,p0,NC (OM p1) (by decide),?_⟩;exists ⟨.inl ⟨OD (by decide) (NB _),Pc (Int.ofNat_lt.mpr hn) (by decide)⟩,?_⟩;exists .r [] rfl rfl rfl (Ky P m0 m1) ?_;rw[hw];symm;exists .r [] rfl rfl rfl (Mt P w0 w1 hl) ?_;exists .rjust ?_;exists .rjust rfl (Int.add_nonneg p0 (by decide)) (NC (Tz p1) (by decide)) (Np hl (by decide)) ?_;refine JJ [some (.t (.tup [lI n,lI m])),some (ti p),some (ti w),some (tS (xe p w))] (fun e R hR=>?_) (fun e R hR=>?_) ?_
 ·have eu:xe p w=Bn p w++No "." ++ GN p w:=by unfold xe;rw[e];rfl
  rw[eu]at hR;symm;exists .lenS (Np hj (by decide)) ?_;exists .str (Np hj (by decide)) rfl rfl ?_;exists .addS (Np (Ob ha _) (by decide)) ?_;exists .lenS (Np hj (by decide)) ?_;exists .str (Np hj (by decide)) rfl rfl ?_;exists .addS (Np hb (by decide)) ?_;exact hR
 ·have eu:xe p w=yB p w:=by unfold xe;rw[e];rfl
  rw[eu]at hR;symm;exact hR
 unfold Jh;symm;refine aC (fun e=>?_) fun e=>?_
 ·rw[NF e];symm;exists .addS (Np (Oz hu _) (by decide)) ?_;exact .k [] rfl rfl rfl rfl
 rw[Ny e];symm;exact .k [] rfl rfl rfl rfl
end
end
section
theorem LH:aX 46=⟨[some 0,some 1,none,none,none,none,none],[],[],.glo (.fn 42)<|.loc 0<|.loc 1<|.cal 2<|.unp 3<|.put 2<|.put 3<|.put 4<|.glo (.bi "len")<|.glo (.fn 43)<|.loc 3<|.cal 1<|.cal 1<|.put 5<|.glo (.bi "max")<|.loc 4<|.cst (.int 0)<|.cal 2<|.cst (.int 1)<|.bin .Add<|.put 6<|.loc 0<|.cst (.int 0)<|.sub<|.cst (.int 0)<|.cmp .Lt<|.ite (.loc 6<|.cst (.int 1)<|.aug .Add<|.put 6<|.fin) (.fin)<|.loc 5<|.loc 6<|.glo (.bi "max")<|.loc 5<|.cst (.int 1)<|.bin .Sub<|.loc 4<|.bin .Sub<|.cst (.int 0)<|.cal 2<|.loc 4<|.tpl 4<|.rtn⟩:=by ac_rfl
section
variable{c:Cx}{d:Nat}(P:PF c)
include P
theorem Mo{n m g e r cnt lef pl:Int}{tx:Str}(hS:ag c (d+3) (A 42) [.t (.tup [lI n,lI m]),ti 15] [] (.r (.t (.tup [lI g,lS tx,lI e])) []))(hr:yZ tx 20 tx.length=some r)(hl:tx.length≤1000)(hq:(Qb tx none (some r)).length≤1000)(hc:((Qb tx none (some r)).length:Int)=cnt)(hf:(bif decide (n<0) then max e 0+1+1 else max e 0+1)=lef)(hp:max (cnt-1-e) 0=pl):ag c (d+4) (A 46) [.t (.tup [lI n,lI m]),ti 15] [] (.r (.t (.tup [lI cnt,lI lef,lI pl,lI e])) []):=by
 exists ae P 46 (by ac_rfl) LH rfl ?_;exists .r [] rfl rfl rfl hS ?_;exists .r [] rfl rfl rfl (Mq P hr hl) ?_;refine .lenS (Np hq (by decide)) ?_;rw[hc];symm;exists .max2 ?_;refine JJ [some (.t (.tup [lI n,lI m])),some (ti 15),some (ti g),some (tS tx),some (ti e),some (ti cnt),some (ti lef)] (fun w R hR=>?_) (fun w R hR=>?_) ?_
 ·rw[← hf,w]at hR;symm;exact hR
 ·rw[← hf,w]at hR;symm;exact hR
 symm;refine .max2 ?_;rw[hp];symm;exact .k [] rfl rfl rfl rfl
end
end
section
theorem Ke:aX 47=⟨[some 0,some 1,none,none,none,none,none,none,none,none,none],[],[],.cst (.int 1)<|.put 2<|.cst (.int 1)<|.put 3<|.cst (.int 0)<|.put 4<|.cst (.int 0)<|.put 5<|.cst (.int 0)<|.put 6<|.loc 0<|.for 7 (.glo (.fn 46)<|.loc 7<|.loc 1<|.cal 2<|.put 8<|.glo (.bi "max")<|.loc 2<|.loc 8<|.cst (.int 0)<|.sub<|.cal 2<|.put 2<|.glo (.bi "max")<|.loc 3<|.loc 8<|.cst (.int 1)<|.sub<|.cal 2<|.put 3<|.glo (.bi "max")<|.loc 4<|.loc 8<|.cst (.int 2)<|.sub<|.cal 2<|.put 4<|.glo (.bi "abs")<|.loc 8<|.cst (.int 3)<|.sub<|.cal 1<|.cst (.int 100)<|.cmp .GtE<|.ite (.glo (.bi "max")<|.loc 5<|.glo (.bi "len")<|.glo (.ty "str")<|.glo (.bi "abs")<|.loc 8<|.cst (.int 3)<|.sub<|.cal 1<|.cal 1<|.cal 1<|.cst (.int 2)<|.bin .Sub<|.cal 2<|.put 5<|.fin) (.fin)<|.loc 7<|.cst (.int 0)<|.sub<|.cst (.int 0)<|.cmp .Lt<|.ite (.cst (.int 1)<|.put 6<|.fin) (.fin)<|.fin)<|.loc 3<|.loc 4<|.cst (.int 0)<|.cmp .Gt<|.ite (.loc 4<|.cst (.int 1)<|.bin .Add<|.fin) (.cst (.int 0)<|.fin)<|.bin .Add<|.put 9<|.loc 6<|.loc 2<|.cst (.int 1)<|.cmp .Gt<|.ite (.loc 2<|.cst (.int 1)<|.bin .Add<|.fin) (.cst (.int 1)<|.fin)<|.bin .Add<|.cst (.int 4)<|.bin .Add<|.loc 5<|.bin .Add<|.put 10<|.loc 9<|.loc 10<|.cmp .LtE<|.ite (.cst (.str "fixed")<|.loc 4<|.tpl 2<|.rtn) (.fin)<|.cst (.str "scientific")<|.loc 2<|.tpl 2<|.rtn⟩:=by ac_rfl
section
variable{c:Cx}{d:Nat}(P:PF c)
include P
theorem HK:ag c (d+5) (A 47) [.t (.list []),ti 15] [] (.r (.t (.tup [lS (No "fixed"),lI 0])) []):=by
 exists ae P 47 (by ac_rfl) Ke rfl ?_;exact .k [] rfl rfl rfl rfl
theorem Mn{n m e cnt lef pl:Int}(hM:ag c (d+4) (A 46) [.t (.tup [lI n,lI m]),ti 15] [] (.r (.t (.tup [lI cnt,lI lef,lI pl,lI e])) []))(he:e.natAbs<100)(hw:max 1 lef+(bif decide (0<max 0 pl) then max 0 pl+1 else 0)≤(bif decide (n<0) then 1 else 0)+(bif decide (1<max 1 cnt) then max 1 cnt+1 else 1)+4+0):ag c (d+5) (A 47) [.t (.list [.tup [lI n,lI m]]),ti 15] [] (.r (.t (.tup [lS (No "fixed"),lI (max 0 pl)])) []):=by
 exists ae P 47 (by ac_rfl) Ke rfl ?_;exists .r [] rfl rfl rfl hM ?_;exists .max2 ?_;exists .max2 ?_;exists .max2 ?_;exists .abs ?_;exists iE (Ny (Int.not_le.mpr (Int.ofNat_lt.mpr he))) ?_;refine JJ [some (.t (.list [.tup [lI n,lI m]])),some (ti 15),some (ti (max 1 cnt)),some (ti (max 1 lef)),some (ti (max 0 pl)),some (ti 0),some (ti (bif decide (n<0) then 1 else 0)),some (.t (.tup [lI n,lI m])),some (.t (.tup [lI cnt,lI lef,lI pl,lI e])),none,none] (fun w R hR=>?_) (fun w R hR=>?_) ?_
 ·rw[w]at hR;symm;exact hR
 ·rw[w]at hR;symm;exact hR
 symm;refine AV (V:=fun b=>ti (bif b then max 0 pl+1 else 0)) (fun w R hR=>?_) (fun w R hR=>?_) ?_
 ·symm;exact hR
 ·symm;exact hR
 symm;refine AV (V:=fun b=>ti (bif b then max 1 cnt+1 else 1)) (fun w R hR=>?_) (fun w R hR=>?_) ?_
 ·symm;exact hR
 ·symm;exact hR
 symm;exists xA (NF hw) ?_;exact .k [] rfl rfl rfl rfl
end
end
section
theorem Kc:aX 48=⟨[some 0,some 1,none],[],[],.glo (.fn 40)<|.loc 0<|.cal 1<|.put 2<|.loc 2<|.cst .none<|.cmp .IsNot<|.ite (.loc 2<|.rtn) (.fin)<|.loc 1<|.cst (.int 0)<|.sub<|.cst (.str "fixed")<|.cmp .Eq<|.ite (.glo (.fn 45)<|.loc 0<|.loc 1<|.cst (.int 1)<|.sub<|.cal 2<|.rtn) (.fin)<|.bad⟩:=by ac_rfl
theorem LG:aX 49=⟨[some 0,some 1,none],[none],["form"],.loc 0<|.lcm 2 1 (.loc 1<|.cst .none<|.cmp .IsNot<|.and (.loc 1<|.cst (.int 1)<|.sub<|.cst (.int 0)<|.cmp .Gt<|.fin)<|.ite (.loc 1<|.fin) (.fin)<|.fin)<|.put 2<|.glo (.fn 47)<|.loc 2<|.loc 1<|.cal 2<|.ptc 0<|.loc 0<|.lcm 2 1 (.glo (.fn 48)<|.loc 1<|.cel 0<|.cal 2<|.fin)<|.rtn⟩:=by ac_rfl
section
variable{c:Cx}{d:Nat}(P:PF c)
include P
theorem HJ{n:Int}{f:T} : ag c (d+3) (A 48) [.t (.tup [lI n,lI 0]),.t f] [] (.r (tS (bif decide (n=0) then No "NaN" else bif decide (0<n) then No "Inf" else No "-Inf")) []):=by
 exists ae P 48 (by ac_rfl) Kc rfl ?_;exists .r [] rfl rfl rfl (Kv P) ?_;exact .k [] rfl rfl rfl rfl
theorem Mm{n m p:Int}{s:Str}(m0:0<m)(h:ag c (d+2) (A 45) [.t (.tup [lI n,lI m]),ti p] [] (.r (tS s) [])):ag c (d+3) (A 48) [.t (.tup [lI n,lI m]),.t (.tup [lS (No "fixed"),lI p])] [] (.r (tS s) []):=by
 have h4:=Kv P (d:=d+1) (n:=n) (m:=m);rw[NF m0]at h4;exists ae P 48 (by ac_rfl) Kc rfl ?_;exists .r [] rfl rfl rfl h4 ?_;exists .r [] rfl rfl rfl h ?_;exact .k [] rfl rfl rfl rfl
theorem Ml{n m:Int}{f:T}{s:Str}(h7:ag c (d+5) (A 47) [.t (.list (bif decide (0<m) then [.tup [lI n,lI m]] else [])),ti 15] [] (.r (.t f) []))(h8:ag c (d+5) (A 48) [.t (.tup [lI n,lI m]),.t f] [] (.r (tS s) [])):ag c (d+6) (A 49) [.t (.list [.tup [lI n,lI m]]),ti 15] [] (.r (.w 0) [.l [lS s]]):=by
 exists ae P 49 (by ac_rfl) LG rfl ?_;refine aC (fun w=>?_) fun w=>?_
 ·rw[NF w]at h7;symm;exists .r [] rfl rfl rfl h7 ?_;exists .r [] rfl rfl rfl h8 ?_;exact .k [1] rfl rfl rfl rfl
 ·rw[Ny w]at h7;symm;exists .r [] rfl rfl rfl h7 ?_;exists .r [] rfl rfl rfl h8 ?_;exact .k [1] rfl rfl rfl rfl
end
end
section
theorem LF:aX 50=⟨[some 0,some 1],[],[],.glo (.fn 49)<|.loc 0<|.lst 1<|.loc 1<|.cal 2<|.cst (.int 0)<|.sub<|.rtn⟩:=by ac_rfl
section
variable{c:Cx}{d:Nat}(P:PF c)
include P
theorem Cz{n m:Int}{f:T}{s:Str}(h7:ag c (d+5) (A 47) [.t (.list (bif decide (0<m) then [.tup [lI n,lI m]] else [])),ti 15] [] (.r (.t f) []))(h8:ag c (d+5) (A 48) [.t (.tup [lI n,lI m]),.t f] [] (.r (tS s) [])):ag c (d+7) (A 50) [.t (.tup [lI n,lI m]),ti 15] [] (.r (tS s) []):=by
 exists ae P 50 (by ac_rfl) LF rfl ?_;exists .r [] rfl rfl rfl (Ml P h7 h8) ?_;exact .k [] rfl rfl rfl rfl
end
end
section
noncomputable def dS(n d:Int):Str:=
 if d=0 then (if n=0 then No "NaN" else if n=1 then No "Inf" else No "-Inf")
 else (if n<0 then No "-" else No "")++mP (n.natAbs / d)++(if d=1 then No "" else if d=2 then No ".5" else No "." ++ mP (25*((n.natAbs:Int) % 4)))
noncomputable def oE(n d:Int):Str:=
 if d=0 then (if n=0 then No "NaN" else if n=1 then No "Inf" else No "-Inf")
 else (if n<0 then No "-" else No "")++f0 (n.natAbs / d)++(if d=1 then No "" else if d=2 then No ".5" else No "." ++ f0 (25*((n.natAbs:Int) % 4)))
theorem qS{n d:Int}(h:0≤d):dS n d=oE n d:=by
 unfold dS oE;rw[iK (SA (NB _) h),iK (Int.mul_nonneg (by decide) (P3 _ (by decide)))]
noncomputable def dom(n d:Int):Bool:=(n==0&&d==0)||(n==1&&d==0)||(n == -1&&d==0)||(decide (-100≤n)&&decide (n≤199)&&(d==1||((d==2||d==4)&&n % 2==1)))
noncomputable def ML(n m e cnt lef p w:Int)(sl:Str):Bool:=decide (sl.length≤1000)&&(decide (e.natAbs<100)&&(decide (max 1 lef+(bif decide (0<p) then p+1 else 0)≤(bif decide (n<0) then 1 else 0)+(bif decide (1<max 1 cnt) then max 1 cnt+1 else 1)+4+0)&&(decide (0≤p)&&(decide (p<20)&&(decide (0≤w)&&(decide (w<10^18)&&(decide ((f0 w).length≤30)&&(decide ((yB p w).length≤30)&&(decide ((Bn p w).length≤30)&&(decide ((Bn p w++No ".").length+(GN p w).length≤40)&&(decide ((xe p w).length≤40)&&(decide (Jh n p w=oE n m)))))))))))))
noncomputable def Iy(n m e:Int)(sl:Str)(p:Int):Bool:=ML n m e sl.length (bif decide (n<0) then max e 0+1+1 else max e 0+1) p (Ed ((n.natAbs:Int)*10^p.toNat) m) sl
noncomputable def zT(n m e:Int)(tx:Str):Bool:=decide (tx.length≤1000)&&(yZ tx 20 tx.length).any fun r=>Iy n m e (Qb tx none (some r)) (max 0 (max ((Qb tx none (some r)).length-1-e) 0))
noncomputable def MF(n m e:Int):Bool:=decide (0≤15-1-e)&&decide (15-1-e≤1000)&&(decide (0≤xY n m e)&&decide (xY n m e<10^15))&&zT n m e (f0 (xY n m e))
noncomputable def ry(n m:Int):Bool:=(decide (n≠0)&&decide (n.natAbs<200))&&(AE 5 n.natAbs m 0).any fun p=>(AD 5 n.natAbs p.1 p.2).any fun e=>MF n m e
theorem A4{α:Type}{o:Option α}{f:α→Bool}(h:o.any f=true):oC o (fun a=>some (f a)) true:=by
 induction o using Option.casesOn with
 | none=>exact (Nt h).elim
 | some a=>exact ⟨a,rfl,Nw some h⟩
noncomputable def MG(i:Nat):Bool:=(O8 i 100||ry (-100+i) 1)&&(decide ((-100+(i:Int)) % 2≠1)||(ry (-100+i) 2&&ry (-100+i) 4))
theorem MI:zT 0 1 0 (Txt.mul (No "0") 15)=true:=by decide +kernel
theorem MH:(Ou 300).all MG=true:=by decide +kernel
section
variable{c:Cx}{d:Nat}(P:PF c)
include P
theorem CA{n m e g:Int}{tx:Str}(hn:n.natAbs<200)(m0:0<m)(m1:m<2^64)(hS:ag c (d+3) (A 42) [.t (.tup [lI n,lI m]),ti 15] [] (.r (.t (.tup [lI g,lS tx,lI e])) []))(h:zT n m e tx=true):ag c (d+7) (A 50) [.t (.tup [lI n,lI m]),ti 15] [] (.r (tS (dS n m)) []):=by
 have h:=aa h;have l:=Nx h.1;obtain ⟨r,hr,h⟩:=A4 h.2;have q:=(Nx (aa (aa (aa (aa (aa (aa (aa (aa (aa (aa (aa (aa (Option.some.inj h)).2).2).2).2).2).2).2).2).2).2).2).2);rw[qS (OM m0),← q];refine Cz P (?h7:ag c (d+5) (A 47) _ [] (.r (.t (.tup [lS (No "fixed"),lI (max 0 (max (((Qb tx none (some r)).length:Int)-1-e) 0))])) [])) (Mm P m0 (Mp P hn m0 m1 (Nx (aa (aa (aa (aa (Option.some.inj h)).2).2).2).1) (Nx (aa (aa (aa (aa (aa (Option.some.inj h)).2).2).2).2).1) rfl (Nx (aa (aa (aa (aa (aa (aa (Option.some.inj h)).2).2).2).2).2).1) (Nx (aa (aa (aa (aa (aa (aa (aa (Option.some.inj h)).2).2).2).2).2).2).1) (Nx (aa (aa (aa (aa (aa (aa (aa (aa (Option.some.inj h)).2).2).2).2).2).2).2).1) (Nx (aa (aa (aa (aa (aa (aa (aa (aa (aa (Option.some.inj h)).2).2).2).2).2).2).2).2).1) (Nx (aa (aa (aa (aa (aa (aa (aa (aa (aa (aa (Option.some.inj h)).2).2).2).2).2).2).2).2).2).1) (Nx (aa (aa (aa (aa (aa (aa (aa (aa (aa (aa (aa (Option.some.inj h)).2).2).2).2).2).2).2).2).2).2).1) (Nx (aa (aa (aa (aa (aa (aa (aa (aa (aa (aa (aa (aa (Option.some.inj h)).2).2).2).2).2).2).2).2).2).2).2).1)));rw[NF m0];exact Mn P (Mo P hS hr l (Nx (aa (Option.some.inj h)).1) rfl rfl rfl) (Nx (aa (aa (Option.some.inj h)).2).1) (Nx (aa (aa (aa (Option.some.inj h)).2).2).1)
theorem zk{n m:Int}(m0:0<m)(m1:m<2^64)(h:ry n m=true):ag c (d+7) (A 50) [.t (.tup [lI n,lI m]),ti 15] [] (.r (tS (dS n m)) []):=by
 have h:=aa h;have h0:=aa h.1;have hn:=Nx h0.2;obtain ⟨p,hx,h⟩:=A4 h.2;obtain ⟨e,hy,h⟩:=A4 (Option.some.inj h);have h:=aa (Option.some.inj h);have h1:=aa h.1;have h2:=aa h1.1;exact CA P hn m0 m1 (Mr P (Nx h0.1) hx hy (Nx h2.1) (Nx h2.2) hn m0 m1 h1.2) h.2
theorem HI{n m:Int}(h:(n==0&&m==0||n==1&&m==0||n == -1&&m==0)=true):ag c (d+7) (A 50) [.t (.tup [lI n,lI m]),ti 15] [] (.r (tS (dS n m)) []):=by
 have k:m=0∧(bif decide (n=0) then No "NaN" else bif decide (0<n) then No "Inf" else No "-Inf")=dS n 0:=by
  rcases Bool.or_eq_true_iff.mp h with h | h
  ·rcases Bool.or_eq_true_iff.mp h with h | h
   ·have h:=aa h;exact ⟨eq_of_beq h.2,(eq_of_beq h.1).symm▸rfl⟩
   ·have h:=aa h;exact ⟨eq_of_beq h.2,(eq_of_beq h.1).symm▸rfl⟩
  ·have h:=aa h;exact ⟨eq_of_beq h.2,(eq_of_beq h.1).symm▸rfl⟩
 have e:=k.1;subst e;exact Cz P (HK P) (k.2▸HJ P (f:=.tup [lS (No "fixed"),lI 0]))
theorem Mk{n m:Int}(h:dom n m=true):ag c (d+7) (A 50) [.t (.tup [lI n,lI m]),ti 15] [] (.r (tS (dS n m)) []):=by
 rcases Bool.or_eq_true_iff.mp h with h | h
 ·exact HI P h
 have h:=aa h;have b:=aa h.1;obtain ⟨i,e⟩:=Int.le.dest (Nx b.1);subst e;have k:=aa (List.all_eq_true.mp MH i (List.mem_range.mpr (Nat.lt_succ_of_le (Int.ofNat_le.mp (Int.le_of_add_le_add_left (a:=-100) (c:=299) (Nx b.2))))));rcases Bool.or_eq_true_iff.mp h.2 with m1 | m1
 ·have e:=eq_of_beq m1;subst e;rcases Bool.or_eq_true_iff.mp k.1 with k | k
  ·have e:=OG k;subst e;exact CA P (by decide) (by decide) (by decide) (HL P) MI
  ·exact zk P (by decide) (by decide) k
 ·have m1:=aa m1;have k:ry (-100+i) 2=true∧ry (-100+i) 4=true:=by
   rcases Bool.or_eq_true_iff.mp k.2 with k | k
   ·exact absurd (eq_of_beq m1.2) (Nx k)
   ·exact aa k
  rcases Bool.or_eq_true_iff.mp m1.1 with e | e
  ·have e:=eq_of_beq e;subst e;exact zk P (by decide) (by decide) k.1
  ·have e:=eq_of_beq e;subst e;exact zk P (by decide) (by decide) k.2
end
end
section
theorem LU:aX 30=⟨[some 0],[],[],.loc 0<|.cst .none<|.cmp .Is<|.ite (.cst .none<|.rtn) (.fin)<|.loc 0<|.cst (.int 1)<|.tpl 2<|.rtn⟩:=by ac_rfl
theorem LB:aX 66=⟨[some 0,some 1,some 2],[],[],.loc 1<|.cst .none<|.cmp .Is<|.ite (.cst .none<|.rtn) (.fin)<|.loc 0<|.cst (.str "character")<|.cmp .Eq<|.ite (.bad) (.fin)<|.loc 0<|.cst (.str "double")<|.cmp .Eq<|.ite (.bad) (.fin)<|.loc 1<|.rtn⟩:=by ac_rfl
theorem LA:aX 67=⟨[some 0,some 1,some 2],[],[],.loc 0<|.cst (.str "double")<|.cmp .Eq<|.or (.loc 1<|.cst .none<|.cmp .Is<|.fin)<|.ite (.loc 1<|.rtn) (.fin)<|.loc 0<|.cst (.str "character")<|.cmp .Eq<|.ite (.bad) (.fin)<|.glo (.fn 30)<|.loc 1<|.cal 1<|.rtn⟩:=by ac_rfl
theorem Lz:aX 68=⟨[some 0,some 1],[],[],.loc 1<|.cst .none<|.cmp .Is<|.or (.loc 0<|.cst (.str "character")<|.cmp .Eq<|.fin)<|.ite (.loc 1<|.rtn) (.fin)<|.loc 0<|.cst (.str "logical")<|.cmp .Eq<|.ite (.loc 1<|.cst (.int 1)<|.cmp .Eq<|.ite (.cst (.str "TRUE")<|.fin) (.cst (.str "FALSE")<|.fin)<|.rtn) (.fin)<|.loc 0<|.cst (.str "integer")<|.cmp .Eq<|.ite (.glo (.ty "str")<|.loc 1<|.cal 1<|.rtn) (.fin)<|.glo (.fn 50)<|.loc 1<|.cst (.int 15)<|.cal 2<|.rtn⟩:=by ac_rfl
theorem Ly:aX 69=⟨[some 0,some 1,some 2,some 3],[],[],.loc 0<|.loc 2<|.cmp .Eq<|.ite (.loc 1<|.rtn) (.fin)<|.loc 2<|.cst (.str "list")<|.cmp .Eq<|.or (.loc 2<|.cst (.str "expression")<|.cmp .Eq<|.or (.loc 2<|.cst (.str "pairlist")<|.cmp .Eq<|.fin)<|.fin)<|.ite (.glo (.fn 70)<|.loc 0<|.cal 1<|.ite (.glo (.fn 16)<|.glo (.cls 113)<|.loc 0<|.loc 1<|.lst 1<|.cal 2<|.cal 1<|.fin) (.loc 1<|.fin)<|.rtn) (.fin)<|.glo (.fn 70)<|.loc 0<|.cal 1<|.not<|.ite (.bad) (.fin)<|.loc 2<|.cst (.str "logical")<|.cmp .Eq<|.ite (.bad) (.fin)<|.loc 2<|.cst (.str "integer")<|.cmp .Eq<|.ite (.glo (.fn 66)<|.loc 0<|.loc 1<|.loc 3<|.cal 3<|.rtn) (.fin)<|.loc 2<|.cst (.str "double")<|.cmp .Eq<|.ite (.glo (.fn 67)<|.loc 0<|.loc 1<|.loc 3<|.cal 3<|.rtn) (.fin)<|.glo (.fn 68)<|.loc 0<|.loc 1<|.cal 2<|.rtn⟩:=by ac_rfl
noncomputable def fW(k:Kd):Sc→Option Str
 | .na=>none
 | .str s=>some s
 | .int i=>some (match k with | .lg=>(if i=1 then No "TRUE" else No "FALSE") | _=>mP i)
 | .q n d=>some (dS n d)
noncomputable def HE:Option Str→Sc
 | none=>.na
 | some s=>.str s
noncomputable def uU:Sc→Sc
 | .int i=>.q i 1
 | s=>s
noncomputable def uY(k to:Kd)(x:X):X:=match x with
 | .sc s=>(match to with
  | .ls=>.sv k s
  | .ch=>.sc (HE (fW k s))
  | .db=>.sc (uU s)
  | _=>.sc s)
 | x=>x
noncomputable def aB(k to:Kd)(x:X):X:=bif k.rank==to.rank then x else uY k to x
noncomputable def fJ:Kd→Sc→Prop
 | _,.na=>True
 | .lg,.int i=>i=0∨i=1
 | .it,.int i=>-100≤i∧i≤199
 | .ch,.str _=>True
 | .db,.q n d=>dom n d=true
 | _,_=>False
noncomputable def ej:Kd→X→Prop
 | .ls,.null=>True
 | .ls,.sv k s=>k≠.ls∧fJ k s
 | .ls,_=>False
 | k,.sc s=>fJ k s
 | _,_=>False
theorem kB{i:Int}(h : -100≤i∧i≤199):i.natAbs<10^20:=F9 (OD (by decide) h.1) (OE h.2 (by decide))
section
variable{c:Cx}{d:Nat}(P:PF c){k to:Kd}{s:Sc}{t:T}{ns:List T}
include P
theorem Mx{i:Int} : ag c (d+1) (A 30) [ti i] [] (.r (.t (.tup [lI i,lI 1])) []):=by
 exists ae P 30 (by ac_rfl) LU rfl ?_;exact .k [] rfl rfl rfl rfl
theorem Mj(h:fJ .lg s):ag c (d+1) (A 66) [tS Gq,.t (cY s),.w 0] [.l ns] (.r (.t (cY s)) [.l ns]):=by
 exists ae P 66 (by ac_rfl) LB rfl ?_
 induction s using Sc.casesOn with
 | na=>
  symm;exact .k [] rfl rfl rfl rfl
 | int i=>
  symm;exact .k [] rfl rfl rfl rfl
 | _=>exact h.elim
theorem Mi(h:fJ k s)(hk:k=.lg∨k=.it):ag c (d+2) (A 67) [tS k.s,.t (cY s),.w 0] [.l ns] (.r (.t (cY (uU s))) [.l ns]):=by
 exists ae P 67 (by ac_rfl) LA rfl ?_;have h1:decide (k.s=GC)=false:=by rcases hk with rfl | rfl<;>ac_rfl
 have h2:decide (k.s=qR)=false:=by rcases hk with rfl | rfl<;>ac_rfl
 refine iE h1 ?_
 induction s using Sc.casesOn with
 | na=>
  symm;exact .k [] rfl rfl rfl rfl
 | int i=>
  symm;exists iE h2 ?_;exists .r [] rfl rfl rfl (Mx P) ?_;exact .k [] rfl rfl rfl rfl
 | str=>rcases hk with rfl | rfl<;>exact h.elim
 | q=>rcases hk with rfl | rfl<;>exact h.elim
theorem Mh(h:fJ k s)(hk:k≠.ls):ag c (d+8) (A 68) [tS k.s,.t (cY s)] [] (.r (.t (bz (fW k s))) []):=by
 exists ae P 68 (by ac_rfl) Lz rfl ?_
 induction s using Sc.casesOn with
 | na=>
  symm;exact .k [] rfl rfl rfl rfl
 | str s=>
  induction k using Kd.casesOn<;>first | exact h.elim | skip
  symm;exact .k [] rfl rfl rfl rfl
 | int i=>
  induction k using Kd.casesOn<;>first | exact h.elim | skip
  ·symm;exists aC (fun e=>?_) fun e=>?_
   ·exact .k [] rfl rfl rfl (by unfold fW;dsimp only;rw[if_pos e];rfl)
   ·symm;exact .k [] rfl rfl rfl (by unfold fW;dsimp only;rw[if_neg e];rfl)
  ·symm;exists .str (kB h) ?_;exact .k [] rfl rfl rfl rfl
 | q n m=>
  induction k using Kd.casesOn<;>first | exact h.elim | skip
  symm;exists .r [] rfl rfl rfl (Mk P h) ?_;exact .k [] rfl rfl rfl rfl
noncomputable def Kd.le(k k':Kd):Bool:=S2 k.rank k'.rank
omit P in
theorem Ae(k k':Kd):decide (k.s=k'.s)=(k.rank==k'.rank):=by induction k using Kd.casesOn<;>induction k' using Kd.casesOn<;>ac_rfl
omit P in
theorem jh{x:X}(h:ej k x)(hk:k.isL=false):∃s,x=.sc s∧fJ k s:=by
 induction k using Kd.casesOn<;>first | exact (Nt hk.symm).elim;done | induction x using X.casesOn<;>first | exact ⟨_,rfl,h⟩ | exact h.elim
omit P in
theorem xU(h:k.rank≤1)(e:(k.rank==1)=false):k=.lg:=by
 induction k using Kd.casesOn<;>first | rfl | exact absurd h (by decide) | exact (Nt e.symm).elim
omit P in
theorem sJ(h:k.rank≤2)(e:(k.rank==2)=false):k=.lg∨k=.it:=by
 induction k using Kd.casesOn<;>first | exact .inl rfl | exact .inr rfl | exact absurd h (by decide) | exact (Nt e.symm).elim
theorem Mg{x:X}(h:ej k x)(hr:k.rank≤to.rank):ag c (d+9) (A 69) [tS k.s,.t (xT x),tS to.s,.w 0] [.l ns] (.r (.t (xT (aB k to x))) [.l ns]):=by
 exists ae P 69 (by ac_rfl) Ly rfl ?_;rw[Ae];unfold aB;refine aG (o:=k.rank==to.rank) (fun e=>?_) (fun e=>?_)
 ·have hk:k.isL=false:=by induction k using Kd.casesOn<;>first | rfl | (induction to using Kd.casesOn<;>first | exact absurd hr (by decide) | injection e)
  obtain ⟨s,rfl,hs⟩:=jh h hk
  induction to using Kd.casesOn
  ·exact absurd (Nat.le_zero.mp hr) (fun w=>by rw[w]at e;injection e)
  ·symm;refine .r [] rfl rfl rfl (GH P) ?_;rw[hk];symm;obtain rfl:=xU hr e;exists .r [0] rfl rfl rfl (Mj P hs) ?_;exact .k [] rfl rfl rfl rfl
  ·symm;refine .r [] rfl rfl rfl (GH P) ?_;rw[hk];symm;exists .r [0] rfl rfl rfl (Mi P hs (sJ hr e)) ?_;exact .k [] rfl rfl rfl rfl
  ·symm;refine .r [] rfl rfl rfl (GH P) ?_;rw[hk];symm;exists .r [] rfl rfl rfl (Mh P hs fun w=>by rw[w]at hk;injection hk) ?_;exact .k [] rfl rfl rfl (by dsimp only [uY,cond_false];cases fW k s<;>rfl)
  ·symm;refine .r [] rfl rfl rfl (GH P) ?_;rw[hk];symm;exists .v2 rfl rfl ?_;exists .r [] rfl rfl rfl (tc P) ?_;exact .k [] rfl rfl rfl rfl
 ·symm;exact .k [] rfl rfl rfl rfl
end
end
section
theorem LS:aX 32=⟨[some 0],[],[],.loc 0<|.cst .none<|.cmp .IsNot<|.and (.loc 0<|.cst (.int 1)<|.sub<|.cst (.int 0)<|.cmp .Gt<|.fin)<|.rtn⟩:=by ac_rfl
theorem LR:aX 34=⟨[some 0,none],[],[],.glo (.fn 32)<|.loc 0<|.cal 1<|.not<|.ite (.cst .none<|.rtn) (.fin)<|.glo (.bi "abs")<|.loc 0<|.cst (.int 0)<|.sub<|.cal 1<|.loc 0<|.cst (.int 1)<|.sub<|.bin .FloorDiv<|.put 1<|.loc 0<|.cst (.int 0)<|.sub<|.cst (.int 0)<|.cmp .GtE<|.ite (.loc 1<|.fin) (.cst (.int 0)<|.loc 1<|.bin .Sub<|.fin)<|.rtn⟩:=by ac_rfl
theorem Lu:aX 78=⟨[some 0,none,none],[],[],.loc 0<|.att "kind"<|.cst (.str "integer")<|.cmp .Eq<|.ite (.loc 0<|.att "items"<|.rtn) (.fin)<|.lst 0<|.put 1<|.loc 0<|.att "items"<|.for 2 (.loc 2<|.cst .none<|.cmp .Is<|.or (.loc 2<|.cst (.int 1)<|.sub<|.cst (.int 0)<|.cmp .Eq<|.fin)<|.ite (.loc 1<|.mth "append"<|.cst .none<|.cal 2<|.pop<|.fin) (.loc 1<|.mth "append"<|.glo (.fn 34)<|.loc 2<|.cal 1<|.cal 2<|.pop<|.fin)<|.fin)<|.loc 1<|.rtn⟩:=by ac_rfl
theorem Lr:aX 79=⟨[some 0,some 1,none,none,none,none],[],[],.glo (.bi "len")<|.loc 0<|.cal 1<|.put 2<|.loc 2<|.cst (.int 0)<|.cmp .Eq<|.ite (.lst 0<|.rtn) (.fin)<|.lst 0<|.put 3<|.glo (.ty "range")<|.glo (.bi "max")<|.loc 1<|.loc 2<|.cal 2<|.cal 1<|.for 4 (.loc 0<|.loc 4<|.loc 2<|.bin .Mod<|.sub<|.put 5<|.loc 5<|.cst .none<|.cmp .Is<|.ite (.loc 3<|.mth "append"<|.cst .none<|.cal 2<|.pop<|.fin) (.loc 5<|.cst (.int 0)<|.cmp .NotEq<|.ite (.loc 3<|.mth "append"<|.loc 4<|.cal 2<|.pop<|.fin) (.fin)<|.fin)<|.fin)<|.loc 3<|.rtn⟩:=by ac_rfl
noncomputable def bo:Sc→Option Int
 | .int i=>some i
 | .q n d=>if d=0 then none else some (if 0≤n then n / d else -(-n / d))
 | _=>none
noncomputable def eM:Option Int→T
 | none=>lN
 | some i=>lI i
noncomputable def cx:Kd→Sc→Prop
 | _,.na=>True
 | .lg,.int i=>i=0∨i=1
 | .it,.int i=>-100≤i∧i≤100
 | .ch,.str _=>True
 | .db,.q n d=>0≤d∧d≤2∧-100≤n∧n≤100
 | _,_=>False
noncomputable def dI:Ix→Prop
 | .vec k is=>is.length≤9∧(∀s∈is,cx k s)∧(k=.ls→is=[])
 | _=>True
theorem bh{α β:Type}{acc:List α}{x:β}{l:List β}(h:acc.length+(x::l).length≤5000):acc.length<100000:=Ja h
theorem cj{α β:Type}{acc:List α}{y:α}{x:β}{l:List β}{N:Nat}(h:acc.length+(x::l).length≤N):(acc++[y]).length+l.length≤N:=by
 rw[NH,OU,O6 [y].length];exact h
theorem cr{α β:Type}{acc:List α}{x:β}{l:List β}{N:Nat}(h:acc.length+(x::l).length≤N):acc.length+l.length≤N:=Np (Oz (PC _) _) h
section
variable{c:Cx}{d:Nat}(P:PF c){k to:Kd}{s:Sc}{t:T}
include P
theorem Mw{n m:Int} : ag c (d+1) (A 32) [.t (.tup [lI n,lI m])] [] (.r (tb (decide (0<m))) []):=by
 exists ae P 32 (by ac_rfl) LS rfl ?_;exact .k [] rfl rfl rfl rfl
theorem Mv{n m:Int}(h:0<m)(h':m≤100):ag c (d+2) (A 34) [.t (.tup [lI n,lI m])] [] (.r (.t (eM (bo (.q n m)))) []):=by
 exists ae P 34 (by ac_rfl) LR rfl ?_;refine .r [] rfl rfl rfl (Mw P) ?_;rw[NF h];symm;exists .abs ?_;exists ⟨h,OE h' (by decide),?_⟩;have e:bo (.q n m)=some (if 0≤n then n / m else -(-n / m)):=if_neg fun w=>by rw[w]at h;cases h
 rw[e];exists aC (fun w=>?_) fun w=>?_
 ·symm;rw[Qe w];exact .k [] rfl rfl rfl (by rw[if_pos w];rfl)
 ·symm;rw[SM (OM (Int.not_le.mp w)),Int.zero_sub];exact .k [] rfl rfl rfl (by rw[if_neg w];rfl)
theorem Md{k:Kd}{is:List Sc}(hk:k=.it∨k=.db)(h:∀s∈is,cx k s)(hl:is.length≤9){at_:T}{lo:Bool} : ag c (d+3) (A 78) [.t (vT k.s (.list (is.map cY)) at_ lo)] [] (.r (.t (.list (is.map fun s=>eM (bo s)))) []):=by
 exists ae P 78 (by ac_rfl) Lu rfl ?_;refine aK P ?_;rcases hk with rfl | rfl
 ·symm;exists aI P ?_;refine .k [] rfl rfl rfl ?_;refine Nw (fun l=>Rq.r (.t (.list l)) []) (Oj fun s hs=>?_).symm;have:=h s hs
  induction s using Sc.casesOn<;>first | rfl | exact this.elim
 ·symm;exists aI P ?_;refine (?h:∀(is:List Sc) (acc:List T) y,(∀s∈is,cx .db s)→acc.length+is.length≤5000→_=acc++is.map (fun s=>eM (bo s))→cu _ _ _ (is.map cY) [_,some (.w 0),y] [] [.l acc]) is [] none h (by rw[List.length_nil];exact Np (NL (Ot _)) (Np hl (by decide))) (Pn _).symm;clear h hl;intro is
  induction is with
  | nil=>
   intro acc y h hl e;symm;exact .t rfl rfl rfl (by rw[e,Pp,Nr])
  | cons s is ih=>
   intro acc y h hl e;have hs:=h s (.head _);have go:=fun y=>ih (acc++[eM (bo s)]) y (fun s hs=>h s (.tail _ hs)) (cj hl) (e.trans (ND ..));clear ih h e;refine uA fun R hR=>?_;replace go:=fun y=>hR (.nx []) _ _ _ (go y);clear hR
   induction s using Sc.casesOn with
   | na=>
    symm;exists .append rfl rfl (bh hl) ?_;exact go _
   | q n m=>
    symm;exists aC (fun w=>?_) fun w=>?_
    ·exists .append rfl rfl (bh hl) ?_;rw[show bo (.q n m)=none from if_pos w]at go;exact go _
    ·symm;exists .r [] rfl rfl rfl (Mv P (Int.lt_iff_le_and_ne.mpr ⟨hs.1,Pk w⟩) (NC hs.2.1 (by decide))) ?_;exists .append rfl rfl (bh hl) ?_;exact go _
   | _=>exact hs.elim
end
end
section
noncomputable def t0(i:Nat):Sc→Option (Option Nat)
 | .int z=>if z=0 then none else some (some i)
 | _=>some none
noncomputable def iC(is:List Sc)(i:Nat):Option (Option Nat):=(is[i % is.length]?).elim (some none) (t0 i)
noncomputable def gy(is:List Sc)(n:Nat):List (Option Nat):=bif is.isEmpty then [] else (Ou (max n is.length)).filterMap (iC is)
inductive pR where
 | err(m:Str) | ok (spots:List (Option Nat)) (added:Option Tx)
noncomputable def pR.ctorIdx(x:pR):Nat:=x.casesOn (fun ζ=>0) fun ζ ζ=>1
abbrev Em:Str:=No "can't mix NAs with negative subscripts"
abbrev El:Str:=No "can't mix positive and negative subscripts"
abbrev AX:Str:=No "invalid subscript type 'list'"
noncomputable def c6:Option Int→Bool
 | some i=>decide (i<0)
 | none=>false
noncomputable def gA:Option Int→Bool
 | some i=>decide (0<i)
 | none=>false
noncomputable def fm:Option Int→Option (Option Nat)
 | none=>some none
 | some i=>if 0<i then some (some (i-1).toNat) else none
noncomputable def ub(cuts:List (Option Int))(n:Nat):List (Option Nat):=(Ou n).filterMap fun (i:Nat)=>if some (-(i:Int)-1)∈cuts then none else some (some i)
noncomputable def bp(cuts:List (Option Int))(n:Nat):pR:=
 bif cuts.any c6 then (bif cuts.any (·.isNone) then .err Em else bif cuts.any gA then .err El else .ok (ub cuts n) none) else .ok (cuts.filterMap fm) none
theorem bv(m:Nat):(aW 0 m).map T.leaf=(Ou m).map fun i:Nat=>lI i:=by
 show PU _ (PU _ _)=_;rw[Oc,Tk,Int.toNat_natCast];refine Oj fun i ζ=>?_;show lI (0+(i:Int))=lI i;rw[Int.zero_add]
theorem pw{α β:Type}(g:α→Option β)(x:α)(l:List α):(x::l).filterMap g=(g x).toList++l.filterMap g:=by
 rw[O2];cases g x<;>rfl
theorem bM{α:Type}(g:α→T)(l:List α)(i:Nat):cq (l.map g) i=(l[i]?).map g:=by
 induction l generalizing i with
 | nil=>rfl
 | cons x r ih=>
  induction i using Pw with
  | zero=>rfl
  | succ i=>exact ih i
section
variable{c:Cx}{d:Nat}(P:PF c)
theorem fS{W:UW}{a:UV}{ts:List T}{n:Nat}{t:T}{K:T→Prop}(h:pk W a=some (.list ts))(e:cq ts n=some t)(q:K t):ed a (ti n) W K:=by
 unfold ed;rw[h];show wP ts K (.int n);unfold wP;rw[Ny fun h=>Int.noConfusion (V.int.inj h)];show au (cq ts n) K;rw[e];exact q
include P
theorem Mc{is:List Sc}{n:Nat}(h:∀s∈is,cx .lg s)(hl:is.length≤9)(hn:n≤1000):ag c (d+1) (A 79) [.t (.list (is.map cY)),ti n] [] (.r (.t (.list ((gy is n).map cL))) []):=by
 exists ae P 79 (by ac_rfl) Lr rfl ?_;exists .len rfl ?_;rw[Nq];exists aC (fun e=>?_) fun e=>?_
 ·refine .t rfl rfl rfl ?_;rw[show is=[] from List.length_eq_zero_iff.mp (Int.ofNat_eq_zero.mp e)];rfl
 symm;have hm:max n is.length≤1000:=Nat.max_le.mpr ⟨hn,Np hl (by decide)⟩;have hp:0<is.length:=Pz fun w=>e (Nw _ w);exists .max2 ?_;rw[wW];exists .rng1 (NC (by decide) (NB _)) (Int.ofNat_le.mpr (Np hm (by decide))) ?_;rw[bv];have e0:gy is n=(Ou (max n is.length)).filterMap (iC is):=by induction is using List.casesOn<;>first | exact absurd hp (QN _) | rfl
 rw[e0];have hr:((Ou (max n is.length)).length)≤5000:=by rw[OC];exact Np hm (by decide)
 generalize Ou (max n is.length)=l at hr ⊢;refine (?h:∀(l:List Nat) (acc:List T) x y,acc.length+l.length≤5000→_=acc++(l.filterMap (iC is)).map cL→cu _ _ _ (l.map fun i:Nat=>lI i) [_,_,some (ti is.length),some (.w 0),x,y] [] [.l acc]) l [] none none (Np (NL (Ot _)) hr) (Pn _).symm;clear hr hm hn e e0;intro l
 induction l with
 | nil=>
  intro acc x y hl e;symm;exact .t rfl rfl rfl (by rw[e];rw[TQ,Pp,Nr])
 | cons i l ih=>
  intro acc x y hl e;have hi:=R8 i hp;have hg:=NI hi;have hs:=h _ (OZ hi);have e2:cq (is.map cY) (i % is.length)=some (cY is[i % is.length]):=by rw[bM,hg];rfl
  rw[pw,show iC is i=t0 i is[i % is.length] by unfold iC;rw[hg];rfl]at e;symm;exists ⟨Int.ofNat_lt.mpr hp,?_⟩;refine fS rfl e2 ?_;generalize is[i % is.length]=s at hs e ⊢;clear e2 hg hi hp h
  induction s using Sc.casesOn with
  | na=>
   symm;exists .append rfl rfl (bh hl) ?_;exact ih _ _ _ (cj hl) (e.trans (ND ..))
  | int z=>
   symm;exists eU (fun w=>?_) fun w=>?_
   ·exists .append rfl rfl (bh hl) ?_;rw[show t0 i (.int z)=some (some i) from if_neg (Pb ((Oi _).mp w))]at e;exact ih _ _ _ (cj hl) (e.trans (ND ..))
   ·symm;rw[show t0 i (.int z)=none from if_pos (Nx ((O7 _).mp w))]at e;exact ih _ _ _ (cr hl) e
  | _=>exact hs.elim
end
end
section
theorem Lq:aX 80=⟨[some 0,some 1,none,none,none],[none],["left_out"],.lst 0<|.put 2<|.dic 0<|.ptc 0<|.cst (.bool false)<|.put 3<|.loc 0<|.for 4 (.loc 4<|.cst .none<|.cmp .Is<|.ite (.cst (.bool true)<|.put 3<|.loc 2<|.mth "append"<|.cst .none<|.cal 2<|.pop<|.fin) (.loc 4<|.cst (.int 0)<|.cmp .Gt<|.ite (.loc 2<|.mth "append"<|.loc 4<|.cst (.int 1)<|.bin .Sub<|.cal 2<|.pop<|.fin) (.loc 4<|.cst (.int 0)<|.cmp .Lt<|.ite (.cst (.bool true)<|.cel 0<|.loc 4<|.neg<|.cst (.int 1)<|.bin .Sub<|.sit<|.fin) (.fin)<|.fin)<|.fin)<|.fin)<|.glo (.bi "len")<|.cel 0<|.cal 1<|.cst (.int 0)<|.cmp .Eq<|.ite (.loc 2<|.rtn) (.fin)<|.loc 3<|.ite (.cst (.str "can't mix NAs with negative subscripts")<|.rse) (.fin)<|.glo (.bi "len")<|.loc 2<|.cal 1<|.cst (.int 0)<|.cmp .Gt<|.ite (.cst (.str "can't mix positive and negative subscripts")<|.rse) (.fin)<|.glo (.ty "range")<|.loc 1<|.cal 1<|.lcm 2 1 (.loc 1<|.cel 0<|.cmp .NotIn<|.ite (.loc 1<|.fin) (.fin)<|.fin)<|.rtn⟩:=by ac_rfl
noncomputable def wT(es:List (Int×T))(o:Option Int):List (Int×T):=match o with
 | some i=>if i<0 then aN es (-i-1) (.leaf (.bool true)) else es
 | none=>es
theorem i9{K α:Type}[DecidableEq K](es:List (K×α))(k j:K)(v:α):(aN es k v).any (fun p=>decide (p.1=j))=(es.any (fun p=>decide (p.1=j))||decide (k=j)):=by
 unfold aN;split
 ·rename_i h;have e:∀es:List (K×α),(es.map fun p=>if p.1=k then (p.1,v) else p).any (fun p=>decide (p.1=j))=es.any (fun p=>decide (p.1=j)):=fun es=>by
   rw[Sa];refine Nw es.any (funext fun p=>?_);show decide ((if p.1=k then (p.1,v) else p).1=j)=_;split<;>rfl
  rw[e];by_cases w:k=j
  ·rw[← w,h,Bool.true_or]
  ·rw[Ny w,O9]
 ·rw[List.any_append,OA,List.any_nil,O9]
theorem p8{K α:Type}[DecidableEq K](es:List (K×α))(k:K)(v:α):aN es k v≠[]:=fun w=>by
 have:=i9 es k k v;rw[w,NF rfl,PA]at this;exact NG this
theorem yk:∀(cs:List (Option Int)) (es:List (Int×T)),(cs.foldl wT es=[]↔es=[]∧cs.any c6=false)
 | [],es=>⟨fun h=>⟨h,rfl⟩,fun h=>h.1⟩
 | o::r,es=>by
  rw[Ra,yk r,OA,OS,← and_assoc];refine and_congr_left fun ζ=>?_
  induction o with
  | none=>exact ⟨fun h=>⟨h,rfl⟩,fun h=>h.1⟩
  | some i=>
   show (if i<0 then _ else es)=[]↔_∧decide (i<0)=false;split
   ·exact ⟨fun h=>(p8 _ _ _ h).elim,fun h=>absurd ‹i<0› (Pb h.2)⟩
   ·exact ⟨fun h=>⟨h,Ny ‹_›⟩,fun h=>h.1⟩
theorem tR(j:Nat):∀(cs:List (Option Int)) (es:List (Int×T)),(cs.foldl wT es).any (fun p=>decide (p.1=(j:Int)))=(es.any (fun p=>decide (p.1=(j:Int)))||decide (some (-(j:Int)-1)∈cs))
 | [],es=>by rw[Ny Oo,O9];rfl
 | o::r,es=>by
  rw[Ra,tR j r];have:(wT es o).any (fun p=>decide (p.1=(j:Int)))=(es.any (fun p=>decide (p.1=(j:Int)))||decide (some (-(j:Int)-1)=o)):=by
   induction o with
   | none=>rw[O9];rfl
   | some i=>
    show (if i<0 then _ else es).any _=_;by_cases w:i<0
    ·rw[if_pos w,i9];exact Nw _ (decide_eq_decide.mpr ⟨fun h=>Nw some (KG h),fun h=>KG (Option.some.inj h)⟩)
    ·rw[if_neg w,Ny (p:=some (-(j:Int)-1)=some i) fun h=>w (Option.some.inj h▸Int.sub_neg_of_lt (OE (QG (NB _)) (by decide))),O9]
  rw[this,SV,← RB]
  congr 2
  exact propext List.mem_cons.symm
theorem zQ:∀(cs:List (Option Int)) (es:List (Int×T)),(cs.foldl wT es).length≤es.length+cs.length
 | [],es=>Oe _
 | o::r,es=>by
  refine Np (zQ r _) ?_;rw[OY,O6 r.length,← OU];refine Ob ?_ _
  induction o with
  | none=>exact PC _
  | some i=>
   show (if i<0 then _ else es).length≤_;split
   ·exact cZ
   ·exact PC _
theorem any_nil{cs:List (Option Int)}(h:cs.any (·.isNone)=false):cs.filterMap fm=[]↔cs.any gA=false:=by
 induction cs with
 | nil=>exact ⟨fun ζ=>rfl,fun ζ=>rfl⟩
 | cons o r ih=>
  rw[OA,OS]at h;rw[pw,OA,OS,List.append_eq_nil_iff,ih h.2];refine and_congr_left fun ζ=>?_
  induction o with
  | none=>exact NG h.1
  | some i=>
   show (if 0<i then some _ else none).toList=[]↔decide (0<i)=false;split
   ·exact ⟨(fun h=>by injection h),fun w=>absurd ‹0<i› (Pb w)⟩
   ·exact ⟨fun ζ=>Ny ‹_›,fun ζ=>rfl⟩
section
variable{c:Cx}{d:Nat}(P:PF c)
include P
noncomputable def Jo:pR→Rq
 | .err m=>.e m []
 | .ok sp _=>.r (.t (.list (sp.map cL))) []
theorem Mb{cs:List (Option Int)}{n:Nat}(hl:cs.length≤9)(hn:n≤1000):ag c (d+3) (A 80) [.t (.list (cs.map eM)),ti n] [] (Jo (bp cs n)):=by
 exists ae P 80 (by ac_rfl) Lq rfl ?_;exists .i0 ?_;refine (?h:∀(l:List (Option Int)) (acc:List T) (b:Bool) (es:List (Int×T)) y,acc.length+l.length≤5000→es.length+l.length≤9→(cs.filterMap fm).map cL=acc++(l.filterMap fm).map cL→cs.any (·.isNone)=(b||l.any (·.isNone))→cs.foldl wT []=l.foldl wT es→cu _ _ _ (l.map eM) [_,some (ti n),some (.w 0),some (tb b),y] [some (.w 1)] [.l acc,.i es])
  cs [] false [] none (Np (NL (Ot _)) (Np hl (by decide))) (Np (NL (Ot _)) hl) (Pn _).symm (QM _).symm rfl
 intro l
 induction l with
 | nil=>
  intro acc b es y hl he e1 e2 e3;rw[TQ,Pp,Nr]at e1;have ne:=yk cs [];rw[e3]at ne;unfold bp;rw[e2];symm;exists .lenI rfl ?_;exists aC (fun w=>?_) fun w=>?_
  ·rw[(ne.mp (List.length_eq_zero_iff.mp (Int.ofNat_eq_zero.mp w))).2];exact .t rfl rfl rfl (by rw[← e1];rfl)
  symm;have h1:cs.any c6=true:=eq_true_of_ne_false fun h=>w (Nw (fun l:List (Int×T)=>(l.length:Int)) (ne.mpr ⟨rfl,h⟩));rw[h1]
  induction b with
  | true=>
   symm;exact .mk rfl rfl rfl
  | false=>
   symm;exists .len rfl ?_;exists aC (fun w=>?_) fun w=>?_
   ·have h0:cs.any gA=true:=eq_true_of_ne_false fun h=>by
     rw[(any_nil e2).mpr h]at e1;rw[← e1]at w;exact S7 _ w
    rw[h0];exact .mk rfl rfl rfl
   symm;have hp:cs.any gA=false:=(any_nil e2).mp (List.map_eq_nil_iff.mp (e1.trans (List.length_eq_zero_iff.mp (Nat.le_zero.mp (Int.ofNat_le.mp (Int.not_lt.mp w))))));rw[hp];exists .rng1 (NC (by decide) (NB _)) (Int.ofNat_le.mpr (Np hn (by decide))) ?_;rw[bv];show bT _ _ _ _ _ _;have hm:=fun j=>(tR j cs []).trans (QM _);rw[e3]at hm;clear ne e1 e2 e3 h1 hp w hl he;refine (?h2:∀(l:List Nat) (ys:List T),((Ou n).filterMap _).map cL=ys++(l.filterMap fun (i:Nat)=>if some (-(i:Int)-1)∈cs then none else some (some i)).map cL→bT _ _ (l.map fun i:Nat=>lI i) ys [some (.w 1)] [.l acc,.i es]) (Ou n) [] (Pn _).symm;intro l
   induction l with
   | nil=>
    intro ys e;symm;exact .t rfl rfl rfl (Nw (fun l=>Rq.r (.t (.list l)) []) (e.trans (Nr ys)))
   | cons i l ih=>
    intro ys e;rw[pw]at e;symm;refine .in_id rfl ?_;rw[hm];by_cases w:some (-(i:Int)-1)∈cs
    ·rw[NF w];rw[if_pos w]at e;symm;exact ih _ (e.trans (Nw (· ++ _) (Nr ys).symm))
    ·rw[Ny w];rw[if_neg w]at e;symm;exact ih _ (e.trans (ND ..))
 | cons o l ih=>
  intro acc b es y hl he e1 e2 e3;rw[pw]at e1;rw[OA,← SV]at e2
  induction o with
  | none=>
   symm;exists .append rfl rfl (bh hl) ?_;exact ih _ _ _ _ (cj hl) (cr he) (e1.trans (ND ..)) (e2.trans (Nw (· || _) (PA b))) e3
  | some i=>
   symm;exists aC (fun w=>?_) fun w=>?_
   ·exists .append rfl rfl (bh hl) ?_;have h0:fm (some i)=some (some (i-1).toNat):=if_pos w;rw[h0]at e1;have e1:=e1.trans (ND _ (cL (some (i-1).toNat)) _);rw[(show cL (some (i-1).toNat)=lI (i-1) from Nw lI (Pt (PJ w)))]at e1;exact ih _ _ _ _ (cj hl) (cr he) e1 (e2.trans (Nw (· || _) (O9 b))) (e3.trans (Nw (Pm wT · l) (if_neg fun h=>absurd (Pc h w) (S7 _))))
   ·symm;replace e1:=((show fm (some i)=none from if_neg w))▸e1;exists aC (fun w2=>?_) fun w2=>?_
    ·exists .i rfl rfl (NV (cr he |> Np (NS _ _)) (by decide)) ?_;exact ih _ _ _ _ (cr hl) (Np (Ob cZ _) (by rw[Qu];exact he)) e1 (e2.trans (Nw (· || _) (O9 b))) (e3.trans (Nw (Pm wT · l) (if_pos w2)))
    ·symm;exact ih _ _ _ _ (cr hl) (cr he) e1 (e2.trans (Nw (· || _) (O9 b))) (e3.trans (Nw (Pm wT · l) (if_neg w2)))
end
end
section
theorem J9:aX 81=⟨[some 0,none,none,none],[],[],.dic 0<|.put 1<|.loc 0<|.cst .none<|.cmp .IsNot<|.ite (.glo (.ty "range")<|.glo (.bi "len")<|.loc 0<|.cal 1<|.cal 1<|.for 2 (.loc 0<|.loc 2<|.sub<|.put 3<|.loc 3<|.cst .none<|.cmp .IsNot<|.and (.loc 3<|.cst (.str "")<|.cmp .NotEq<|.and (.loc 3<|.loc 1<|.cmp .NotIn<|.fin)<|.fin)<|.ite (.loc 2<|.loc 1<|.loc 3<|.sit<|.fin) (.fin)<|.fin)<|.fin) (.fin)<|.loc 1<|.rtn⟩:=by ac_rfl
theorem Ln:aX 83=⟨[some 0,some 1,some 2,none,none,none,none,none],[],[],.glo (.fn 81)<|.loc 2<|.cal 1<|.put 3<|.lst 0<|.put 4<|.lst 0<|.put 5<|.loc 0<|.for 6 (.loc 6<|.cst .none<|.cmp .IsNot<|.and (.loc 6<|.loc 3<|.cmp .In<|.fin)<|.ite (.loc 4<|.mth "append"<|.loc 3<|.loc 6<|.sub<|.cal 2<|.pop<|.cnt) (.fin)<|.loc 1<|.glo (.bi "len")<|.loc 5<|.cal 1<|.bin .Add<|.put 7<|.loc 4<|.mth "append"<|.loc 7<|.cal 2<|.pop<|.loc 5<|.mth "append"<|.loc 6<|.cal 2<|.pop<|.loc 6<|.cst .none<|.cmp .IsNot<|.and (.loc 6<|.cst (.str "")<|.cmp .NotEq<|.fin)<|.ite (.loc 7<|.loc 3<|.loc 6<|.sit<|.fin) (.fin)<|.fin)<|.loc 4<|.loc 5<|.tpl 2<|.rtn⟩:=by ac_rfl
noncomputable def ft(all:Tx)(s:Str):Option Nat:=bif decide (s=No "") then none else all.findIdx? fun t=>decide (t=some s)
theorem qB(all:Tx)(t:Option Str)(s:Str):ft (all++[t]) s=(ft all s).or (bif decide (s=No "") then none else bif decide (t=some s) then some all.length else none):=by
 unfold ft;refine dP (o:=decide (s=No "")) ?_ ?_
 ·show QL _ (all++[t])=(QL _ all).or _;rw[Tr]
  congr 1
  show Os _ (QL _ [t])=_;unfold QL List.findIdx?.go;refine dP (o:=decide (t=some s)) ?_ ?_
  ·rfl
  ·exact Nw some (Ot _)
 ·rfl
def qO(es:List (Str×T))(all:Tx):Prop:=∀s,es.lookup s=(ft all s).map fun i:Nat=>lI i
theorem gI(es:List (Str×T))(s:Str):(es.any fun p=>decide (p.1=s))=(es.lookup s).isSome:=by
 induction es with
 | nil=>rfl
 | cons e r ih=>
  rw[OA,ih,NK];by_cases w:e.1=s
  ·rw[NF w,← w,Oh];rfl
  ·rw[Ny w,Qz (Pk w)];rfl
theorem rC(es:List (Str×T))(s k:Str)(v:T)(h:es.lookup k=none):(es++[(k,v)]).lookup s=bif decide (k=s) then some v else es.lookup s:=by
 rw[List.lookup_append];by_cases w:k=s
 ·rw[← w,h,NF rfl];show OB k [(k,v)]=_;rw[NK,Oh];rfl
 ·rw[Ny w];show _=es.lookup s;rw[show OB s [(k,v)]=none from by rw[NK,Qz (Pk w)];rfl];exact Rk
theorem re{es:List (Str×T)}{k:Str}(v:T)(h:es.lookup k=none):aN es k v=es++[(k,v)]:=by
 unfold aN;rw[gI,h];rfl
theorem gL{es:List (Str×T)}{all:Tx}{t:Option Str}(h:qO es all)(g:t=none∨t=some (No "")∨∃s,t=some s∧(ft all s).isSome=true):qO es (all++[t]):=fun s=>by
 rw[h s,qB];refine eQ (o:=ft all s) (fun i e=>?_) (fun e=>?_)
 ·rfl
 ·
  show none=Os _ (bif decide (s=No "") then none else bif decide (t=some s) then some all.length else none);by_cases w:s=No ""
  ·rw[NF w];rfl
  ·rw[Ny w,Ny]
   ·rfl
   ·rintro rfl;rcases g with g | g | ⟨x,g,g'⟩
    ·exact (NN _ g).elim
    ·exact w (Option.some.inj g)
    ·rw[← Option.some.inj g,e]at g';exact (Nt g').elim
theorem p5{es:List (Str×T)}{all:Tx}{x:Str}(h:qO es all)(g:x≠No "")(n:ft all x=none):qO (aN es x (lI (all.length:Int))) (all++[some x]):=fun s=>by
 have hx:es.lookup x=none:=by rw[h x,n];rfl
 rw[re _ hx,rC _ _ _ _ hx,qB,h s];by_cases w:x=s
 ·subst w;rw[NF rfl,NF rfl,Ny g,n];rfl
 ·rw[Ny w,Ny fun h=>w (Option.some.inj h)];refine (Nw (Os fun i:Nat=>lI i) (?_:_=ft all s)).symm;refine dP (o:=decide (s=No "")) ?_ ?_<;>exact Rk
theorem pZ{es:List (Str×T)}{all:Tx}(h:qO es all)(s:Str):(es.any fun p=>decide (p.1=s))=(ft all s).isSome:=by
 rw[gI,h s,RP]
theorem lT{α:Type}(a:List α)(x:α)(r:List α):(a++x::r)[a.length]? = some x:=by
 rw[Qn (Oe _),Nat.sub_self];rfl
noncomputable def bf:Tx→Tx→List (Option Nat)×Tx
 | all,[]=>([],all)
 | all,t::r=>match t.bind (ft all) with
  | some i=>(some i::(bf all r).1,(bf all r).2)
  | none=>(some all.length::(bf (all++[t]) r).1,(bf (all++[t]) r).2)
noncomputable def kh:Option Str:=some (No "")
noncomputable def bB(n:Nat)(names:Option Tx):Tx:=names.getD (NM n kh)
theorem pY:qO [] []:=fun s=>by
 show none=Os _ (ft [] s);unfold ft;refine dP (o:=decide (s=No "")) ?_ ?_<;>rfl
theorem vM(n:Nat):qO [] (NM n kh):=by
 induction n with
 | zero=>exact pY
 | succ n ih=>rw[List.replicate_succ'];exact gL ih (.inr (.inl rfl))
noncomputable def BB(es:List (Str×T))(i:Nat):Option Str→List (Str×T)
 | none=>es
 | some s=>bif decide (s=No "")||es.any (fun p=>decide (p.1=s)) then es else aN es s (lI i)
noncomputable def iV:List (Str×T)→Nat→Tx→List (Str×T)
 | es,_,[]=>es
 | es,i,t::r=>iV (BB es i t) (i+1) r
theorem vN{es:List (Str×T)}{all:Tx}(h:qO es all)(t:Option Str):qO (BB es all.length t) (all++[t]):=by
 induction t with
 | none=>exact gL h (.inl rfl)
 | some s=>
  show qO (cond (decide (s=No "")||es.any _) _ _) _;rw[pZ h];by_cases w:s=No ""
  ·rw[NF w];exact gL h (.inr (.inl (Nw some w)))
  ·rw[Ny w];refine eQ (o:=ft all s) (fun i e=>?_) (fun e=>?_)
   ·exact gL h (.inr (.inr ⟨s,rfl,Nw _ (e)⟩))
   ·exact p5 h w e
theorem p6:∀(r:Tx) {es:List (Str×T)}{all:Tx},qO es all→qO (iV es all.length r) (all++r)
 | [],_,all,h=>(Nr all).symm▸h
 | t::r,es,all,h=>by
  have:=p6 r (vN h t);rw[NH]at this;rw[ND];exact this
theorem mN:∀(r:Tx) (es:List (Str×T)) (i:Nat),(iV es i r).length≤es.length+r.length
 | [],es,_=>Oe _
 | t::r,es,i=>by
  refine Np (mN r _ _) ?_;rw[OY,O6 r.length,← OU];refine Ob ?_ _
  induction t with
  | none=>exact PC _
  | some s=>
   show (cond _ es _).length≤_;refine dP (o:=decide (s=No "")||es.any (fun p=>decide (p.1=s))) ?_ ?_
   ·exact cZ
   ·exact PC _
theorem ur{K α β:Type}[DecidableEq K]{es:List (K×α)}{k:K}{v:α}{x:β}{l:List β}{N:Nat}(h:es.length+(x::l).length≤N):(aN es k v).length+l.length≤N:=by
 exact Np (Ob cZ _) (Np (NL (Nat.succ_add_eq_add_succ ..)) h)
theorem Ea : {a b:Bool}→(!a)=true→(!b)=true→(a||b)=false
 | false,false,_,_=>rfl
theorem D6 : {a b:Bool}→(!b)=false→(a||b)=true
 | a,true,_=>PA a
theorem D8 : {a b:Bool}→(!a)=false→(a||b)=true
 | true,_,_=>rfl
theorem oO{es:List (Str×T)}{i:Nat}{s:Str}{b:Bool}{r:Tx}(h:(decide (s=No "")||es.any (fun p=>decide (p.1=s)))=b):iV es i (some s::r)=iV (cond b es (aN es s (lI i))) (i+1) r:=Nw (fun b=>iV (cond b es (aN es s (lI i))) (i+1) r) h
section
variable{c:Cx}{d:Nat}(P:PF c)
include P
theorem Ma{names:Option Tx}(hn:∀ts,names=some ts→ts.length≤1000):ag c (d+1) (A 81) [.t (fH names)] [] (.r (.w 0) [.d (iV [] 0 (names.getD []))]):=by
 induction names with
 | none=>
  exists ae P 81 (by ac_rfl) J9 rfl ?_;exists .d0 ?_;exact .k [0] rfl rfl rfl rfl
 | some ts=>
  exists ae P 81 (by ac_rfl) J9 rfl ?_;exists .d0 ?_;exists .len rfl ?_;rw[Nq];exists .rng1 (NC (by decide) (NB _)) (Int.ofNat_le.mpr (Np (hn _ rfl) (by decide))) ?_;rw[bv,Rv];refine (?h:∀(post pre:Tx) es x y,es.length+post.length≤1000→pre++post=ts→iV es pre.length post=_→cu _ _ _ ((QK pre.length post.length).map fun i:Nat=>lI i) [some (.t (fH (some ts))),some (.w 0),x,y] [] [.d es]) ts [] [] none none (Np (NL (Ot _)) (hn _ rfl)) rfl rfl;clear hn;intro post
  induction post with
  | nil=>
   intro pre es x y hl e1 e2;symm;exact .k [0] rfl rfl rfl (Nw (fun l=>Rq.r (.w 0) [.d l]) e2.symm)
  | cons t post ih=>
   intro pre es x y hl e1 e2;have hg:cq (ts.map bz) pre.length=some (bz t):=by rw[bM,← e1,lT];rfl
   have ih:=fun es x y h1 h2=>ih (pre++[t]) es x y h1 ((ND ..).symm.trans e1) h2;replace ih:=(NH)▸ih;symm
   induction t with
   | none=>
    exists fS rfl (t:=lN) hg ?_;exact ih _ _ _ (cr hl) e2
   | some s=>
    exists fS rfl (t:=lS s) hg ?_;exists eU (fun w=>?_) fun w=>?_
    ·exists .in_sd rfl ?_;exists eU (fun w2=>?_) fun w2=>?_
     ·exists .d rfl rfl (NV (cr hl |> Np (NS _ _)) (by decide)) ?_;exact ih _ _ _ (ur hl) ((oO (s:=s) (Ea w w2)).symm.trans e2)
     ·symm;exact ih _ _ _ (cr hl) ((oO (s:=s) (D6 w2)).symm.trans e2)
    ·symm;exact ih _ _ _ (cr hl) ((oO (s:=s) (D8 w)).symm.trans e2)
theorem L9{ts:Tx}{n:Nat}{names:Option Tx}(ht:ts.length≤9)(hn:n≤900)(hl:∀ts,names=some ts→ts.length=n):ag c (d+2) (A 83) [.t (.list (ts.map bz)),ti n,.t (fH names)] [] (.r (.t (.tup [.list ((bf (bB n names) ts).1.map cL),.list (((bf (bB n names) ts).2.drop n).map bz)])) []):=by
 have nl:(bB n names).length=n:=by
  induction names with
  | none=>exact Od
  | some ts=>exact hl _ rfl
 have tb:qO (iV [] 0 (names.getD [])) (bB n names):=by
  induction names with
  | none=>exact vM n
  | some ts=>exact p6 ts pY
 have h1:∀ts,names=some ts→ts.length≤1000:=fun ts h=>by rw[hl ts h];exact Np hn (by decide)
 have tl:(iV [] 0 (names.getD [])).length≤1000:=by
  refine Np (mN ..) (Np (NL (Ot _)) ?_)
  induction names with
  | none=>exact Ol _
  | some ts=>exact h1 _ rfl
 exists ae P 83 (by ac_rfl) Ln rfl ?_;exists .r [] rfl rfl rfl (Ma P h1) ?_;clear h1;generalize iV [] 0 (names.getD [])=es at tb tl ⊢;generalize bB n names=base at nl tb ⊢;refine (?h:∀(l:Tx) (acc ys:List T) (ad:Tx) (es:List (Str×T)) x y,qO es (base++ad)→ad.map bz=ys→ys.length+l.length≤5000→es.length+l.length≤5000→acc.length+l.length≤5000→(bf base ts).1.map cL=acc++(bf (base++ad) l).1.map cL→(bf base ts).2=(bf (base++ad) l).2→cu _ _ _ (l.map bz) [some (.t (.list (ts.map bz))),some (ti n),some (.t (fH names)),some (.w 0),some (.w 1),some (.w 2),x,y] [] [.d es,.l acc,.l ys]) ts [] [] [] es none none (by rw[Nr];exact tb) rfl (Np (NL (Ot _)) (Np ht (by decide))) (Np (O4 tl ht) (by decide)) (Np (NL (Ot _)) (Np ht (by decide))) (by rw[Nr];rfl) (by rw[Nr]);clear ht tb tl;intro l
 induction l with
 | nil=>
  intro acc ys ad es x y ht hy ha hs hc e1 e2;symm;refine .t rfl rfl rfl ?_;rw[e1,e2,show (bf (base++ad) []).2.drop n=ad from (Nw (List.drop · (base++ad)) nl.symm).trans (SK ..),hy];exact Nw (fun l=>Rq.r (.t (.tup [.list l,.list ys])) []) (Nr acc)
 | cons t l ih=>
  intro acc ys ad es x y ht hy ha hs hc e1 e2;have hL:(n:Int)+ys.length=((base++ad).length:Nat):=by rw[← hy,Nq,NH,nl];rfl
  have ih2:=fun es x y h1 h2 h3 h4=>ih (acc++[lI (base++ad).length]) (ys++[bz t]) (ad++[t]) es x y h1 (by rw[N8,hy];rfl) (cj ha) h2 (cj hc) h3 h4;rw[← Om]at ih2;have eN:t.bind (ft (base++ad))=none→bf (base++ad) (t::l)=(some (base++ad).length::(bf (base++ad++[t]) l).1,(bf (base++ad++[t]) l).2):=fun h=>by
   show (match t.bind (ft (base++ad)) with | some i=>_ | none=>_)=_;rw[h]
  induction t with
  | none=>
   symm;exists .len rfl ?_;rw[hL];exists .append rfl rfl (bh hc) ?_;exists .append rfl rfl (bh ha) ?_;exact ih2 _ _ _ (gL ht (.inl rfl)) (cr hs) (e1.trans (ND ..)) e2
  | some s=>
   symm;refine .in_sd (s:=s) rfl ?_;rw[pZ ht];refine eQ (o:=ft (base++ad) s) (fun i e=>?_) (fun e=>?_)
   ·
    have eS:bf (base++ad) (some s::l)=(some i::(bf (base++ad) l).1,(bf (base++ad) l).2):=by
     show (match ft (base++ad) s with | some i=>_ | none=>_)=_;rw[e]
    rw[eS]at e1 e2;symm;exists .dict (s:=s) (t:=lI i) rfl (by rw[ht s,e];rfl) ?_;exists .append rfl rfl (bh hc) ?_;exact ih _ _ _ _ _ _ ht hy (cr ha) (cr hs) (cj hc) (e1.trans (ND ..)) e2
   ·
    rw[eN e]at e1 e2;symm;exists .len rfl ?_;rw[hL];exists .append rfl rfl (bh hc) ?_;exists .append rfl rfl (bh ha) ?_;exists eU (fun w=>?_) fun w=>?_
    ·exists .d (s:=s) rfl rfl (NV (cr hs |> Np (NS _ _)) (by decide)) ?_;exact ih2 _ _ _ (p5 ht (Pb ((Oi _).mp w)) e) (ur hs) (e1.trans (ND ..)) e2
    ·symm;exact ih2 _ _ _ (gL ht (.inr (.inl (Nw some (Nx ((O7 _).mp w)))))) (cr hs) (e1.trans (ND ..)) e2
end
end
section
theorem zb:aX 84=⟨[some 0,some 1,some 2,some 3,none],[],[],.loc 0<|.att "kind"<|.put 4<|.loc 4<|.cst (.str "missing")<|.cmp .Eq<|.ite (.glo (.ty "list")<|.glo (.ty "range")<|.loc 1<|.cal 1<|.cal 1<|.cst .none<|.tpl 2<|.rtn) (.fin)<|.loc 4<|.cst (.str "NULL")<|.cmp .Eq<|.ite (.lst 0<|.cst .none<|.tpl 2<|.rtn) (.fin)<|.loc 4<|.cst (.str "logical")<|.cmp .Eq<|.ite (.glo (.fn 79)<|.loc 0<|.att "items"<|.loc 1<|.cal 2<|.cst .none<|.tpl 2<|.rtn) (.fin)<|.loc 4<|.cst (.str "integer")<|.cmp .Eq<|.or (.loc 4<|.cst (.str "double")<|.cmp .Eq<|.fin)<|.ite (.glo (.fn 80)<|.glo (.fn 78)<|.loc 0<|.cal 1<|.loc 1<|.cal 2<|.cst .none<|.tpl 2<|.rtn) (.fin)<|.loc 4<|.cst (.str "character")<|.cmp .Eq<|.ite (.loc 3<|.ite (.glo (.fn 83)<|.loc 0<|.att "items"<|.loc 1<|.loc 2<|.cal 3<|.rtn) (.fin)<|.bad) (.fin)<|.loc 4<|.fst "invalid subscript type '" "'"<|.rse⟩:=by ac_rfl
noncomputable def gM:Sc→Option Str
 | .str s=>some s
 | _=>none
noncomputable def dD(ix:Ix)(n:Nat)(names:Option Tx):pR:=match ix with
 | .missing=>.ok ((Ou n).map some) none
 | .null=>.ok [] none
 | .vec .ls is=>.err AX
 | .vec .lg is=>.ok (gy is n) none
 | .vec .ch is=>.ok (bf (bB n names) (is.map gM)).1 (some ((bf (bB n names) (is.map gM)).2.drop n))
 | .vec .it is=>bp (is.map bo) n
 | .vec .db is=>bp (is.map bo) n
noncomputable def uO:pR→Rq
 | .err m=>.e m []
 | .ok sp ad=>.r (.t (.tup [.list (sp.map cL),fH ad])) []
theorem u9{is:List Sc}(h:∀s∈is,cx .ch s):is.map cY=(is.map gM).map bz:=by
 rw[Oc];refine Oj fun s hs=>?_;have:=h s hs
 induction s using Sc.casesOn with
 | na=>rfl
 | str s=>rfl
 | int i=>cases this
 | q n d=>cases this
noncomputable def pR.ad:pR→Option Tx
 | .ok _ a=>a
 | .err _=>none
theorem tL{cs:List (Option Int)}{n:Nat} : (bp cs n).ad=none:=by
 unfold bp;refine dP (o:=cs.any c6) ?_ ?_
 ·rfl
 ·refine dP (o:=cs.any (·.isNone)) ?_ ?_
  ·refine dP (o:=cs.any gA) ?_ ?_<;>rfl
  ·rfl
section
variable{c:Cx}{d:Nat}(P:PF c)
include P
theorem HG{ix:Ix}{n:Nat}{names:Option Tx}(hi:dI ix)(hn:n≤900)(hl:∀ts,names=some ts→ts.length=n):ag c (d+4) (A 84) [.t (fR ix),ti n,.t (fH names),tb true] [] (uO (dD ix n names)):=by
 induction ix using Ix.casesOn with
 | missing=>
  exists ae P 84 (by ac_rfl) zb rfl ?_;exists mK P ?_;exists .rng1 (NC (by decide) (NB _)) (Int.ofNat_le.mpr (Np hn (by decide))) ?_;exists .listR ?_;rw[bv];refine .t rfl rfl rfl ?_;show Rq.r (.t (.tup [.list (((Ou n).map some).map cL),lN])) []=_;rw[Oc];rfl
 | null=>
  exists ae P 84 (by ac_rfl) zb rfl ?_;exists nK P ?_;exact .k [] rfl rfl rfl rfl
 | vec k is=>
  obtain ⟨h1,h2,h3⟩:=hi;have num:(k=.it∨k=.db)→ag c (d+3) (A 78) [.t (fR (.vec k is))] [] (.r (.t (.list ((is.map bo).map eM))) []):=fun h=>by
   rw[Oc];exact Md P h h2 h1
  have h80:ag c (d+3) (A 80) _ _ _:=Mb P (cs:=is.map bo) (by rw[Nq];exact h1) (Np hn (by decide));have ea:=tL (cs:=is.map bo) (n:=n)
  induction k using Kd.casesOn with
  | ls=>
   exists ae P 84 (by ac_rfl) zb rfl ?_;exists aK P ?_;exists ⟨by decide,?_⟩;exact .mk rfl rfl (by ac_rfl)
  | lg=>
   exists ae P 84 (by ac_rfl) zb rfl ?_;exists aK P ?_;exists aI P ?_;exists .r [] rfl rfl rfl (Mc P h2 h1 (Np hn (by decide))) ?_;exact .k [] rfl rfl rfl rfl
  | ch=>
   have e:fR (.vec .ch is)=qH (is.map gM):=Nw (fun l=>vT qR (.list l) lN false) (u9 h2);rw[e];exists ae P 84 (by ac_rfl) zb rfl ?_;exists aK P ?_;exists aI P ?_;exists .r [] rfl rfl rfl (L9 P (by rw[Nq];exact h1) hn hl) ?_;exact .k [] rfl rfl rfl rfl
  | it=>
   exists ae P 84 (by ac_rfl) zb rfl ?_;exists aK P ?_;exists .r [] rfl rfl rfl (num (.inl rfl)) ?_;cases e:bp (is.map bo) n with
   | err m=>
    rw[e]at h80;exists .e [] rfl rfl rfl h80 ?_;exact .mk rfl rfl (Nw uO e)
   | ok sp ad=>
    rw[e]at h80 ea;subst ea;exists .r [] rfl rfl rfl h80 ?_;exact .k [] rfl rfl rfl (Nw uO e)
  | db=>
   exists ae P 84 (by ac_rfl) zb rfl ?_;exists aK P ?_;exists .r [] rfl rfl rfl (num (.inr rfl)) ?_;cases e:bp (is.map bo) n with
   | err m=>
    rw[e]at h80;exists .e [] rfl rfl rfl h80 ?_;exact .mk rfl rfl (Nw uO e)
   | ok sp ad=>
    rw[e]at h80 ea;subst ea;exists .r [] rfl rfl rfl h80 ?_;exact .k [] rfl rfl rfl (Nw uO e)
end
end
section
theorem Cf:aX 1071=⟨[some 0,none],[],[],.cst .none<|.put 1<|.loc 0<|.att "attrs"<|.cst .none<|.cmp .IsNot<|.ite (.glo (.ty "dict")<|.loc 0<|.att "attrs"<|.cal 1<|.put 1<|.fin) (.fin)<|.glo (.cls 113)<|.loc 0<|.att "kind"<|.glo (.ty "list")<|.loc 0<|.att "items"<|.cal 1<|.loc 1<|.cal 3<|.rtn⟩:=by ac_rfl
theorem Kn:aX 15=⟨[some 0],[],[],.loc 0<|.att "loose"<|.ite (.loc 0<|.rtn) (.fin)<|.loc 0<|.mth "copy"<|.cal 1<|.rtn⟩:=by ac_rfl
theorem Ka:aX 74=⟨[some 0,some 1],[],[],.loc 1<|.cst .none<|.cmp .IsNot<|.ite (.cst (.str "names")<|.glo (.fn 16)<|.glo (.fn 11)<|.loc 1<|.cal 1<|.cal 1<|.dic 2<|.loc 0<|.sat "attrs"<|.fin) (.fin)<|.loc 0<|.rtn⟩:=by ac_rfl
theorem Lw:aX 75=⟨[none],[some 0,some 1,some 2],["v","kind","notes"],.glo (.bi "isinstance")<|.cel 2<|.glo (.cls 113)<|.cal 2<|.not<|.ite (.bad) (.fin)<|.cel 2<|.att "items"<|.put 0<|.cel 2<|.att "kind"<|.cel 1<|.cmp .NotEq<|.ite (.cel 2<|.att "items"<|.lcm 2 1 (.glo (.fn 69)<|.cel 2<|.att "kind"<|.loc 1<|.cel 1<|.cel 0<|.cal 4<|.fin)<|.put 0<|.fin) (.fin)<|.glo (.fn 74)<|.glo (.cls 113)<|.cel 1<|.glo (.ty "list")<|.loc 0<|.cal 1<|.cal 2<|.glo (.fn 21)<|.cel 2<|.cal 1<|.cal 2<|.rtn⟩:=by ac_rfl
theorem Lv:aX 76=⟨[some 0],[],[],.glo (.fn 75)<|.loc 0<|.cst (.str "list")<|.lst 0<|.cal 3<|.rtn⟩:=by ac_rfl
theorem Lh:aX 99=⟨[some 0,some 1,some 2],[],[],.loc 0<|.att "kind"<|.loc 1<|.cmp .Eq<|.or (.glo (.fn 93)<|.loc 0<|.att "kind"<|.cal 1<|.and (.glo (.fn 93)<|.loc 1<|.cal 1<|.fin)<|.fin)<|.ite (.loc 0<|.att "items"<|.rtn) (.fin)<|.glo (.fn 93)<|.loc 1<|.cal 1<|.ite (.glo (.fn 76)<|.loc 0<|.cal 1<|.att "items"<|.rtn) (.fin)<|.glo (.fn 75)<|.loc 0<|.loc 1<|.loc 2<|.cal 3<|.att "items"<|.rtn⟩:=by ac_rfl
theorem Cn:aX 100=⟨[some 0,some 1,some 2,none],[],[],.loc 0<|.att "kind"<|.loc 1<|.cmp .Eq<|.ite (.glo (.fn 15)<|.loc 0<|.cal 1<|.rtn) (.fin)<|.cst .none<|.put 3<|.loc 0<|.att "attrs"<|.cst .none<|.cmp .IsNot<|.ite (.glo (.ty "dict")<|.loc 0<|.att "attrs"<|.cal 1<|.put 3<|.fin) (.fin)<|.glo (.cls 113)<|.loc 1<|.glo (.ty "list")<|.glo (.fn 99)<|.loc 0<|.loc 1<|.loc 2<|.cal 3<|.cal 1<|.loc 3<|.cal 3<|.rtn⟩:=by ac_rfl
theorem ot : {a b:Bool}→(a&&b)=true→a=true
 | true,_,_=>rfl
section
variable{c:Cx}{d:Nat}(P:PF c){k:Kd}{its:List X}{as:List (Str×Tx)}
include P
theorem KW:c.meth CV (No "copy")=some (A 1071):=by
 have h3:c.fld CV (No "kind")=true:=mH P (by decide);have h4:Rf c.K CV (No "copy")=true:=ot (ot (ot (ot (ot h3))));unfold Cx.meth;rw[show findIn c.K (.ref CV) (No "copy")=some (some (.ref 110)) from P.cpM];show (if isFn c.K (.ref 110)&&Rf c.K CV _ then _ else _)=_;rw[P.cpT,h4];ac_rfl
theorem zm{ts:List T} : ag c (d+3) (A 11) [.t (.list ts)] [] (.r (.t (vT qR (.list ts) lN false)) []):=by
 exists ae P 11 (by ac_rfl) LZ rfl ?_;exists .list rfl ?_;exists .v2 rfl rfl ?_;exact .t rfl rfl rfl rfl
theorem ya{lo:Bool} : ag c (d+3) (A 1071) [.t (vT k.s (.list (its.map xT)) (iG as) lo)] [] (.r (.w 0) (OV 0 k its as false)):=by
 exists ae P 1071 (by ac_rfl) Cf rfl ?_;refine aA P ?_;rcases as with _ | ⟨e,r⟩
 ·symm;exists aK P ?_;exists aI P ?_;exists .list rfl ?_;exists .v3 rfl rfl ?_;exact .k [1,0] rfl rfl rfl rfl
 ·symm;exists aA P ?_;exists .dict rfl ?_;exists aK P ?_;exists aI P ?_;exists .list rfl ?_;exists .v3 rfl rfl ?_;exact .k [2,1,0] rfl rfl rfl rfl
theorem Mz:ag c (d+4) (A 15) [.t (vT k.s (.list (its.map xT)) (iG as) false)] [] (.r (.w 0) (OV 0 k its as false)):=by
 exists ae P 15 (by ac_rfl) Kn rfl ?_;exists aL P ?_;exists .inst rfl (by ac_rfl) (KW P) ?_;exists .r [] rfl rfl rfl (ya P) ?_;rcases as with _ | ⟨e,r⟩
 ·exact .k [0,1] rfl rfl rfl rfl
 ·exact .k [0,1,2] rfl rfl rfl rfl
theorem CG:ag c (d+4) (A 15) [.w 0] (OV 0 k its as true) (.r (.w 0) (OV 0 k its as true)):=by
 exists ae P 15 (by ac_rfl) Kn rfl ?_;rcases as with _ | ⟨e,r⟩
 ·exists oL P rfl rfl ?_;exact .k [] rfl rfl rfl rfl
 ·exists oL P rfl rfl ?_;exact .k [] rfl rfl rfl rfl
end
end
section
noncomputable def GJ:Option Tx→T
 | none=>lN
 | some ts=>.dict [(ah,qH ts)]
theorem yq : {k:Kd}→k.isL=true→k=.ls
 | .ls,_=>rfl
theorem tn{k to:Kd}(h:(k.rank==to.rank)=true):k=to:=by
 cases k<;>cases to<;>first | rfl | cases h
theorem pB(k:Kd)(x:X):aB k k x=x:=by
 unfold aB;rw[Oh];rfl
section
variable{c:Cx}{d:Nat}(P:PF c){k to:Kd}{its:List X}{as:List (Str×Tx)}{ns:List T}
include P
theorem Mf{its:List T} : ∀{names:Option Tx},ag c (d+4) (A 74) [.w 0,.t (fH names)] [.v k.s (.w 1) (tv .none) false,.l its] (.r (.t (vT k.s (.list its) (GJ names) false)) [.z (vT k.s (.list its) (GJ names) false),.z (.list its)])
 | none=>by
  exists ae P 74 (by ac_rfl) Ka rfl ?_;exact .t rfl rfl rfl rfl
 | some ts=>by
  exists ae P 74 (by ac_rfl) Ka rfl ?_;exists .r [] rfl rfl rfl (zm P) ?_;exists .r [] rfl rfl rfl (tc P) ?_;exists .d1 rfl ?_;exists .at_ rfl (mH P (by decide)) ?_;exact .t rfl rfl rfl rfl
theorem Ks(hx:∀x∈its,ej k x)(hr:k.rank≤to.rank)(hn:(k.rank==to.rank)=false)(hl:its.length≤5000)(hd:as.lookup (No "dim")=none){lo:Bool} : ag c (d+10) (A 75) [.t (vT k.s (.list (its.map xT)) (iG as) lo),tS to.s,.w 0] [.l ns] (.r (.t (vT to.s (.list ((its.map (aB k to)).map xT)) (GJ (as.lookup ah)) false)) [.l ns]):=by
 exists ae P 75 (by ac_rfl) Lw rfl ?_;exists xa P ?_;exists aI P ?_;exists aK P ?_;rw[Ae,hn];symm;exists aI P ?_;refine (?h:∀(l:List X) (ys:List T),ys.length+l.length≤5000→(∀x∈l,ej k x)→(its.map (aB k to)).map xT=ys++(l.map (aB k to)).map xT→bT _ _ (l.map xT) ys _ _) its [] (Np (NL (Ot _)) hl) hx (Pn _).symm;clear hx hl;intro l
 induction l with
 | nil=>
  intro ys hl hx e;rw[Pp,Pp,Nr]at e;rw[e]at *;symm;exists .list rfl ?_;exists .v2 rfl rfl ?_;exists .r [] rfl rfl rfl (CD P hd) ?_;exists .r [3,2] rfl rfl rfl (Mf P) ?_;exact .k [] rfl rfl rfl rfl
 | cons x l ih=>
  intro ys hl hx e;symm;exists aK P ?_;exists .r [0] rfl rfl rfl (Mg P (hx x (.head _)) hr) ?_;exact ih _ (cj hl) (fun x h=>hx x (.tail _ h)) (e.trans (ND ..))
omit P in
theorem zO(hr:k.rank≤to.rank)(hn:(k.rank==to.rank)=false):k.isL=false:=by
 induction k<;>first | rfl | (induction to<;>first | exact absurd hr (by decide) | exact NG hn)
theorem Me(hx:∀x∈its,ej k x)(hn:k.isL=false)(hl:its.length≤5000)(hd:as.lookup (No "dim")=none){lo:Bool} : ag c (d+11) (A 76) [.t (vT k.s (.list (its.map xT)) (iG as) lo)] [] (.r (.t (vT Gp (.list ((its.map (aB k .ls)).map xT)) (GJ (as.lookup ah)) false)) []):=by
 exists ae P 76 (by ac_rfl) Lv rfl ?_;exists .r [0] rfl rfl rfl (Ks P (to:=.ls) hx (by induction k<;>decide) hn hl hd) ?_;exact .k [] rfl rfl rfl rfl
omit P in
theorem jl(its:List X):its.map (aB k k)=its:=by
 rw[show aB k k=id from funext (pB k),List.map_id]
theorem HF(hx:∀x∈its,ej k x)(hr:k.rank≤to.rank)(hl:its.length≤5000)(hd:as.lookup (No "dim")=none){lo:Bool} : ag c (d+12) (A 99) [.t (vT k.s (.list (its.map xT)) (iG as) lo),tS to.s,.w 0] [.l ns] (.r (.t (.list ((its.map (aB k to)).map xT))) [.l ns]):=by
 exists ae P 99 (by ac_rfl) Lh rfl ?_;exists aK P ?_;rw[Ae];refine aG (o:=k.rank==to.rank) (fun hn=>?_) (fun hn=>?_)
 ·symm;exists aK P ?_;refine .r [] rfl rfl rfl (GG P) ?_;rw[zO hr hn];symm;exists .r [] rfl rfl rfl (GG P) ?_;exists eU (fun w=>?_) fun w=>?_
  ·obtain rfl:=yq w;exists .r [] rfl rfl rfl (Me P hx (zO hr hn) hl hd) ?_;exists aI P ?_;exact .k [] rfl rfl rfl rfl
  ·exists .r [0] rfl rfl rfl (Ks P hx hr hn hl hd) ?_;exists aI P ?_;exact .k [] rfl rfl rfl rfl
 ·have e:k=to:=tn hn;rw[← e];rw[jl];symm;exists aI P ?_;exact .k [] rfl rfl rfl rfl
theorem C9(hx:∀x∈its,ej k x)(hr:k.rank≤to.rank)(hl:its.length≤5000)(hd:as.lookup (No "dim")=none):ag c (d+13) (A 100) [.t (vT k.s (.list (its.map xT)) (iG as) false),tS to.s,.w 0] [.l ns] (.r (.w 1) (.l ns::OV 1 to (its.map (aB k to)) as false)):=by
 exists ae P 100 (by ac_rfl) Cn rfl ?_;exists aK P ?_;rw[Ae];refine aG (o:=k.rank==to.rank) (fun hn=>?_) (fun hn=>?_)
 ·symm;refine aA P ?_;rcases as with _ | ⟨e,r⟩
  ·symm;exists .r [0] rfl rfl rfl (HF P hx hr hl hd) ?_;exists .list rfl ?_;exists .v3 rfl rfl ?_;exact .k [2,1] rfl rfl rfl rfl
  ·symm;exists aA P ?_;exists .dict rfl ?_;exists .r [0] rfl rfl rfl (HF P hx hr hl hd) ?_;exists .list rfl ?_;exists .v3 rfl rfl ?_;exact .k [3,2,1] rfl rfl rfl rfl
 ·have e:k=to:=tn hn;rw[← e];rw[jl];symm;exists .r [] rfl rfl rfl (Mz P) ?_;rcases as with _ | ⟨e,r⟩
  ·exact .k [1,2] rfl rfl rfl rfl
  ·exact .k [1,2,3] rfl rfl rfl rfl
end
end
section
theorem LW:aX 19=⟨[some 0,some 1],[],[],.loc 0<|.att "attrs"<|.cst .none<|.cmp .IsNot<|.and (.loc 1<|.loc 0<|.att "attrs"<|.cmp .In<|.fin)<|.ite (.bad) (.fin)<|.fin⟩:=by ac_rfl
theorem Hz:aX 103=⟨[some 0,some 1,some 2,some 3,none,none,none],[],[],.glo (.bi "len")<|.loc 0<|.att "items"<|.cal 1<|.put 4<|.glo (.ty "range")<|.loc 4<|.glo (.fn 9)<|.loc 1<|.cal 1<|.cal 2<|.for 5 (.loc 0<|.att "items"<|.mth "append"<|.glo (.fn 92)<|.loc 0<|.att "kind"<|.cal 1<|.cal 2<|.pop<|.fin)<|.glo (.fn 19)<|.loc 0<|.cst (.str "dim")<|.cal 2<|.pop<|.glo (.fn 19)<|.loc 0<|.cst (.str "dimnames")<|.cal 2<|.pop<|.loc 2<|.cst .none<|.cmp .Is<|.and (.loc 3<|.cst .none<|.cmp .Is<|.fin)<|.ite (.cst .none<|.rtn) (.fin)<|.cst (.str "")<|.lst 1<|.loc 4<|.bin .Mult<|.put 6<|.loc 2<|.cst .none<|.cmp .IsNot<|.ite (.glo (.ty "list")<|.loc 2<|.cal 1<|.put 6<|.fin) (.fin)<|.loc 3<|.cst .none<|.cmp .IsNot<|.ite (.loc 6<|.mth "extend"<|.loc 3<|.cal 2<|.pop<|.fin) (.fin)<|.loc 6<|.mth "extend"<|.cst (.str "")<|.lst 1<|.loc 1<|.glo (.bi "len")<|.loc 6<|.cal 1<|.bin .Sub<|.bin .Mult<|.cal 2<|.pop<|.glo (.fn 20)<|.loc 0<|.cst (.str "names")<|.glo (.fn 11)<|.loc 6<|.cal 1<|.cal 3<|.pop<|.fin⟩:=by ac_rfl
theorem Hy:aX 104=⟨[some 0,some 1,some 2,none,none,none,none],[],[],.glo (.bi "len")<|.loc 2<|.cal 1<|.put 3<|.glo (.fn 93)<|.loc 0<|.att "kind"<|.cal 1<|.put 4<|.glo (.ty "range")<|.glo (.bi "len")<|.loc 1<|.cal 1<|.cal 1<|.for 5 (.loc 1<|.loc 5<|.sub<|.cst .none<|.cmp .IsNot<|.ite (.loc 2<|.loc 5<|.loc 3<|.bin .Mod<|.sub<|.put 6<|.loc 4<|.ite (.glo (.fn 16)<|.loc 6<|.cal 1<|.pop<|.fin) (.fin)<|.loc 6<|.loc 0<|.att "items"<|.loc 1<|.loc 5<|.sub<|.sit<|.fin) (.fin)<|.fin)<|.fin⟩:=by ac_rfl
theorem Hx:aX 105=⟨[some 0,some 1,none],[],[],.glo (.bi "len")<|.loc 1<|.att "items"<|.cal 1<|.cst (.int 1)<|.cmp .Gt<|.ite (.loc 0<|.for 2 (.loc 2<|.cst .none<|.cmp .Is<|.ite (.cst (.str "NAs are not allowed in subscripted assignments")<|.rse) (.fin)<|.fin)<|.fin) (.fin)<|.fin⟩:=by ac_rfl
theorem mi(as:List (Str×Tx))(n:Str):(il as).lookup n=(as.lookup n).map qH:=by
 induction as with
 | nil=>rfl
 | cons e r ih=>
  show OB n ((e.1,qH e.2)::il r)=_;rw[NK,NK];split
  ·rfl
  ·exact ih
theorem AG(as:List (Str×Tx))(n:Str):((il as).any fun p=>decide (p.1=n))=(as.lookup n).isSome:=by
 rw[gI,mi,RP]
theorem AF(as:List (Str×Tx))(n:Str)(ts:Tx):aN (il as) n (qH ts)=il (aN as n ts):=by
 unfold aN il;rw[Sa];show (if as.any (fun p=>decide (p.1=n))=true then _ else _)=_;split
 ·rw[Oc,Oc];refine Oj fun p ζ=>?_;show (if p.1=n then _ else _)=(fun e:Str×Tx=>(e.1,qH e.2)) (if p.1=n then _ else _);by_cases w:p.1=n
  ·rw[if_pos w,if_pos w]
  ·rw[if_neg w,if_neg w]
 ·rw[N8];rfl
theorem cU{K α:Type}[DecidableEq K](e:K×α)(r:List (K×α))(k:K)(v:α):∃e' r',aN (e::r) k v=e'::r':=by
 unfold aN;split
 ·exact ⟨_,_,rfl⟩
 ·exact ⟨_,_,rfl⟩
theorem co{α:Type}(n:Nat)(x:α):(NM n [x]).flatten=NM n x:=by
 induction n with
 | zero=>rfl
 | succ n ih=>exact Nw (x :: ·) ih
noncomputable def bD(n count:Nat)(names added:Option Tx):Tx:=(bB n names++added.getD [])++NM (count-(bB n names++added.getD []).length) kh
noncomputable def eG(n count:Nat)(as:List (Str×Tx))(added:Option Tx):List (Str×Tx):=bif (as.lookup ah).isNone&&added.isNone then as else aN as ah (bD n count (as.lookup ah) added)
section
variable{c:Cx}{d:Nat}(P:PF c){k:Kd}{its:List X}{as:List (Str×Tx)}{lo:Bool}
theorem cK{o:Nat} : (FY o as).isV=false:=by induction as using List.casesOn<;>rfl
include P
theorem Bh{n:Str}(h:as.lookup n=none):ag c (d+1) (A 19) [.w 0,tS n] (OV 0 k its as lo) (.r (tv .none) (OV 0 k its as lo)):=by
 exists ae P 19 (by ac_rfl) LW rfl ?_;refine oA P rfl cK ?_;rcases as with _ | ⟨e,r⟩
 ·symm;exact .k [] rfl rfl rfl rfl
 ·symm;exists oA P rfl rfl ?_;refine .in_sd (es:=il (e::r)) rfl ?_;rw[AG,h];symm;exact .k [] rfl rfl rfl rfl
theorem wD{n:Str}{ts:Tx}(hl:as.length≤100):ag c (d+2) (A 20) [.w 0,tS n,.t (qH ts)] (OV 0 k its as lo) (.r (tv .none) (OV 0 k its (aN as n ts) lo)):=by
 exists ae P 20 (by ac_rfl) LV rfl ?_;refine oA P rfl cK ?_;rcases as with _ | ⟨e,r⟩
 ·symm;exists .d0 ?_;exists .at_ rfl (mH P (by decide)) ?_;exists .r [] rfl rfl rfl (tc P) ?_;exists oA P rfl rfl ?_;exists .d rfl rfl (by decide) ?_;exact .k [2] rfl rfl rfl rfl
 ·symm;exists .r [] rfl rfl rfl (tc P) ?_;exists oA P rfl rfl ?_;exists .d (es:=il (e::r)) rfl rfl (by unfold il;rw[Nq];exact NV hl (by decide)) ?_;rw[show aN (il (e::r)) n (vT qR (T.list (PU bz ts)) lN false)=_ from AF (e::r) n ts];obtain ⟨e',r',h⟩:=cU e r n ts;rw[h];exact .k [] rfl rfl rfl rfl
end
end
section
abbrev zP:Str:=No "NAs are not allowed in subscripted assignments"
noncomputable def AL(b:Bool):Rq:=bif b then .e zP [] else .r (tv .none) []
theorem Ik{t:T}{j:Nat} : UV.t t≠.w j:=fun h=>UV.noConfusion h
theorem GI{i j:Nat}(e:O8 i j=false):UV.w i≠.w j:=fun h=>by
 injection h with h;rw[h,Tj]at e;exact NG e
section
variable{c:Cx}{d:Nat}(P:PF c){k:Kd}{its:List X}{as:List (Str×Tx)}{lo:Bool}
theorem tm(n m:Nat):(aW n m).map T.leaf=(QK n (m-n)).map fun i:Nat=>lI i:=by
 show PU _ (PU _ _)=_;rw[Oc,QO,List.range'_eq_map_range,Oc];exact Oj fun i ζ=>rfl
theorem lV(count:Nat)(xs:Tx):xs.map bz++NM ((count:Int)-(xs.map bz).length).toNat (lS (No ""))=(xs++NM (count-xs.length) kh).map bz:=by
 rw[N8,Py,Nq,QO];rfl
theorem Ev(n:Nat)(ts:Tx):NM (n:Int).toNat (lS (No ""))++ts.map bz=(NM n kh++ts).map bz:=by
 rw[N8,Py];rfl
theorem nq{n count:Nat}(hc:count≤1000)(h:n≤2000):(count:Int)-n≤100000∧-100000≤(count:Int)-n:=⟨NC (P2 _ (NB _)) (NC (Int.ofNat_le.mpr hc) (by decide)),ze h⟩
theorem wY{xs:List T}{count:Nat}{x:T}(hc:count≤1000)(h:xs.length≤2000):xs.length+(NM ((count:Int)-xs.length).toNat x).length≤100000:=by rw[Od];exact Np (O4 h (GE (NC (P2 _ (NB _)) (Int.ofNat_le.mpr hc)))) (by decide)
theorem lW{xs ys:Tx}(h:xs.length≤1000)(h2:ys.length≤1000):((xs++ys).map bz).length≤2000:=by rw[Nq,NH];exact O4 h h2
theorem z4{xs ys:List T}{N M:Nat}(h:xs.length≤N)(h2:ys.length≤M)(h3:N+M≤100000):xs.length+ys.length≤100000:=Np (O4 h h2) h3
theorem w6{n count:Nat}(h:as.lookup ah=none):eG n count as none=as:=by
 unfold eG;rw[h];rfl
theorem lY{n count:Nat}{o added:Option Tx}(h:as.lookup ah=o)(h2:(o.isNone&&added.isNone)=false):eG n count as added=aN as ah (bD n count o added):=by
 unfold eG;rw[h,h2];rfl
include P
theorem C5{sp:List (Option Nat)}{its:List T}{at_:T} : ag c (d+3) (A 105) [.t (.list (sp.map cL)),.t (vT k.s (.list its) at_ lo)] [] (AL (decide (1<its.length)&&sp.any (·.isNone))):=by
 exists ae P 105 (by ac_rfl) Hx rfl ?_;exists aI P ?_;exists .len rfl ?_;exists aC (fun w=>?_) fun w=>?_
 ·rw[NF (Int.ofNat_lt.mp w),Bool.true_and];refine (?h:∀(l:List (Option Nat)) y,AL (l.any (·.isNone))=AL (sp.any (·.isNone))→cu _ _ _ (l.map cL) [_,_,y] _ _) sp none rfl;intro l
  induction l with
  | nil=>
   intro y e;rw[← e];symm;exact .k [] rfl rfl rfl rfl
  | cons o l ih=>
   intro y e
   induction o with
   | none=>
    symm;exact .mk rfl rfl e.symm
   | some i=>
    symm;exact ih _ e
 ·rw[Ny fun h=>w (Int.ofNat_lt.mpr h),Bool.false_and];symm;exact .k [] rfl rfl rfl rfl
set_option maxHeartbeats 2000000 in
theorem H7{added:Option Tx}{count:Nat}(hc:count≤1000)(hl:its.length<count)(ha:as.length≤100)(hN:∀ns,as.lookup ah=some ns→ns.length≤1000)(hA:∀ns,added=some ns→ns.length≤1000)(h1:as.lookup (No "dim")=none)(h2:as.lookup (No "dimnames")=none):ag c (d+4) (A 103) [.w 0,ti count,.t (fH (as.lookup ah)),.t (fH added)] (OV 0 k its as lo) (.r (tv .none) (OV 0 k (its++NM (count-its.length) (ie k)) (eG its.length count as added) lo)):=by
 exists ae P 103 (by ac_rfl) Hz rfl ?_;exists oI P rfl cK ?_;exists .len rfl ?_;rw[Nq];exists .r [] rfl rfl rfl (s9 P (Int.ofNat_le.mpr (Np hc (by decide)))) ?_;exists .rng2 (NB _) (Int.ofNat_le.mpr (Np (OI hl) (Np hc (by decide)))) (NC (by decide) (NB _)) (Int.ofNat_le.mpr (Np hc (by decide))) ?_;rw[tm];have h3:its.length+(count-its.length)≤5000:=by rw[PQ (OI hl)];exact Np hc (by decide)
 refine (?h:∀(l:List Nat) (ys:List T) z y,z=GQ as→ys.length+l.length≤5000→(its++NM (count-its.length) (ie k)).map xT=ys++NM l.length (xT (ie k))→cu _ _ _ (l.map fun i:Nat=>lI i) [_,_,_,_,some (ti its.length),y,none] _ (.v k.s (.w 1) (FY 0 as) lo :: .l ys::z)) (QK its.length (count-its.length)) (its.map xT) _ none (Nr _) (by rw[TN,Nq];exact h3) (by rw[TN,N8,Py]);intro l
 induction l with
 | nil=>
  intro ys z y hz _ e;have e:=e.trans (Nr ys);subst hz e;generalize its++NM (count-its.length) (ie k)=its2;clear h3;have hi:its.length≤1000:=Np (OI hl) hc;have hn2:(its.length:Int)≤100000:=Int.ofNat_le.mpr (Np hi (by decide));have hn3 : -100000≤(its.length:Int):=NC (by decide) (NB _);have hl0:(NM its.length kh).length≤1000:=by rw[Od];exact hi
  have hl3:∀{n:Tx},n.length≤1000→(n.map bz).length≤1000:=fun h=>by rw[Nq];exact h
  have hl4:(NM (its.length:Int).toNat (lS (No ""))).length≤1000:=by rw[Od];exact hi
  refine ay (o:=as.lookup ah) (fun hn=>?_) (fun ns hn=>?_)
  ·
   rcases as with _ | ⟨e,r⟩
   ·symm;exists .r [0,1] rfl rfl rfl (Bh P h1) ?_;exists .r [0,1] rfl rfl rfl (Bh P h2) ?_
    induction added with
    | none=>
     symm;exact .k [] rfl rfl rfl rfl
    | some ts=>
     symm;refine .mulL rfl rfl hn2 hn3 ?_;rw[co];symm;refine .extend rfl rfl Ik (z4 hl4 (hl3 (hA _ rfl)) (by decide)) ?_;rw[Ev];symm;exists .len rfl ?_;refine .mulL rfl rfl (nq hc (lW hl0 (hA _ rfl))).1 (nq hc (lW hl0 (hA _ rfl))).2 ?_;rw[co];symm;refine .extend rfl rfl (GI rfl) (wY hc (lW hl0 (hA _ rfl))) ?_;rw[lV];symm;exists .r [] rfl rfl rfl (zm P) ?_;exists .r [0,1] rfl rfl rfl (wD P ha) ?_;exact .k [6] rfl rfl rfl rfl
   ·symm;exists .r [0,1,2] rfl rfl rfl (Bh P h1) ?_;exists .r [0,1,2] rfl rfl rfl (Bh P h2) ?_
    induction added with
    | none=>
     symm;exact .k [] rfl rfl rfl (by rw[w6 hn];rfl)
    | some ts=>
     symm;refine .mulL rfl rfl hn2 hn3 ?_;rw[co];symm;refine .extend rfl rfl Ik (z4 hl4 (hl3 (hA _ rfl)) (by decide)) ?_;rw[Ev];symm;exists .len rfl ?_;refine .mulL rfl rfl (nq hc (lW hl0 (hA _ rfl))).1 (nq hc (lW hl0 (hA _ rfl))).2 ?_;rw[co];symm;refine .extend rfl rfl (GI rfl) (wY hc (lW hl0 (hA _ rfl))) ?_;rw[lV];symm;exists .r [] rfl rfl rfl (zm P) ?_;refine Nz (cU e r ah (bD its.length count none (some ts))) fun e2 zz=>Nz (zz) fun r2 h=>?_;exists .r [0,1,2] rfl rfl rfl (h▸wD P (its:=its2) (n:=ah) ha:ag c (d+3) _ _ _ (.r _ (OV 0 k its2 (e2::r2) lo))) ?_;exact .k [] rfl rfl rfl (by rw[lY hn rfl,h];rfl)
  ·
   rcases as with _ | ⟨e,r⟩
   ·exact ac hn
   ·symm;exists .r [0,1,2] rfl rfl rfl (Bh P h1) ?_;exists .r [0,1,2] rfl rfl rfl (Bh P h2) ?_
    induction added with
    | none=>
     symm;refine .mulL rfl rfl hn2 hn3 ?_;rw[co];symm;exists .list rfl ?_;exists .len rfl ?_;refine .mulL rfl rfl (nq hc (Np (hl3 (hN _ hn)) (by decide))).1 (nq hc (Np (hl3 (hN _ hn)) (by decide))).2 ?_;rw[co];symm;refine .extend rfl rfl (GI rfl) (wY hc (Np (hl3 (hN _ hn)) (by decide))) ?_;rw[lV];symm;exists .r [] rfl rfl rfl (zm P) ?_;have hq:bD its.length count (some ns) none=ns++NM (count-ns.length) kh:=by
      unfold bD;rw[show bB its.length (some ns)++(none:Option Tx).getD []=ns from Nr ns]
     obtain ⟨e2,r2,h⟩:=cU e r ah (ns++NM (count-ns.length) kh);exists .r [0,1,2] rfl rfl rfl (h▸wD P (its:=its2) (n:=ah) ha:ag c (d+3) _ _ _ (.r _ (OV 0 k its2 (e2::r2) lo))) ?_;exact .k [] rfl rfl rfl (by rw[lY hn rfl,hq,h];rfl)
    | some ts=>
     symm;refine .mulL rfl rfl hn2 hn3 ?_;rw[co];symm;exists .list rfl ?_;refine .extend rfl rfl Ik (z4 (hl3 (hN _ hn)) (hl3 (hA _ rfl)) (by decide)) ?_;rw[← N8];symm;exists .len rfl ?_;refine .mulL rfl rfl (nq hc (lW (hN _ hn) (hA _ rfl))).1 (nq hc (lW (hN _ hn) (hA _ rfl))).2 ?_;rw[co];symm;refine .extend rfl rfl (GI rfl) (wY hc (lW (hN _ hn) (hA _ rfl))) ?_;rw[lV];symm;exists .r [] rfl rfl rfl (zm P) ?_;obtain ⟨e2,r2,h⟩:=cU e r ah (bD its.length count (some ns) (some ts));exists .r [0,1,2] rfl rfl rfl (h▸wD P (its:=its2) (n:=ah) ha:ag c (d+3) _ _ _ (.r _ (OV 0 k its2 (e2::r2) lo))) ?_;exact .k [] rfl rfl rfl (by rw[lY hn rfl,h];rfl)
 | cons i l ih=>
  intro ys z y hz hl e;symm;exists oI P rfl cK ?_;exists oK P rfl cK ?_;exists .r [] rfl rfl rfl (L7 P) ?_;exists .append rfl rfl (bh hl) ?_;exact ih _ _ _ ((Nr _).trans hz) (cj hl) (e.trans (ND ..))
end
end
section
noncomputable def cH(g:List X):Nat→List X→List (Option Nat)→List X
 | _,its,[]=>its
 | i,its,none::r=>cH g (i+1) its r
 | i,its,some j::r=>cH g (i+1) (its.set j ((g[i % g.length]?).getD .null)) r
section
variable{c:Cx}{d:Nat}(P:PF c){k:Kd}{its:List X}{as:List (Str×Tx)}{lo:Bool}
include P
theorem HP{x:X}(h:ej .ls x):ag c (d+1) (A 16) [.t (xT x)] [] (.r (.t (xT x)) []):=by
 induction x with
 | sc s=>exact h.elim
 | null=>exact HQ P
 | sv k s=>exact tc P
theorem H6{sp:List (Option Nat)}{g:List X}(hs:∀j,some j∈sp→j<its.length)(hx:∀x∈g,ej k x)(h0:0<g.length)(hl:sp.length≤5000):ag c (d+2) (A 104) [.w 0,.t (.list (sp.map cL)),.t (.list (g.map xT))] (OV 0 k its as lo) (.r (tv .none) (OV 0 k (cH g 0 its sp) as lo)):=by
 exists ae P 104 (by ac_rfl) Hy rfl ?_;exists .len rfl ?_;rw[Nq];exists oK P rfl cK ?_;exists .r [] rfl rfl rfl (GG P) ?_;exists .len rfl ?_;rw[Nq];exists .rng1 (NC (by decide) (NB _)) (Int.ofNat_le.mpr (Np hl (by decide))) ?_;rw[bv,Rv];refine (?h:∀(post pre:List (Option Nat)) (its2:List X) z x y,z=GQ as→(∀j,some j∈post→j<its2.length)→pre++post=sp→cH g pre.length its2 post=cH g 0 its sp→cu _ _ _ ((QK pre.length post.length).map fun i:Nat=>lI i) [_,some (.t (.list (sp.map cL))),some (.t (.list (g.map xT))),some (ti g.length),some (tb k.isL),x,y] [] (.v k.s (.w 1) (FY 0 as) lo :: .l (its2.map xT)::z)) sp [] its _ none none (Nr _) hs rfl rfl;clear hs hl;intro post
 induction post with
 | nil=>
  intro pre its2 z x y hz hs e1 e2;subst hz;rw[← e2];symm
  induction as<;>exact .k [] rfl rfl rfl rfl
 | cons t post ih=>
  intro pre its2 z x y hz hs e1 e2;have hg:cq (sp.map cL) pre.length=some (cL t):=by rw[bM,← e1,lT];rfl
  have ih:=fun its2 z x y hz hs h2=>ih (pre++[t]) its2 z x y hz hs ((ND ..).symm.trans e1) h2;replace ih:=(NH)▸ih;symm
  induction t with
  | none=>
   exists fS rfl (t:=lN) hg ?_;exact ih _ _ _ _ hz (fun j h=>hs j (.tail _ h)) e2
  | some j=>
   have hi:=R8 pre.length h0;have hq:=NI hi;have hj:=hs j (.head _);exists fS rfl (t:=lI j) hg ?_;exists ⟨Int.ofNat_lt.mpr h0,?_⟩;refine fS rfl (t:=xT g[pre.length % g.length]) ?_ ?_
   ·exact (bM ..).trans (Nw (Os xT) hq)
   symm;have e2:=(Nw (fun o:Option X=>cH g (pre.length+1) (its2.set j (o.getD .null)) post) hq).symm.trans e2;have hs:∀x:X,∀i,some i∈post→i<(its2.set j x).length:=fun x i h=>by rw[Qi];exact hs i (.tail _ h)
   exists eU (fun w=>?_) fun w=>?_
   ·obtain rfl:=yq w;exists .r [] rfl rfl rfl (HP P (hx _ (OZ hi))) ?_;exists oI P rfl cK ?_;exists fS rfl (t:=lI j) hg ?_;exists .l rfl rfl (NB _) (Int.ofNat_lt.mpr (by rw[Nq];exact hj)) ?_;rw[show (its2.map xT).set (j:Int).toNat _=_ from List.map_set.symm];exact ih _ _ _ _ ((Nr _).trans hz) (hs _) e2
   ·symm;exists oI P rfl cK ?_;exists fS rfl (t:=lI j) hg ?_;exists .l rfl rfl (NB _) (Int.ofNat_lt.mpr (by rw[Nq];exact hj)) ?_;rw[show (its2.map xT).set (j:Int).toNat _=_ from List.map_set.symm];exact ih _ _ _ _ hz (hs _) e2
end
end
section
theorem Hv:aX 107=⟨[some 0,some 1,none,none,none,none,none,none,none,none,none,none],[],[],.glo (.fn 21)<|.loc 0<|.cal 1<|.put 2<|.glo (.fn 9)<|.glo (.bi "max")<|.glo (.bi "len")<|.loc 0<|.att "items"<|.cal 1<|.glo (.fn 106)<|.loc 1<|.cal 1<|.cal 2<|.cal 1<|.put 3<|.dic 0<|.put 4<|.loc 1<|.for 5 (.loc 5<|.cst .none<|.cmp .IsNot<|.ite (.cst (.bool true)<|.loc 4<|.loc 5<|.sit<|.fin) (.fin)<|.fin)<|.lst 0<|.put 6<|.lst 0<|.put 7<|.glo (.ty "range")<|.loc 3<|.cal 1<|.for 8 (.loc 8<|.loc 4<|.cmp .NotIn<|.ite (.loc 8<|.glo (.bi "len")<|.loc 0<|.att "items"<|.cal 1<|.cmp .Lt<|.put 9<|.loc 6<|.mth "append"<|.loc 9<|.ite (.loc 0<|.att "items"<|.loc 8<|.sub<|.fin) (.glo (.cls 63)<|.cal 0<|.fin)<|.cal 2<|.pop<|.loc 2<|.cst .none<|.cmp .IsNot<|.ite (.loc 7<|.mth "append"<|.loc 9<|.ite (.loc 2<|.loc 8<|.sub<|.fin) (.cst (.str "")<|.fin)<|.cal 2<|.pop<|.fin) (.fin)<|.fin) (.fin)<|.fin)<|.glo (.cls 113)<|.loc 0<|.att "kind"<|.loc 6<|.cal 2<|.put 10<|.loc 0<|.att "attrs"<|.cst .none<|.cmp .IsNot<|.ite (.loc 0<|.att "attrs"<|.for 11 (.loc 11<|.cst (.str "names")<|.cst (.str "dim")<|.cst (.str "dimnames")<|.tpl 3<|.cmp .NotIn<|.ite (.glo (.fn 20)<|.loc 10<|.loc 11<|.loc 0<|.att "attrs"<|.loc 11<|.sub<|.cal 3<|.pop<|.fin) (.fin)<|.fin)<|.fin) (.fin)<|.loc 2<|.cst .none<|.cmp .IsNot<|.ite (.glo (.fn 20)<|.loc 10<|.cst (.str "names")<|.glo (.fn 11)<|.loc 7<|.cal 1<|.cal 3<|.pop<|.fin) (.fin)<|.loc 10<|.rtn⟩:=by ac_rfl
inductive b9:List (Str×Tx)→Prop
 | z:b9 []
 | n (ts):b9 [(ah,ts)]
 | u (us):b9 [(d9,us)]
 | nu (ts us):b9 [(ah,ts),(d9,us)]
 | un (ts us):b9 [(d9,us),(ah,ts)]
theorem b9.dim{as}(h:b9 as):as.lookup (No "dim")=none:=by induction h<;>ac_rfl
theorem b9.dn{as}(h:b9 as):as.lookup (No "dimnames")=none:=by induction h<;>ac_rfl
theorem b9.len{as}(h:b9 as):as.length≤2:=by induction h<;>exact NJ rfl
theorem Ir{α:Type}{P:α→Prop}{a:α}(h:P a):∀e∈[a],P e:=List.forall_mem_singleton.mpr h
theorem KM{α:Type}{P:α→Prop}{a b:α}(h:P a)(h':P b):∀e∈[a,b],P e:=List.forall_mem_cons.mpr ⟨h,Ir h'⟩
theorem b9.at_{as}(h:b9 as):∀e∈as,as.lookup e.1=some e.2∧(e.1=ah∨e.1=d9):=by
 induction h with
 | z=>exact fun ζ h=>absurd h Oo
 | n=>exact Ir ⟨by ac_rfl,.inl rfl⟩
 | u=>exact Ir ⟨by ac_rfl,.inr rfl⟩
 | nu=>exact KM ⟨by ac_rfl,.inl rfl⟩ ⟨by ac_rfl,.inr rfl⟩
 | un=>exact KM ⟨by ac_rfl,.inr rfl⟩ ⟨by ac_rfl,.inl rfl⟩
noncomputable def bN(n:Nat)(sp:List (Option Nat)):List Nat:=(Ou (max n (cnt 0 sp))).filter fun i=>!decide (some i∈sp)
noncomputable def bP(acc:List (Str×Tx))(e:Str×Tx):List (Str×Tx):=bif decide (e.1=ah) then acc else aN acc e.1 e.2
noncomputable def gX(n:Nat)(sp:List (Option Nat))(as:List (Str×Tx)):List (Str×Tx):=match as.lookup ah with
 | none=>as.foldl bP []
 | some ns=>aN (as.foldl bP []) ah ((bN n sp).map fun i=>(ns[i]?).getD kh)
noncomputable def AK(its:List X)(sp:List (Option Nat)):List X:=(bN its.length sp).map fun i=>(its[i]?).getD .null
noncomputable def GL(es:List (Int×T))(o:Option Nat):List (Int×T):=match o with
 | some i=>aN es i (.leaf (.bool true))
 | none=>es
theorem uw(j:Nat):∀(sp:List (Option Nat)) (es:List (Int×T)),(sp.foldl GL es).any (fun p=>decide (p.1=(j:Int)))=(es.any (fun p=>decide (p.1=(j:Int)))||decide (some j∈sp))
 | [],es=>by rw[Ny Oo,O9];rfl
 | o::r,es=>by
  rw[Ra,uw j r];have:(GL es o).any (fun p=>decide (p.1=(j:Int)))=(es.any (fun p=>decide (p.1=(j:Int)))||decide (some j=o)):=by
   induction o with
   | none=>rw[Ny (NN j),O9];rfl
   | some i=>
    show (aN es _ _).any _=_;rw[i9]
    congr 1
    exact decide_eq_decide.mpr ⟨fun h=>Nw some (Int.ofNat_inj.mp h).symm,fun h=>Nw Int.ofNat (Option.some.inj h).symm⟩
  rw[this,SV,← RB]
  congr 2
  exact propext List.mem_cons.symm
noncomputable def kp(sp:List (Option Nat))(l:List Nat):List Nat:=l.filter fun i=>!decide (some i∈sp)
theorem EA{sp:List (Option Nat)}{i:Nat}{l:List Nat}(w:some i∈sp):kp sp (i::l)=kp sp l:=P0 (by rw[NF w];decide)
theorem EB{sp:List (Option Nat)}{i:Nat}{l:List Nat}(w : ¬ some i∈sp):kp sp (i::l)=i::kp sp l:=PZ (by rw[Ny w];rfl)
noncomputable def kX(its:List X)(sp:List (Option Nat))(l:List Nat):List T:=((kp sp l).map fun i=>(its[i]?).getD .null).map xT
noncomputable def kN(nv:Tx)(sp:List (Option Nat))(l:List Nat):List T:=((kp sp l).map fun i=>(nv[i]?).getD kh).map bz
theorem IR{its:List X}{sp:List (Option Nat)}{i:Nat}{l:List Nat}{A xs:List T}(e:A=xs++kX its sp (i::l))(w:some i∈sp):A=xs++kX its sp l:=by unfold kX at e;rw[EA w]at e;exact e
theorem IT{its:Tx}{sp:List (Option Nat)}{i:Nat}{l:List Nat}{A xs:List T}(e:A=xs++kN its sp (i::l))(w:some i∈sp):A=xs++kN its sp l:=by unfold kN at e;rw[EA w]at e;exact e
theorem EM{its:List X}{sp:List (Option Nat)}{i:Nat}{l:List Nat}{A xs:List T}{o:Option X}(e:A=xs++kX its sp (i::l))(w : ¬ some i∈sp)(h:its[i]? = o):A=xs++[xT (o.getD .null)]++kX its sp l:=by unfold kX at e;rw[EB w]at e;exact h▸e.trans (ND ..)
theorem EN{its:Tx}{sp:List (Option Nat)}{i:Nat}{l:List Nat}{A xs:List T}{o:Option (Option Str)}(e:A=xs++kN its sp (i::l))(w : ¬ some i∈sp)(h:its[i]? = o):A=xs++[bz (o.getD kh)]++kN its sp l:=by unfold kN at e;rw[EB w]at e;exact h▸e.trans (ND ..)
def Fk(nm:Option Tx)(fa as:List (Str×Tx))(kp:List Nat):Prop:=fa=match nm with
 | none=>as
 | some ns=>aN as ah (kp.map fun i=>(ns[i]?).getD kh)
section
variable{c:Cx}{d:Nat}(P:PF c){k:Kd}{its:List X}{as:List (Str×Tx)}{lo:Bool}
include P
theorem H5{sp:List (Option Nat)}(ok:b9 as)(hn:∀ns,as.lookup ah=some ns→ns.length=its.length)(hl:its.length≤1000)(hc:cnt 0 sp≤1000)(hs:sp.length≤1000):ag c (d+4) (A 107) [.t (vT k.s (.list (its.map xT)) (iG as) lo),.t (.list (sp.map cL))] [] (.r (.t (vT k.s (.list ((AK its sp).map xT)) (iG (gX its.length sp as)) false)) []):=by
 exists ae P 107 (by ac_rfl) Hv rfl ?_;exists .r [] rfl rfl rfl (CD P ok.dim) ?_;exists aI P ?_;exists .len rfl ?_;rw[Nq];exists .r [] rfl rfl rfl (C4 P sp) ?_;refine .max2 ?_;rw[wW];symm;have hm:max its.length (cnt 0 sp)≤1000:=Nat.max_le.mpr ⟨hl,hc⟩;exists .r [] rfl rfl rfl (s9 P (Int.ofNat_le.mpr (Np hm (by decide)))) ?_;exists .i0 ?_;refine (?h:∀(l:List (Option Nat)) (es:List (Int×T)) y,es.length+l.length≤5000→l.foldl GL es=sp.foldl GL []→cu _ _ _ (l.map cL) [_,_,some (.t (fH (as.lookup ah))),_,some (.w 0),y,none,none,none,none,none,none] [] [.i es]) sp [] none (Np (NL (Ot _)) (Np hs (by decide))) rfl;intro l
 induction l with
 | cons o l ih=>
  intro es y hl e
  induction o using Option.casesOn with
  | none=>
   symm;exact ih _ _ (cr hl) e
  | some i=>
   symm;exists .i rfl rfl (NV (cr hl |> Np (NS _ _)) (by decide)) ?_;exact ih _ _ (ur hl) e
 | nil=>
  intro es y _ e;have hg:∀j:Nat,(es.any fun p=>decide (p.1=(j:Int)))=decide (some j∈sp):=fun j=>(show es=_ from e)▸((uw j sp []).trans (QM _));clear e hs;symm;exists .rng1 (NC (by decide) (NB _)) (Int.ofNat_le.mpr (Np hm (by decide))) ?_;rw[bv];have hd:Fk (as.lookup ah) (gX its.length sp as) (as.foldl bP []) (kp sp (Ou (max its.length (cnt 0 sp)))):=by
   unfold Fk gX;refine vc (o:=as.lookup ah) ?_ (fun zz=>?_)<;>rfl
  rw[show (AK its sp).map xT=kX its sp (Ou (max its.length (cnt 0 sp))) from rfl];generalize as.lookup ah=nm at hn hd ⊢;generalize gX its.length sp as=fa at hd ⊢;have hr:(Ou (max its.length (cnt 0 sp))).length≤1000:=by rw[OC];exact hm
  generalize Ou (max its.length (cnt 0 sp))=l0 at hr hd ⊢;refine (?h2:∀(l:List Nat) (xs ns:List T) x y,xs.length+l.length≤5000→ns.length+l.length≤5000→kX its sp l0=xs++kX its sp l→(∀nv,nm=some nv→kN nv sp l0=ns++kN nv sp l)→cu _ _ _ (l.map fun i:Nat=>lI i) [_,_,some (.t (fH nm)),_,some (.w 0),_,some (.w 1),some (.w 2),x,y,none,none] [] [.i es,.l xs,.l ns]) l0 [] [] none none (Np (NL (Ot _)) (Np hr (by decide))) (Np (NL (Ot _)) (Np hr (by decide))) (Pn _).symm fun ζ ζ=>(Pn _).symm;intro l
  induction l with
  | cons i l ih=>
   intro xs ns x y h1 h2 e1 e2;symm;refine .in_id rfl ?_;rw[hg];by_cases w:some i∈sp
   ·rw[NF w];symm;exact ih _ _ _ _ (cr h1) (cr h2) (IR e1 w) fun nv h=>IT (e2 nv h) w
   ·rw[Ny w];symm;exists aI P ?_;exists .len rfl ?_;rw[Nq];refine aC (fun w2=>?_) fun w2=>?_
    ·have w3:=Int.ofNat_lt.mp w2;have hq:=NI w3;symm;exists aI P ?_;exists fS rfl (t:=xT its[i]) ((bM ..).trans (Nw (Os xT) hq)) ?_;exists .append rfl rfl (bh h1) ?_;have e1:=EM e1 w hq;cases nm with
     | none=>
      symm;exact ih _ _ _ _ (cj h1) (cr h2) e1 fun ζ h=>(NN _ h.symm).elim
     | some nv=>
      symm;exists xA (NF w2) ?_;have w4:i<nv.length:=hn nv rfl▸w3;have hv:=NI w4;exists fS rfl (t:=bz nv[i]) ((bM ..).trans (Nw (Os bz) hv)) ?_;exists .append rfl rfl (bh h2) ?_;exact ih _ _ _ _ (cj h1) (cj h2) e1 fun ζ h=>Option.some.inj h▸EN (e2 nv rfl) w hv
    ·have w3:=fun h=>w2 (Int.ofNat_lt.mpr h);have hq:=Pi (Pv w3);symm;exists .nl rfl ?_;exists .append rfl rfl (bh h1) ?_;have e1:=EM e1 w hq;cases nm with
     | none=>
      symm;exact ih _ _ _ _ (cj h1) (cr h2) e1 fun ζ h=>(NN _ h.symm).elim
     | some nv=>
      symm;exists iE (Ny w2) ?_;have hv:=Pi (Pv (show ¬ i<nv.length from hn nv rfl▸w3));exists .append rfl rfl (bh h2) ?_;exact ih _ _ _ _ (cj h1) (cj h2) e1 fun ζ h=>Option.some.inj h▸EN (e2 nv rfl) w hv
  | nil=>
   intro xs ns x y _ _ e1 e2;have e1:=e1.trans (Nr xs);subst e1;have e2:∀nv,nm=some nv→_=ns:=fun nv h=>(e2 nv h).trans (Nr ns);clear hr hm hg hc hl hn;symm;exists aK P ?_;exists .v2 rfl rfl ?_;by_cases hz:as=[]
   ·subst hz;exists aA P ?_
    induction nm using Option.casesOn with
    | none=>
     symm;subst hd;exact .t rfl rfl rfl rfl
    | some nv=>
     obtain rfl:=e2 nv rfl;symm;exists .r [] rfl rfl rfl (zm P) ?_;exists .r [3,1] rfl rfl rfl (wD P (as:=[]) (ts:=_) (Ol _)) ?_;subst hd;exact .t rfl rfl rfl rfl
   ·have hat:iG as=.dict (il as):=by induction as using List.casesOn<;>first | rfl | exact absurd rfl hz
    rw[hat];exists aA P ?_;exists aA P ?_;refine (?h3:∀(l acc:List (Str×Tx)) y,(∀q∈l,as.lookup q.1=some q.2∧(q.1=ah∨q.1=d9))→acc.length+l.length≤50→as.foldl bP []=l.foldl bP acc→cu _ _ _ ((il l).map fun p=>lS p.1) [_,_,_,_,_,_,_,_,_,_,some (.w 3),y] [] (.i es :: .l _ :: .l ns :: .v k.s (.w 1) (FY 2 acc) false::GQ acc)) as [] none ok.at_ (Np (Oz ok.len _) (by decide)) rfl;intro l
    induction l with
    | cons q l ih=>
     intro acc y hq hl ea;exists NO (fun h1 h2=>?_) (hq q (.head _));refine .in_tup (v:=.str q.1) (ys:=[.str ah,.str (No "dim"),.str (No "dimnames")]) rfl rfl rfl ?_;have hq:=fun q h=>hq q (.tail _ h);refine (h2).elim (fun h2=>?_) fun h2=>?_
     ·have ds:bP acc q=acc:=by unfold bP;rw[NF h2];rfl
      rw[show List.contains _ (V.str q.1)=true by rw[h2];ac_rfl];symm;exact ih acc _ hq (cr hl) (ea.trans (Nw (Pm bP · l) ds))
     ·have ds:bP acc q=aN acc q.1 q.2:=by unfold bP;rw[show decide (q.1=ah)=false by rw[h2];ac_rfl];rfl
      have ea:=ea.trans (Nw (Pm bP · l) ds);rw[show List.contains _ (V.str q.1)=false by rw[h2];ac_rfl];symm;exists aA P ?_;exists .dict (s:=q.1) (t:=qH q.2) rfl (by rw[mi,h1];rfl) ?_
      induction acc using List.casesOn with
      | nil=>
       exists .r [3,1] rfl rfl rfl (wD P (as:=[]) (n:=q.1) (ts:=q.2) (Ol _)) ?_;exact ih _ _ hq (ur hl) ea
      | cons a r=>
       refine Nz (cU a r q.1 q.2) fun e2 zz=>Nz (zz) fun r2 h=>?_;have hl2:=ur (k:=q.1) (v:=q.2) hl;rw[h]at ea hl2;exists .r [3,1,4] rfl rfl rfl (h▸wD P (as:=a::r) (n:=q.1) (ts:=q.2) (Np (Np (NS _ _) hl) (by decide)):ag c (d+3) _ _ _ (.r _ (OV 0 k _ (e2::r2) false))) ?_;exact ih _ _ hq hl2 ea
    | nil=>
     intro acc y _ hl ea;have ea:as.foldl bP []=acc:=ea;rw[ea]at hd;clear ea
     induction nm using Option.casesOn with
     | none=>
      symm;subst hd
      induction fa using List.casesOn<;>exact .t rfl rfl rfl rfl
     | some nv=>
      obtain rfl:=e2 nv rfl;symm;exists .r [] rfl rfl rfl (zm P) ?_
      induction acc using List.casesOn with
      | nil=>
       exists .r [3,1] rfl rfl rfl (wD P (as:=[]) (ts:=_) (Ol _)) ?_;subst hd;exact .t rfl rfl rfl rfl
      | cons a r=>
       refine Nz (cU a r ah ((kp sp l0).map fun i=>(nv[i]?).getD kh)) fun e2 zz=>Nz (zz) fun r2 h=>?_;exists .r [3,1,4] rfl rfl rfl (h▸wD P (as:=a::r) (n:=ah) (Np (Np (NS _ _) hl) (by decide)):ag c (d+3) _ _ _ (.r _ (OV 0 k _ (e2::r2) false))) ?_;have hd:fa=aN (a::r) ah _:=hd;rw[h]at hd;subst hd;exact .t rfl rfl rfl rfl
end
end
section
section
variable{c:Cx}{d:Nat}{K:KU}{E:Str→UW→Prop}{a:Addr}{k:Kd}{its its2:List X}{as as2:List (Str×Tx)}{lo lo2:Bool}{ns ns2:List T}{vs vs1:List UV}{t:T}
theorem g8(hp:∀js W,aS (1::2::js) vs W=some (vs1,W))(ha:as2=[]→as=[])(h:ag c d a vs1 (OV 0 k its as lo) (.r (.t t) (OV 0 k its2 as2 lo2)))(q:K (.t t) (.l ns::OV 1 k its2 as2 lo2)):iH c d (.l ns::OV 1 k its as lo) K E a vs:=by
 induction as using List.casesOn with
 | nil=>
  induction as2 using List.casesOn with
  | nil=>exact .r [1,2] rfl (hp _ _) rfl h q
  | cons=>exact .r [1,2] rfl (hp _ _) rfl h q
 | cons=>
  induction as2 using List.casesOn with
  | nil=>cases ha rfl
  | cons=>exact .r [1,2,3] rfl (hp _ _) rfl h q
theorem vg(hp:aS [0] vs [.l ns]=some (vs1,[.l ns]))(h:ag c d a vs1 [.l ns] (.r (.w 1) (.l ns2::OV 1 k its as lo)))(q:K (.w 1) (.l ns2::OV 1 k its as lo)):iH c d [.l ns] K E a vs:=by
 induction as using List.casesOn<;>exact .r [0] rfl hp rfl h q
theorem lc{W:UW}(hp:aS [] vs W=some (vs1,W))(h:ag c d a vs1 [] (.r (.t t) []))(q:K (.t t) W):iH c d W K E a vs:=.r [] rfl hp rfl h (by show K (.t t) (W++[]);rw[Nr];exact q)
theorem FB{Z:UW}(hp:aS [0] vs (.l ns::Z)=some (vs1,.l ns::Z))(h:ag c d a vs1 [.l ns] (.r (.t t) [.l ns2]))(q:K (.t t) (.l ns2::Z)):iH c d (.l ns::Z) K E a vs:=.r [0] rfl hp rfl h (by show K (.t t) (.l ns2::(Z++[]));rw[Nr];exact q)
theorem xC(a b:Nat):decide ((a:Int)<b)=Qx a b:=by
 refine aG (o:=Qx a b) (fun h=>?_) (fun h=>?_)
 ·exact Ny fun w=>by rw[show Qx a b=true from Qc (Int.ofNat_lt.mp w)]at h;exact (Nt h.symm).elim
 ·exact NF (Int.ofNat_lt.mpr (NJ h))
theorem qs(a b:Nat):(!decide ((a:Int) % b=0))=!(a % b==0):=by
 refine Nw (!·) ?_;refine aG (o:=a % b==0) (fun h=>?_) (fun h=>?_)
 ·exact Ny fun w=>by rw[show a % b=0 from Int.ofNat_inj.mp w]at h;exact (Nt h.symm).elim
 ·have h:a % b=0:=eq_of_beq h;exact NF (show ((a % b:Nat):Int)=0 from Nw Int.ofNat h)
theorem KZ{m:Bool}{b:Bool}{x e g:I}{Q:UQ}{st:List UV}{L C:UL}{W:UW}(N:Bool→UW)(h1:b=true→∀R:UQ,R (.nx st) L C (N true)→be c m d R x st L C W)(h2:b=false→∀R:UQ,R (.nx st) L C (N false)→be c m d R e st L C W)(hk:be c m d Q g st L C (N b)):fO b (be c m d (jU c m d Q g) x st L C W) (be c m d (jU c m d Q g) e st L C W):=by
 induction b using Bool.casesOn
 ·exact h2 rfl _ hk
 ·exact h1 rfl _ hk
end
theorem u3(sp:List (Option Nat)):∀n,n≤cnt n sp:=by
 induction sp with
 | nil=>exact fun n=>Oe n
 | cons o r ih=>
  intro n;refine Np ?_ (ih _)
  induction o using Option.casesOn with
  | none=>exact Oe n
  | some i=>exact Rl ..
theorem gF(sp:List (Option Nat)){j:Nat} : ∀n,some j∈sp→j<cnt n sp:=by
 induction sp with
 | nil=>exact fun ζ h=>absurd h Oo
 | cons o r ih=>
  intro n h;cases h with
  | head=>exact N2 (QY j) (Np (Qd n (j+1)) (u3 r _))
  | tail _ h=>exact ih _ h
abbrev fT:Str:=No "replacement has length zero"
abbrev lQ:Str:=No "number of items to replace is not a multiple of replacement length"
noncomputable def fG(k:Kd)(its:List X)(n:Nat):List X:=its++NM (n-its.length) (ie k)
noncomputable def o8(n count:Nat)(as:List (Str×Tx))(added:Option Tx):List (Str×Tx):=bif Qx n count then eG n count as added else as
theorem qm{to:Kd}{its:List X}{n:Nat}(h:n≤its.length):fG to its n=its:=by
 unfold fG;rw[Nat.sub_eq_zero_of_le h];exact Nr its
noncomputable def dW(to:Kd)(its:List X)(as:List (Str×Tx))(sp:List (Option Nat))(added:Option Tx)(g:List X):PV:=⟨to,cH g 0 (fG to its (cnt 0 sp)) sp,o8 its.length (cnt 0 sp) as added⟩
noncomputable def dJ(n m:Nat):List T:=bif n % m==0 then [] else [lS lQ]
end
section
theorem Ce:aX 108=⟨[some 0,some 1,some 2,some 3,some 4,none,none,none,none,none],[],[],.glo (.fn 21)<|.loc 0<|.cal 1<|.put 5<|.glo (.fn 101)<|.loc 3<|.loc 0<|.cal 2<|.put 3<|.glo (.fn 105)<|.loc 1<|.loc 3<|.cal 2<|.pop<|.glo (.fn 102)<|.loc 0<|.loc 3<|.cal 2<|.put 6<|.glo (.bi "len")<|.loc 1<|.cal 1<|.cst (.int 0)<|.cmp .Gt<|.and (.glo (.bi "len")<|.loc 3<|.att "items"<|.cal 1<|.cst (.int 0)<|.cmp .Eq<|.fin)<|.ite (.cst (.str "replacement has length zero")<|.rse) (.fin)<|.glo (.fn 100)<|.loc 0<|.loc 6<|.loc 4<|.cal 3<|.put 7<|.glo (.bi "len")<|.loc 1<|.cal 1<|.cst (.int 0)<|.cmp .Eq<|.ite (.loc 7<|.rtn) (.fin)<|.glo (.bi "len")<|.loc 1<|.cal 1<|.glo (.bi "len")<|.loc 3<|.att "items"<|.cal 1<|.bin .Mod<|.cst (.int 0)<|.cmp .NotEq<|.ite (.loc 4<|.mth "append"<|.cst (.str "number of items to replace is not a multiple of replacement length")<|.cal 2<|.pop<|.fin) (.fin)<|.glo (.fn 99)<|.loc 3<|.loc 6<|.loc 4<|.cal 3<|.put 8<|.glo (.fn 106)<|.loc 1<|.cal 1<|.put 9<|.loc 9<|.glo (.bi "len")<|.loc 7<|.att "items"<|.cal 1<|.cmp .Gt<|.ite (.glo (.fn 103)<|.loc 7<|.loc 9<|.loc 5<|.loc 2<|.cal 4<|.pop<|.fin) (.fin)<|.glo (.fn 104)<|.loc 7<|.loc 1<|.loc 8<|.cal 3<|.pop<|.loc 7<|.rtn⟩:=by ac_rfl
theorem yI{i:Int}(h : -100≤i∧i≤199):dom i 1=true:=by
 unfold dom;rw[NF h.1,NF h.2];exact PA _
theorem uZ{k:Kd}{s:Sc}(h:fJ k s)(hk:k=.lg∨k=.it):fJ .db (uU s):=by
 induction s with
 | na=>exact trivial
 | int i=>
  rcases hk with rfl | rfl
  ·exact yI (by rcases h with rfl | rfl<;>decide)
  ·exact yI h
 | _=>rcases hk with rfl | rfl<;>exact h.elim
theorem ml{k to:Kd}{x:X}(h:ej k x)(hr:k.rank≤to.rank):ej to (aB k to x):=by
 unfold aB;refine aG (o:=k.rank==to.rank) (fun hn=>?_) (fun hn=>?_)
 ·obtain ⟨s,rfl,hs⟩:=jh h (zO hr hn)
  induction to with
  | lg=>exact absurd (Nat.le_zero.mp hr) fun w=>by replace hn:=(w)▸hn;exact NG hn
  | it=>
   obtain rfl:=xU hr hn
   induction s with
   | na=>exact trivial
   | int i=>rcases hs with rfl | rfl<;>exact ⟨by decide,by decide⟩
   | _=>exact hs.elim
  | db=>exact uZ hs (sJ hr hn)
  | ch=>show fJ .ch (HE (fW k s));cases fW k s<;>exact trivial
  | ls=>exact ⟨fun w=>(by subst w;exact NG hn),hs⟩
 ·obtain rfl:=tn hn;exact h
noncomputable def xh(ns:List T)(to:Kd)(its:List X)(as:List (Str×Tx))(lo:Bool)(sp:List (Option Nat))(added:Option Tx)(w:PV):UW:=
 bif sp.isEmpty then .l ns::OV 1 to its as lo else .l (ns++dJ sp.length w.items.length)::OV 1 to (dW to its as sp added (w.items.map (aB w.kind to))).items (dW to its as sp added (w.items.map (aB w.kind to))).attrs lo
section
variable{c:Cx}{d:Nat}(P:PF c){to:Kd}{its:List X}{as:List (Str×Tx)}{lo:Bool}
theorem qn{n count:Nat}{added:Option Tx}(h:o8 n count as added=[]):as=[]:=by
 unfold o8 at h;refine aG (o:=Qx n count) (fun e=>?_) (fun e=>?_)<;>rw[e]at h
 ·exact h
 ·have h:eG n count as added=[]:=h;unfold eG at h;refine aG (o:=(as.lookup ah).isNone&&added.isNone) (fun e2=>?_) (fun e2=>?_)<;>rw[e2]at h
  ·exact absurd h (p8 _ _ _)
  ·exact h
theorem m6{n:Nat} : (fG to its n).length=max its.length n:=by
 unfold fG;rw[NH,Od];exact (O6 ..).trans ((TY ..).trans (Nat.max_comm ..))
include P
theorem x9{Q:UQ}{v0:UV}{sp:List (Option Nat)}{added:Option Tx}{w:PV}{ns:List T}
  (hx:∀x∈w.items,ej w.kind x) (hr:w.kind.rank≤to.rank) (hw:w.items.length≤1000) (hd:w.attrs.lookup (No "dim")=none) (hz:sp≠[]→w.items≠[]) (hi:its.length≤1000) (hc:cnt 0 sp≤1000) (hs:sp.length≤1000) (oa:b9 as) (hN:∀ns,as.lookup ah=some ns→ns.length≤1000) (hA:∀ns,added=some ns→ns.length≤1000) (hn:ns.length≤1000)
  (hQ:∀L,Q (.ret (.w 1)) L [] (xh ns to its as lo sp added w)) :
  K2 c false (d+14) Q (.put 7<|.glo (.bi "len")<|.loc 1<|.cal 1<|.cst (.int 0)<|.cmp .Eq<|.ite (.loc 7<|.rtn) (.fin)<|.glo (.bi "len")<|.loc 1<|.cal 1<|.glo (.bi "len")<|.loc 3<|.att "items"<|.cal 1<|.bin .Mod<|.cst (.int 0)<|.cmp .NotEq<|.ite (.loc 4<|.mth "append"<|.cst (.str "number of items to replace is not a multiple of replacement length")<|.cal 2<|.pop<|.fin) (.fin)<|.glo (.fn 99)<|.loc 3<|.loc 6<|.loc 4<|.cal 3<|.put 8<|.glo (.fn 106)<|.loc 1<|.cal 1<|.put 9<|.loc 9<|.glo (.bi "len")<|.loc 7<|.att "items"<|.cal 1<|.cmp .Gt<|.ite (.glo (.fn 103)<|.loc 7<|.loc 9<|.loc 5<|.loc 2<|.cal 4<|.pop<|.fin) (.fin)<|.glo (.fn 104)<|.loc 7<|.loc 1<|.loc 8<|.cal 3<|.pop<|.loc 7<|.rtn) [] [some v0,some (.t (.list (sp.map cL))),some (.t (fH added)),some (.t (pT w)),some (.w 0),some (.t (fH (as.lookup ah))),some (tS to.s),none,none,none] [] (.w 1) (.l ns::OV 1 to its as lo):=by
 unfold xh at hQ;symm;exists .len rfl ?_;rw[Nq];exists aC (fun e=>?_) fun e=>?_
 ·rw[show sp=[] from List.length_eq_zero_iff.mp (Int.ofNat_eq_zero.mp e)]at hQ;exact hQ _
 ·have hne:sp≠[]:=fun w=>e (by rw[w];rfl);replace hQ:=(show sp.isEmpty=false by induction sp<;>first | rfl | exact absurd rfl hne)▸hQ
  have hp:0<w.items.length:=Pz fun h=>hz hne (List.length_eq_zero_iff.mp h);symm;exists .len rfl ?_;exists aI P ?_;exists .len rfl ?_;rw[Nq,Nq];exists ⟨Int.ofNat_lt.mpr hp,?_⟩;rw[qs];refine KZ (N:=fun b=>WO.l (ns++bif b then [lS lQ] else [])::OV 1 to its as lo) (fun ζ R hR=>?_) (fun ζ R hR=>?_) ?_
  ·symm;exists .append rfl rfl (NV hn (by decide)) ?_;exact hR
  ·symm;have hR:R _ _ _ (.l (ns++[])::_):=hR;rw[Nr]at hR;exact hR
  rw[show (bif !(sp.length % w.items.length==0) then [lS lQ] else [])=dJ sp.length w.items.length by unfold dJ;cases sp.length % w.items.length==0<;>rfl];generalize ns++dJ sp.length w.items.length=ns at hQ ⊢;symm;exists FB rfl (HF P hx hr (Np hw (by decide)) hd) ?_;exists lc rfl (C4 P sp) ?_;exists oI P rfl cK ?_;exists .len rfl ?_;rw[Nq,xC];refine KZ (N:=fun b=>WO.l ns::OV 1 to (fG to its (cnt 0 sp)) (bif b then eG its.length (cnt 0 sp) as added else as) lo) (fun hb R hR=>?_) (fun hb R hR=>?_) ?_
  ·symm;exists g8 (fun ζ ζ=>rfl) (fun h=>qn (n:=its.length) (count:=cnt 0 sp) (added:=added) (by unfold o8;rw[hb];exact h)) (H7 P hc (NJ hb) (Np oa.len (by decide)) hN hA oa.dim oa.dn) ?_;exact hR
  ·symm;replace hR:=(qm (Pv fun w=>by have hb:=(Qc w).symm.trans hb;exact NG hb))▸hR;exact hR
  symm;have hg:∀x∈w.items.map (aB w.kind to),ej to x:=fun x h=>by
   obtain ⟨y,hy,rfl⟩:=List.mem_map.mp h;exact ml (hx y hy) hr
  exists g8 (fun ζ ζ=>rfl) id (H6 P (g:=w.items.map (aB w.kind to)) (fun j h=>(m6 (to:=to) (its:=its) (n:=cnt 0 sp))▸N2 (gF sp 0 h) (Qd ..)) hg (by rw[Nq];exact hp) (Np hs (by decide))) ?_;exact hQ _
end
end
section
section
variable{c:Cx}{d:Nat}(P:PF c){k k':Kd}{its:List X}{as:List (Str×Tx)}{lo lo':Bool}{it at_:T}{ns:List T}
theorem yJ{ns:List T} : gK 1 (Eq (.r (.t (vT k.s (.list (its.map xT)) (iG as) lo)) [.l ns])) (.w 1) (.l ns::OV 1 k its as lo):=by
 induction as using List.casesOn<;>exact .t rfl rfl rfl rfl
theorem uX{ns ns2:List T}{its2:List X}{as2:List (Str×Tx)}(ha:as2=[]→as=[]):gK (WO.l ns::OV 1 k its as lo).length (Eq (.r (.w 1) (.l ns2::OV 1 k' its2 as2 lo'))) (.w 1) (.l ns2::OV 1 k' its2 as2 lo'):=by
 induction as using List.casesOn with
 | nil=>
  induction as2 using List.casesOn with
  | nil=>exact .k [] rfl rfl rfl rfl
  | cons=>exact .k [3] rfl rfl rfl rfl
 | cons=>
  induction as2 using List.casesOn with
  | nil=>cases ha rfl
  | cons=>exact .k [] rfl rfl rfl rfl
include P
theorem wE{n:Str} : ag c (d+1) (A 18) [.w 0,tS n] (OV 0 k its as lo) (.r (.t (((as.lookup n).map qH).getD lN)) (OV 0 k its as lo)):=by
 exists ae P 18 (by ac_rfl) Hf rfl ?_;refine oA P rfl cK ?_;rcases as with _ | ⟨e,r⟩
 ·symm;exact .k [] rfl rfl rfl rfl
 ·symm;exists oA P rfl rfl ?_;exists .dict rfl ?_;exists .get rfl ?_;rw[qu];exact .k [] rfl rfl rfl rfl
theorem C6{it' at':T} : ag c (d+3) (A 102) [.w 0,.t (vT k'.s it' at' lo')] (OV 0 k its as lo) (.r (tS (eA k k').s) (OV 0 k its as lo)):=by
 exists ae P 102 (by ac_rfl) Ck rfl ?_;exists oK P rfl cK ?_;exists lc rfl (Cy P) ?_;exists aK P ?_;exists lc rfl (Cy P) ?_;rcases as with _ | ⟨e,r⟩
 ·exists .r [] rfl rfl rfl (HH P) ?_;exact .k [] rfl rfl rfl rfl
 ·exists .r [] rfl rfl rfl (HH P) ?_;exact .k [] rfl rfl rfl rfl
theorem C8{n:Str} : ag c (d+2) (A 101) [.t (vT n it at_ lo'),.w 0] (OV 0 k its as lo) (.r (.t (vT n it at_ lo')) (OV 0 k its as lo)):=by
 exists ae P 101 (by ac_rfl) Cm rfl ?_;exists lc rfl (wF P) ?_
 induction as using List.casesOn<;>exact .k [] rfl rfl rfl rfl
theorem yb:ag c (d+5) (A 100) [.w 1,tS k.s,.w 0] (.l ns::OV 1 k its as true) (.r (.w 1) (.l ns::OV 1 k its as true)):=by
 exists ae P 100 (by ac_rfl) Cn rfl ?_;exists oK P rfl cK ?_;rw[Ae,Oh];rcases as with _ | ⟨e,r⟩
 ·symm;exists .r [1,2] rfl rfl rfl (CG P (its:=its) (as:=[])) ?_;exact .k [] rfl rfl rfl rfl
 ·symm;exists .r [1,2,3] rfl rfl rfl (CG P (its:=its) (as:=e::r)) ?_;exact .k [] rfl rfl rfl rfl
theorem CB(h:as.lookup (No "dim")=none):ag c (d+2) (A 22) [.w 0] (OV 0 k its as lo) (.r (tv .none) (OV 0 k its as lo)):=by
 exists ae P 22 (by ac_rfl) He rfl ?_;rcases as with _ | ⟨e,r⟩
 ·exists .r [0,1] rfl rfl rfl (wE P (its:=its) (as:=[])) ?_;exact .k [] rfl rfl rfl rfl
 ·refine .r [0,1,2] rfl rfl rfl (wE P (its:=its) (as:=e::r)) ?_;rw[lU P h];symm;exact .k [] rfl rfl rfl rfl
theorem CC(h:as.lookup (No "dim")=none):ag c (d+3) (A 21) [.w 0] (OV 0 k its as lo) (.r (.t (fH (as.lookup ah))) (OV 0 k its as lo)):=by
 exists ae P 21 (by ac_rfl) Kj rfl ?_;exists oK P rfl cK ?_;exists iE (nr k (by ac_rfl)) ?_;exists oK P rfl cK ?_;exists iE (nr k (by ac_rfl)) ?_;rcases as with _ | ⟨e,r⟩
 ·exists .r [0,1] rfl rfl rfl (CB P (its:=its) (as:=[]) h) ?_;exists .r [0,1] rfl rfl rfl (wE P (its:=its) (as:=[])) ?_;exact .k [] rfl rfl rfl rfl
 ·exists .r [0,1,2] rfl rfl rfl (CB P (its:=its) (as:=e::r) h) ?_;exists .r [0,1,2] rfl rfl rfl (wE P (its:=its) (as:=e::r)) ?_;generalize (e::r).lookup ah=o
  induction o using Option.casesOn with
  | none=>
   symm;exact .k [] rfl rfl rfl rfl
  | some ts=>
   symm;exists aI P ?_;exists .list rfl ?_;exact .t rfl rfl rfl rfl
end
end
section
noncomputable def aD(p w:PV)(sp:List (Option Nat))(added:Option Tx):PV:=
 bif sp.isEmpty then ⟨eA p.kind w.kind,p.items.map (aB p.kind (eA p.kind w.kind)),p.attrs⟩ else dW (eA p.kind w.kind) (p.items.map (aB p.kind (eA p.kind w.kind))) p.attrs sp added (w.items.map (aB w.kind (eA p.kind w.kind)))
noncomputable def bA(w:PV)(sp:List (Option Nat)):List T:=bif sp.isEmpty then [] else dJ sp.length w.items.length
inductive ip where
 | err(m:Str) | nul | vec (p:PV)
noncomputable def ip.ctorIdx(x:ip):Nat:=x.casesOn (fun ζ=>0) 1 fun ζ=>2
noncomputable def cf(p w:PV)(sp:List (Option Nat))(added:Option Tx):ip:=
 bif decide (1<w.items.length)&&sp.any (·.isNone) then .err zP else bif !sp.isEmpty&&w.items.isEmpty then .err fT else .vec (aD p w sp added)
noncomputable def fF(p w:PV)(sp:List (Option Nat)):List T:=
 bif decide (1<w.items.length)&&sp.any (·.isNone) then [] else bif !sp.isEmpty&&w.items.isEmpty then [] else bA w sp
noncomputable def mT(ns:List T):ip→Rq
 | .err m=>.e m [.l ns]
 | .nul=>.r (.t (nT CN aO)) [.l ns]
 | .vec p=>.r (.t (pT p)) [.l ns]
structure bU(N:Nat)(p:PV):Prop where
 at_:b9 p.attrs
 nm:∀ns,p.attrs.lookup ah=some ns→ns.length=p.items.length
 it:∀x∈p.items,ej p.kind x
 ln:p.items.length≤N
theorem vI(k k':Kd):k.rank≤(eA k k').rank:=by induction k<;>induction k'<;>exact NJ rfl
theorem vH(k k':Kd):k'.rank≤(eA k k').rank:=by induction k<;>induction k'<;>exact NJ rfl
theorem Fj{α:Type}(l:List α):l.isEmpty=decide ((l.length:Int)=0):=by induction l using List.casesOn<;>rfl
section
variable{c:Cx}{d:Nat}(P:PF c){p w:PV}{sp:List (Option Nat)}{added:Option Tx}{ns:List T}
theorem mW(lo:Bool):xh ns (eA p.kind w.kind) (p.items.map (aB p.kind (eA p.kind w.kind))) p.attrs lo sp added w=.l (ns++bA w sp)::OV 1 (aD p w sp added).kind (aD p w sp added).items (aD p w sp added).attrs lo:=by
 unfold xh aD bA
 induction sp.isEmpty
 ·rfl
 ·show _=WO.l (ns++[])::_;rw[Nr];rfl
include P
theorem C3(op:bU 900 p)(ow:bU 900 w)(hc:cnt 0 sp≤1000)(hs:sp.length≤1000)(hA:∀ns,added=some ns→ns.length≤1000)(hn:ns.length≤1000):ag c (d+15) (A 108) [.t (pT p),.t (.list (sp.map cL)),.t (fH added),.t (pT w),.w 0] [.l ns] (mT (ns++fF p w sp) (cf p w sp added)):=by
 exists ae P 108 (by ac_rfl) Ce rfl ?_;exists .r [] rfl rfl rfl (CD P op.at_.dim) ?_;exists .r [] rfl rfl rfl (H8 P) ?_;have h5:=C5 P (c:=c) (d:=d+11) (k:=w.kind) (lo:=false) (sp:=sp) (its:=w.items.map xT) (at_:=iG w.attrs);unfold fF cf;rw[Nq]at h5;refine aG (o:=decide (1<w.items.length)&&sp.any (·.isNone)) (fun e1=>?_) (fun e1=>?_)
 ·replace h5:=(e1)▸h5;refine aG (o:=!sp.isEmpty&&w.items.isEmpty) (fun e2=>?_) (fun e2=>?_)
  ·exists .r [] rfl rfl rfl h5 ?_;exists .r [] rfl rfl rfl (C7 P) ?_;exists .len rfl ?_;have hz:sp≠[]→w.items≠[]:=fun h1 h2=>by
    rw[h2,show sp.isEmpty=false by induction sp<;>first | rfl | exact absurd rfl h1]at e2
    exact NG e2
   have fin:∀{Q:UQ}{v0},(∀L,Q (.ret (.w 1)) L [] (.l (ns++bA w sp)::OV 1 (aD p w sp added).kind (aD p w sp added).items (aD p w sp added).attrs false))→K2 c false (d+14) Q _ [] [some v0,_,_,_,_,_,_,_,_,_] [] _ _:=fun h=>x9 P (its:=p.items.map (aB p.kind (eA p.kind w.kind))) (as:=p.attrs) ow.it (vH _ _) (Np ow.ln (by decide)) ow.at_.dim hz (by rw[Nq];exact Np op.ln (by decide)) hc hs op.at_ (fun ns h=>by rw[op.nm ns h];exact Np op.ln (by decide)) hA hn (fun L=>by rw[mW];exact h L);exists aC (fun h=>?_) fun h=>?_
   ·exists aI P ?_;exists .len rfl ?_;exists iE (Ny fun h2=>hz (fun w=>by rw[w]at h;cases h) (List.map_eq_nil_iff.mp (List.length_eq_zero_iff.mp (Int.ofNat_eq_zero.mp h2)))) ?_;refine vg rfl (C9 P op.it (vI _ _) (Np op.ln (by decide)) op.at_.dim) ?_;exact fin fun L=>yJ
   ·symm;refine vg rfl (C9 P op.it (vI _ _) (Np op.ln (by decide)) op.at_.dim) ?_;exact fin fun L=>yJ
  ·exists .r [] rfl rfl rfl h5 ?_;exists .r [] rfl rfl rfl (C7 P) ?_;exists .len rfl ?_;have h6:=Bool.and_eq_true_iff.mp e2;exists xA (NF ?_) ?_
   ·rcases sp with _ | _
    ·exact NG h6.1
    ·exact Int.natCast_pos.mpr (Sf _)
   exists aI P ?_;exists .len rfl ?_;exists xA (NF ?_) ?_
   ·rw[List.isEmpty_iff.mp h6.2];rfl
   exact .mk rfl rfl (Nw (fun l=>Rq.e fT [.l l]) (Nr ns))
 ·replace h5:=(e1)▸h5;exists .e [] rfl rfl rfl h5 ?_;exact .mk rfl rfl (Nw (fun l=>Rq.e zP [.l l]) (Nr ns))
end
end
section
section
variable{c:Cx}{d:Nat}(P:PF c){p w:PV}{sp:List (Option Nat)}{added:Option Tx}{ns:List T}
theorem pE{K:KU}{E:Str→UW→Prop}{a:Addr}{k k2:Kd}{its its2:List X}{as as2:List (Str×Tx)}{lo lo2:Bool}{ns ns2:List T}{vs vs1:List UV}{d:Nat}(hp:∀js W,aS (0::1::2::js) vs W=some (vs1,W))(ha:as2=[]→as=[])(h:ag c d a vs1 (.l ns::OV 1 k its as lo) (.r (.w 1) (.l ns2::OV 1 k2 its2 as2 lo2)))(q:K (.w 1) (.l ns2::OV 1 k2 its2 as2 lo2)):iH c d (.l ns::OV 1 k its as lo) K E a vs:=by
 induction as using List.casesOn with
 | nil=>
  induction as2 using List.casesOn with
  | nil=>exact .r [0,1,2] rfl (hp _ _) rfl h q
  | cons=>exact .r [0,1,2] rfl (hp _ _) rfl h q
 | cons=>
  induction as2 using List.casesOn with
  | nil=>cases ha rfl
  | cons=>exact .r [0,1,2,3] rfl (hp _ _) rfl h q
theorem dH(h:(aD p w sp added).attrs=[]):p.attrs=[]:=by
 unfold aD at h;refine aG (o:=sp.isEmpty) (fun e=>?_) (fun e=>?_)<;>rw[e]at h
 ·exact qn h
 ·exact h
include P
theorem C1(op:bU 900 p)(ow:bU 900 w)(hc:cnt 0 sp≤1000)(hs:sp.length≤1000)(hA:∀ns,added=some ns→ns.length≤1000)(hn:ns.length≤1000)(hk:eA p.kind w.kind=p.kind)
  (e1:(decide (1<w.items.length)&&sp.any (·.isNone))=false) (e2:(!sp.isEmpty&&w.items.isEmpty)=false):ag c (d+15) (A 108) [.w 1,.t (.list (sp.map cL)),.t (fH added),.t (pT w),.w 0] (.l ns::OV 1 p.kind p.items p.attrs true) (.r (.w 1) (.l (ns++bA w sp)::OV 1 (aD p w sp added).kind (aD p w sp added).items (aD p w sp added).attrs true)):=by
 exists ae P 108 (by ac_rfl) Ce rfl ?_;exists g8 (fun ζ ζ=>rfl) id (CC P op.at_.dim) ?_;exists g8 (fun ζ ζ=>rfl) id (C8 P) ?_;have h5:=C5 P (c:=c) (d:=d+11) (k:=w.kind) (lo:=false) (sp:=sp) (its:=w.items.map xT) (at_:=iG w.attrs);rw[Nq,e1]at h5;exists lc rfl h5 ?_;exists g8 (fun ζ ζ=>rfl) id (C6 P) ?_;exists .len rfl ?_;have hz:sp≠[]→w.items≠[]:=fun h1 h2=>by
  rw[h2,show sp.isEmpty=false by induction sp using List.casesOn<;>first | rfl | exact absurd rfl h1]at e2
  injection e2
 have fin:∀{Q:UQ}{v0},(∀L,Q (.ret (.w 1)) L [] (.l (ns++bA w sp)::OV 1 (aD p w sp added).kind (aD p w sp added).items (aD p w sp added).attrs true))→K2 c false (d+14) Q _ [] [some v0,_,_,_,_,_,_,_,_,_] [] (.w 1) (.l ns::OV 1 p.kind p.items p.attrs true):=fun h=>x9 P (to:=p.kind) ow.it (hk▸vH p.kind w.kind) (Np ow.ln (by decide)) ow.at_.dim hz (Np op.ln (by decide)) hc hs op.at_ (fun ns h=>by rw[op.nm ns h];exact Np op.ln (by decide)) hA hn (fun L=>by have e:=mW (p:=p) (w:=w) (sp:=sp) (added:=added) (ns:=ns) true;rw[hk,jl]at e;rw[e];exact h L);rw[hk];exists aC (fun h=>?_) fun h=>?_
 ·exists aI P ?_;exists .len rfl ?_;exists iE (Ny fun h2=>hz (fun w=>by rw[w]at h;cases h) (List.map_eq_nil_iff.mp (List.length_eq_zero_iff.mp (Int.ofNat_eq_zero.mp h2)))) ?_;refine pE (fun ζ ζ=>rfl) id (yb P) ?_;exact fin fun L=>uX (ns:=ns) dH
 ·symm;refine pE (fun ζ ζ=>rfl) id (yb P) ?_;exact fin fun L=>uX (ns:=ns) dH
end
end
section
theorem eO{sp:List (Option Nat)}{N:Nat} : ∀n,n≤N→(∀j,some j∈sp→j<N)→cnt n sp≤N:=by
 induction sp with
 | nil=>exact fun n h ζ=>h
 | cons o r ih=>
  intro n h hj;refine ih _ ?_ fun j h=>hj j (.tail _ h)
  induction o with
  | none=>exact h
  | some i=>exact Nat.max_le.mpr ⟨h,hj i (.head _)⟩
structure Gl(N:Nat)(sp:List (Option Nat))(ad:Option Tx):Prop where
 j:∀j,some j∈sp→j<N
 l:sp.length≤N
 a:∀ts,ad=some ts→ts.length≤9
theorem AB{all:Tx}{s:Str}{i:Nat}(h:ft all s=some i):i<all.length:=by
 unfold ft at h;refine aG (o:=decide (s=No "")) (fun e=>?_) (fun e=>?_)<;>rw[e]at h
 ·exact (List.findIdx?_eq_some_iff_getElem.mp h).1
 ·exact ac h
structure K8(all ts:Tx)(r:List (Option Nat)×Tx):Prop where
 j:∀j,some j∈r.1→j<all.length+ts.length
 l:r.1.length=ts.length
 e:∃ad:Tx,r.2=all++ad∧ad.length≤ts.length
theorem u7:∀(ts all:Tx),K8 all ts (bf all ts)
 | [],all=>⟨fun ζ h=>absurd h Oo,rfl,[],(Nr all).symm,Oe _⟩
 | t::ts,all=>by
  show K8 all (t::ts) (match t.bind (ft all) with | some i=>(some i::(bf all ts).1,(bf all ts).2) | none=>(some all.length::(bf (all++[t]) ts).1,(bf (all++[t]) ts).2));refine eQ (o:=t.bind (ft all)) (fun i e=>?_) (fun e=>?_)
  ·
   have ih:=u7 ts all;have hi:i<all.length:=by
    induction t with
    | none=>exact ac e
    | some s=>exact AB e
   refine ⟨fun j h=>?_,Nw (· + 1) ih.l,?_⟩
   ·cases h with
    | head=>exact N2 hi (NS ..)
    | tail _ h=>exact Nat.lt_succ_of_lt (ih.j j h)
   ·obtain ⟨ad,h1,h2⟩:=ih.e;exact ⟨ad,h1,PH h2⟩
  ·
   have ih:=u7 ts (all++[t]);refine ⟨fun j h=>?_,Nw (· + 1) ih.l,?_⟩
   ·cases h with
    | head=>exact S9 (Sf _)
    | tail _ h=>exact (show (all++[t]).length+ts.length=all.length+(t::ts).length from by rw[NH,OU,O6 [t].length];rfl)▸ih.j j h
   ·obtain ⟨ad,h1,h2⟩:=ih.e;exact ⟨t::ad,h1.trans (Om ..),QX h2⟩
theorem pv{α β:Type}(g:α→Option β)(l:List α):(l.filterMap g).length≤l.length:=QD ..
theorem jG{ix:Ix}{n:Nat}{names:Option Tx}{sp ad}(hi:dI ix)(hl:∀ts,names=some ts→ts.length=n)(h:dD ix n names=.ok sp ad):Gl (n+100) sp ad:=by
 have mk:∀{sp':List (Option Nat)},(∀j,some j∈sp'→j<n+100)→sp'.length≤n+100→pR.ok sp' none=.ok sp ad→Gl (n+100) sp ad:=fun h1 h2 e=>by
  injection e with e1 e2;subst e1 e2;exact ⟨h1,h2,fun ζ h=>by exact ac h⟩
 have rg:∀{m:Nat}{j},j∈Ou m→j<m:=fun h=>List.mem_range.mp h
 induction ix with
 | missing=>
  refine mk (fun j h=>?_) (by rw[Nq,OC];exact NS ..) h;obtain ⟨i,hi,e⟩:=List.mem_map.mp h;injection e with e;subst e;exact N2 (rg hi) (NS ..)
 | null=>exact mk (fun ζ h=>absurd h Oo) (Ol _) h
 | vec k is=>
  obtain ⟨h1,h2,h3⟩:=hi;have h9:∀{m},m≤is.length→m≤n+100:=fun h=>Np h (Np h1 (Np (by decide:9≤100) (Rm ..)));have num:(∀s∈is,∀i,bo s=some i→i≤100)→bp (is.map bo) n=.ok sp ad→Gl (n+100) sp ad:=fun hb h=>by
   unfold bp at h;refine aG (o:=(is.map bo).any c6) (fun e=>?_) (fun e=>?_)<;>replace h:=(e)▸h
   ·refine mk (fun j hj=>?_) (h9 (Np (pv ..) (NL (Nq _)))) h;obtain ⟨o,ho,e⟩:=List.mem_filterMap.mp hj;obtain ⟨s,hs,rfl⟩:=List.mem_map.mp ho;refine ay (o:=bo s) (fun hq=>?_) (fun i hq=>?_)
    ·replace e:=(hq)▸e;cases e
    ·
     have hb:=hb s hs i hq;replace e:=(hq)▸e;have e:(if 0<i then some (some (i-1).toNat) else none)=some (some j):=e;by_cases w:0<i
     ·exact Option.some.inj (Option.some.inj ((if_pos w).symm.trans e))▸Lg w hb
     ·exact ac ((if_neg w).symm.trans e)
   ·refine aG (o:=(is.map bo).any (·.isNone)) (fun e2=>?_) (fun e2=>?_)<;>replace h:=(e2)▸h
    ·refine aG (o:=(is.map bo).any gA) (fun e3=>?_) (fun e3=>?_)<;>replace h:=(e3)▸h
     ·refine mk (fun j hj=>?_) (Np (pv ..) (by rw[OC];exact NS ..)) h;obtain ⟨i,hi,e⟩:=List.mem_filterMap.mp hj;split at e
      ·exact ac e
      ·injection e with e;injection e with e;subst e;exact N2 (rg hi) (NS ..)
     ·injection h
    ·injection h
  induction k with
  | ls=>injection h
  | lg=>
   have hm:max n is.length≤n+100:=Nat.max_le.mpr ⟨NS ..,h9 (Oe _)⟩;refine mk (fun j hj=>?_) ?_ h
   ·unfold gy at hj;refine aG (o:=is.isEmpty) (fun e=>?_) (fun e=>?_)<;>replace hj:=(e)▸hj
    ·obtain ⟨i,hi,e⟩:=List.mem_filterMap.mp hj;have:i=j:=by
      unfold iC at e;generalize is[i % is.length]? = o at e;rcases o with _ | s
      ·cases e
      ·
       induction s with
       | int z=>
        have e:(if z=0 then none else some (some i))=some (some j):=e;split at e<;>cases e;rfl
       | _=>cases e
     exact this▸N2 (rg hi) hm
    ·cases hj
   ·unfold gy
    induction is.isEmpty
    ·exact Np (pv ..) (by rw[OC];exact hm)
    ·exact Ol _
  | ch=>
   have q:=u7 (is.map gM) (bB n names);have nl:(bB n names).length=n:=by
    unfold bB
    induction names using Option.casesOn with
    | none=>exact Od
    | some ts=>exact hl _ rfl
   have h9':n+(is.map gM).length≤n+100:=by rw[Nq];exact Oz (Np h1 (by decide)) n
   refine Nz (q.e) fun a zz=>NO (fun e1 e2=>?_) (zz);injection h with w1 w2;subst w1 w2;refine ⟨fun j h=>N2 (q.j j h) (by rw[nl];exact h9'),by rw[q.l];exact Np (Rm _ n) h9',fun ts h=>?_⟩;injection h with h;subst h;rw[e1,show (bB n names++a).drop n=a from (Nw (List.drop · (bB n names++a)) nl.symm).trans (SK ..)];exact Np e2 (by rw[Nq];exact h1)
  | it=>
   refine num (fun s hs i e=>?_) h;have:=h2 s hs;cases s with
   | na=>cases e
   | int z=>injection e with e;subst e;exact this.2
   | _=>exact this.elim
  | db=>
   refine num (fun s hs i e=>?_) h;have:=h2 s hs;cases s with
   | na=>cases e
   | q a b=>
    obtain ⟨b0,b1,b2,b3⟩:=this;have e:(if b=0 then none else some (if 0≤a then a / b else -(-a / b)))=some i:=e;by_cases w:b=0
    ·exact ac ((if_pos w).symm.trans e)
    ·rw[← Option.some.inj ((if_neg w).symm.trans e)];by_cases w:0≤a
     ·rw[if_pos w];exact NC (Int.ediv_le_self _ w) b3
     ·rw[if_neg w];exact NC (QG (SA (S0 (OM (Int.not_le.mp w))) b0)) (by decide)
   | _=>exact this.elim
end
section
theorem vP:aX 109=⟨[some 0,some 1,some 2,some 3,none,none,none],[],[],.loc 0<|.att "kind"<|.cst (.str "NULL")<|.cmp .Eq<|.ite (.glo (.fn 12)<|.loc 2<|.cal 1<|.cst (.int 0)<|.cmp .Eq<|.ite (.loc 0<|.rtn) (.fin)<|.cst (.str "list")<|.put 4<|.glo (.fn 13)<|.loc 2<|.cal 1<|.ite (.glo (.fn 95)<|.loc 2<|.att "kind"<|.cal 1<|.put 4<|.fin) (.fin)<|.glo (.cls 113)<|.loc 4<|.lst 0<|.cal 2<|.put 0<|.fin) (.fin)<|.glo (.fn 84)<|.loc 1<|.glo (.bi "len")<|.loc 0<|.att "items"<|.cal 1<|.glo (.fn 21)<|.loc 0<|.cal 1<|.cst (.bool true)<|.cal 4<|.unp 2<|.put 5<|.put 6<|.loc 2<|.att "kind"<|.cst (.str "NULL")<|.cmp .Eq<|.ite (.glo (.fn 93)<|.loc 0<|.att "kind"<|.cal 1<|.ite (.glo (.fn 107)<|.loc 0<|.loc 5<|.cal 2<|.rtn) (.fin)<|.glo (.bi "len")<|.loc 5<|.cal 1<|.cst (.int 0)<|.cmp .Gt<|.ite (.cst (.str "replacement has length zero")<|.rse) (.fin)<|.loc 0<|.rtn) (.fin)<|.glo (.fn 108)<|.loc 0<|.loc 5<|.loc 6<|.loc 2<|.loc 3<|.cal 5<|.rtn⟩:=by ac_rfl
noncomputable def pA(p:PV)(sp:List (Option Nat)):PV:=⟨p.kind,AK p.items sp,gX p.items.length sp p.attrs⟩
noncomputable def eE(p:PV)(val:Option PV):pR→ip
 | .err m=>.err m
 | .ok sp ad=>match val with
  | none=>bif p.kind.isL then .vec (pA p sp) else bif sp.isEmpty then .vec p else .err fT
  | some w=>cf p w sp ad
noncomputable def f8(p:PV)(val:Option PV):pR→List T
 | .err _=>[]
 | .ok sp _=>match val with
  | none=>[]
  | some w=>fF p w sp
noncomputable def eL(p:PV)(ix:Ix):pR:=dD ix p.items.length (p.attrs.lookup ah)
noncomputable def ek(w:PV):PV:=⟨w.kind,[],[]⟩
noncomputable def dh(v:Option PV)(ix:Ix)(val:Option PV):ip:=match v,val with
 | some p,val=>eE p val (eL p ix)
 | none,none=>.nul
 | none,some w=>bif w.items.isEmpty then .nul else eE (ek w) (some w) (eL (ek w) ix)
noncomputable def fE(v:Option PV)(ix:Ix)(val:Option PV):List T:=match v,val with
 | some p,val=>f8 p val (eL p ix)
 | none,none=>[]
 | none,some w=>bif w.items.isEmpty then [] else f8 (ek w) (some w) (eL (ek w) ix)
theorem pe(w:PV){N:Nat} : bU N (ek w):=⟨.z,fun ζ h=>ac h,fun ζ h=>absurd h Oo,Ol _⟩
section
theorem pX{c:Cx}{d:Nat}{m:Bool}{D:Nat}{L:UL}{ns ns2:List T}{r:ip}{a:Addr}{vs vs1:List UV}{Z:UW}{Q:UQ}(hp:aS [0] vs (.l ns::Z)=some (vs1,.l ns::Z))(h:ag c d a vs1 [.l ns] (mT ns2 r))(hr:∀v L W,gK 1 (Eq (mT ns2 r)) v W→Q (.ret v) L [] W)(he:∀m L W,Bc 1 (Eq (mT ns2 r)) m W→Q (.exc m) L [] W):iH c d (.l ns::Z) (K2 c m D Q .rtn [] L []) (Kx Q L []) a vs:=by
 induction r using ip.casesOn with
 | err m=>exact .e [0] rfl hp rfl h (he _ _ _ (.mk rfl rfl rfl))
 | nul=>exact .r [0] rfl hp rfl h (hr _ _ _ (.k [] rfl rfl rfl rfl))
 | vec p=>exact .r [0] rfl hp rfl h (hr _ _ _ (.k [] rfl rfl rfl rfl))
variable{c:Cx}{d:Nat}(P:PF c){p:PV}{ix:Ix}{val:Option PV}{ns:List T}
include P
theorem C0{v:Option PV}(ov:∀p,v=some p→bU 800 p)(oi:dI ix)(ow:∀p,val=some p→bU 800 p)(hn:ns.length≤1000):ag c (d+17) (A 109) [.t (fA v),.t (fR ix),.t (fA val),.w 0] [.l ns] (mT (ns++fE v ix val) (dh v ix val)):=by
 induction v using Option.casesOn with
 | some p=>
  have op:=ov p rfl;show ag _ _ _ _ _ (mT (ns++f8 p val (dD ix p.items.length (p.attrs.lookup ah))) (eE p val (dD ix p.items.length (p.attrs.lookup ah))));exists ae P 109 (by ac_rfl) vP rfl ?_;have h84:=HG P (d:=d+12) oi (Np op.ln (by decide)) op.nm;exists aK P ?_;exists iE (nr _ (by ac_rfl)) ?_;exists aI P ?_;exists .len rfl ?_;rw[Nq];exists .r [] rfl rfl rfl (CD P op.at_.dim) ?_;cases hq:dD ix p.items.length (p.attrs.lookup ah) with
  | err m=>
   rw[hq]at h84;exists .e [] rfl rfl rfl h84 ?_;exact .mk rfl rfl (Nw (fun l=>Rq.e m [.l l]) (Nr ns))
  | ok sp ad=>
   rw[hq]at h84;have hd:=jG oi op.nm hq;have hN:p.items.length+100≤900:=Ob op.ln 100;exists .r [] rfl rfl rfl h84 ?_
   induction val using Option.casesOn with
   | some w=>
    have op2:bU 900 p:=⟨op.at_,op.nm,op.it,Np op.ln (by decide)⟩;have ow:=ow w rfl;have ow2:bU 900 w:=⟨ow.at_,ow.nm,ow.it,Np ow.ln (by decide)⟩;have h108:=C3 P (d:=d+1) (added:=ad) op2 ow2 (eO 0 (Ol _) fun j h=>N2 (hd.j j h) (Np hN (by decide))) (Np hd.l (Np hN (by decide))) (fun ts h=>Np (hd.a ts h) (by decide)) hn;exists aK P ?_;exists iE (nr _ (by ac_rfl)) ?_;exact pX rfl h108 (fun ζ ζ ζ h=>h) (fun ζ ζ ζ h=>h)
   | none=>
    exists nK P ?_;exists aK P ?_;exists .r [] rfl rfl rfl (GG P) ?_;exists eU (fun w=>?_) fun w=>?_
    ·exists .r [] rfl rfl rfl (H5 P op.at_ op.nm (Np op.ln (by decide)) (eO 0 (Ol _) fun j h=>N2 (hd.j j h) (Np hN (by decide))) (Np hd.l (Np hN (by decide)))) ?_;rw[show eE p none (.ok sp ad)=.vec (pA p sp) by unfold eE;rw[w];rfl,show ns++f8 p none (.ok sp ad)=ns from Nr ns];exact .k [] rfl rfl rfl rfl
    ·rw[show ns++f8 p none (.ok sp ad)=ns from Nr ns,show eE p none (.ok sp ad)=bif sp.isEmpty then .vec p else .err fT by unfold eE;rw[w];rfl];symm;exists .len rfl ?_
     induction sp using List.casesOn with
     | nil=>
      symm;exact .k [] rfl rfl rfl rfl
     | cons o r=>
      exists xA (NF (Int.natCast_pos.mpr (Sf _))) ?_;exact .mk rfl rfl rfl
 | none=>
  induction val using Option.casesOn with
  | none=>
   exists ae P 109 (by ac_rfl) vP rfl ?_;exists nK P ?_;exists .r [] rfl rfl rfl (KA P none) ?_;exact .k [] rfl rfl rfl (Nw (fun l=>Rq.r (.t (nT CN aO)) [.l l]) (Nr ns).symm).symm
  | some w=>
   show ag _ _ _ _ _ (mT (ns++bif w.items.isEmpty then [] else f8 (ek w) (some w) (dD ix 0 none)) (bif w.items.isEmpty then .nul else eE (ek w) (some w) (dD ix 0 none)));rw[Fj];exists ae P 109 (by ac_rfl) vP rfl ?_;exists nK P ?_;exists .r [] rfl rfl rfl (KA P (some w)) ?_;show fO (decide ((w.items.length:Int)=0)) _ _;refine aG (o:=decide ((w.items.length:Int)=0)) (fun he=>?_) (fun he=>?_)
   ·symm;exists .r [] rfl rfl rfl (wF P) ?_;exists aK P ?_;exists .r [] rfl rfl rfl (Cy P) ?_;exists .v2 rfl rfl ?_;exists oI P rfl rfl ?_;exists .len rfl ?_;exists .r [] rfl rfl rfl (CD P (k:=w.kind) (as:=[]) rfl) ?_;have h84:=HG P (d:=d+12) (n:=0) (names:=none) oi (Ol _) (fun ζ h=>(NN _ h.symm).elim);cases hq:dD ix 0 none with
    | err m=>
     rw[hq]at h84;exists .e [] rfl rfl rfl h84 ?_;exact .mk rfl rfl (Nw (fun l=>Rq.e m [.l l]) (Nr ns))
    | ok sp ad=>
     rw[hq]at h84;have hd:=jG (n:=0) (names:=none) oi (fun ζ h=>(NN _ h.symm).elim) hq;exists .r [] rfl rfl rfl h84 ?_;have ow:=ow w rfl;have ow2:bU 900 w:=⟨ow.at_,ow.nm,ow.it,Np ow.ln (by decide)⟩;have h108:=C3 P (d:=d+1) (added:=ad) (ns:=ns) (pe w) ow2 (eO 0 (Ol _) fun j h=>N2 (hd.j j h) (by decide)) (Np hd.l (by decide)) (fun ts h=>Np (hd.a ts h) (by decide)) hn;exists aK P ?_;exists iE (nr _ (by ac_rfl)) ?_;exact pX rfl h108 (fun ζ ζ ζ h=>h) (fun ζ ζ ζ h=>h)
   ·symm;exact .k [] rfl rfl rfl (Nw (fun l=>Rq.r (.t (nT CN aO)) [.l l]) (Nr ns).symm).symm
end
end
section
theorem Hu:aX 113=⟨[some 0,some 1,some 2,some 3,none,none],[],[],.loc 0<|.att "kind"<|.cst (.str "language")<|.cmp .Eq<|.ite (.bad) (.fin)<|.loc 0<|.att "kind"<|.cst (.str "NULL")<|.cmp .NotEq<|.and (.glo (.fn 13)<|.loc 0<|.cal 1<|.not<|.fin)<|.ite (.bad) (.fin)<|.glo (.bi "len")<|.loc 1<|.cal 1<|.cst (.int 0)<|.cmp .Eq<|.ite (.glo (.fn 109)<|.loc 0<|.glo (.fn 10)<|.cal 0<|.loc 2<|.loc 3<|.cal 4<|.rtn) (.fin)<|.glo (.bi "len")<|.loc 1<|.cal 1<|.cst (.int 1)<|.cmp .Eq<|.ite (.glo (.fn 22)<|.loc 0<|.cal 1<|.put 4<|.glo (.fn 90)<|.loc 1<|.cst (.int 0)<|.sub<|.loc 4<|.glo (.fn 23)<|.loc 0<|.cal 1<|.cal 3<|.put 5<|.loc 5<|.cst .none<|.cmp .IsNot<|.and (.loc 2<|.att "kind"<|.cst (.str "NULL")<|.cmp .NotEq<|.fin)<|.ite (.glo (.fn 108)<|.loc 0<|.loc 5<|.cst .none<|.loc 2<|.loc 3<|.cal 5<|.rtn) (.fin)<|.glo (.fn 109)<|.loc 0<|.loc 1<|.cst (.int 0)<|.sub<|.loc 2<|.loc 3<|.cal 4<|.rtn) (.fin)<|.glo (.fn 22)<|.loc 0<|.cal 1<|.put 4<|.loc 4<|.cst .none<|.cmp .Is<|.or (.glo (.bi "len")<|.loc 4<|.cal 1<|.glo (.bi "len")<|.loc 1<|.cal 1<|.cmp .NotEq<|.fin)<|.ite (.cst (.str "incorrect number of subscripts")<|.rse) (.fin)<|.bad⟩:=by ac_rfl
section
variable{c:Cx}{d:Nat}(P:PF c){p w:PV}{ix:Ix}{ns:List T}{k:Str}
include P
theorem CF{n:Str} : ag c (d+1) (A 18) [.t (nT CN k),tS n] [] (.r (tv .none) []):=by
 exists ae P 18 (by ac_rfl) Hf rfl ?_;exists nA P ?_;exact .k [] rfl rfl rfl rfl
theorem HN:ag c (d+2) (A 22) [.t (nT CN k)] [] (.r (tv .none) []):=by
 exists ae P 22 (by ac_rfl) He rfl ?_;exists .r [] rfl rfl rfl (CF P) ?_;exact .k [] rfl rfl rfl rfl
theorem HM:ag c (d+2) (A 23) [.t (nT CN k)] [] (.r (tv .none) []):=by
 exists ae P 23 (by ac_rfl) Kh rfl ?_;exists .r [] rfl rfl rfl (CF P) ?_;exact .k [] rfl rfl rfl rfl
theorem H4{v val:Option PV}(ov:∀p,v=some p→bU 800 p)(oi:dI ix)(ow:∀p,val=some p→bU 800 p)(hn:ns.length≤1000):ag c (d+18) (A 113) [.t (fA v),.t (.list [fR ix]),.t (fA val),.w 0] [.l ns] (mT (ns++fE v ix val) (dh v ix val)):=by
 have h109:=C0 P (d:=d) ov oi ow hn;exists ae P 113 (by ac_rfl) Hu rfl ?_
 induction v using Option.casesOn with
 | some p=>
  exists aK P ?_;exists iE (nr _ (by ac_rfl)) ?_;exists aK P ?_;exists xA (by rw[nr _ (by ac_rfl)];rfl) ?_;exists .r [] rfl rfl rfl (wF P) ?_;exists .len rfl ?_;exists .len rfl ?_;exists .r [] rfl rfl rfl (Kz P (ov p rfl).at_.dim) ?_;exists .r [] rfl rfl rfl (My P (ov p rfl).at_.dn) ?_;exists .r [] rfl rfl rfl (Kr P) ?_;exact pX rfl h109 (fun ζ ζ ζ h=>h) (fun ζ ζ ζ h=>h)
 | none=>
  exists nK P ?_;exists nK P ?_;exists .len rfl ?_;exists .len rfl ?_;exists .r [] rfl rfl rfl (HN P) ?_;exists .r [] rfl rfl rfl (HM P) ?_;exists .r [] rfl rfl rfl (Kr P) ?_;exact pX rfl h109 (fun ζ ζ ζ h=>h) (fun ζ ζ ζ h=>h)
theorem CZ{sp:List (Option Nat)}{ad:Option Tx}(op:bU 800 p)(oi:dI ix)(ow:bU 800 w)(hn:ns.length≤1000)(hq:dD ix p.items.length (p.attrs.lookup ah)=.ok sp ad)(hk:eA p.kind w.kind=p.kind)
  (e1:(decide (1<w.items.length)&&sp.any (·.isNone))=false) (e2:(!sp.isEmpty&&w.items.isEmpty)=false):ag c (d+17) (A 109) [.w 1,.t (fR ix),.t (pT w),.w 0] (.l ns::OV 1 p.kind p.items p.attrs true) (.r (.w 1) (.l (ns++bA w sp)::OV 1 (aD p w sp ad).kind (aD p w sp ad).items (aD p w sp ad).attrs true)):=by
 have h84:=HG P (d:=d+12) oi (Np op.ln (by decide)) op.nm;rw[hq]at h84;have hd:=jG oi op.nm hq;have hN:p.items.length+100≤900:=Ob op.ln 100;have op2:bU 900 p:=⟨op.at_,op.nm,op.it,Np op.ln (by decide)⟩;have ow2:bU 900 w:=⟨ow.at_,ow.nm,ow.it,Np ow.ln (by decide)⟩;have h108:=C1 P (d:=d+1) (added:=ad) op2 ow2 (eO 0 (Ol _) fun j h=>N2 (hd.j j h) (Np hN (by decide))) (Np hd.l (Np hN (by decide))) (fun ts h=>Np (hd.a ts h) (by decide)) hn hk e1 e2;exists ae P 109 (by ac_rfl) vP rfl ?_;exists oK P rfl cK ?_;exists iE (nr _ (by ac_rfl)) ?_;exists oI P rfl cK ?_;exists .len rfl ?_;rw[Nq];exists g8 (fun ζ ζ=>rfl) id (CC P op.at_.dim) ?_;exists lc rfl h84 ?_;exists aK P ?_;exists iE (nr _ (by ac_rfl)) ?_;exists pE (fun ζ ζ=>rfl) dH h108 ?_;exact uX (ns:=ns) dH
end
end
section
theorem Ht:aX 115=⟨[some 0,none,none,none,none],[],[],.lst 0<|.put 1<|.loc 0<|.cst .none<|.cst (.int 40)<|.slc<|.for 2 (.loc 2<|.cst (.int 0)<|.cmp .GtE<|.ite (.loc 2<|.fin) (.cst (.int 7)<|.loc 2<|.bin .Sub<|.fin)<|.put 3<|.loc 1<|.mth "append"<|.loc 3<|.cst (.int 1024)<|.bin .Mod<|.cal 2<|.pop<|.loc 3<|.cst (.int 1024)<|.bin .FloorDiv<|.put 3<|.glo (.ty "range")<|.cst (.int 30)<|.cal 1<|.for 4 (.loc 3<|.cst (.int 0)<|.cmp .Gt<|.ite (.loc 1<|.mth "append"<|.loc 3<|.cst (.int 1024)<|.bin .Mod<|.cal 2<|.pop<|.loc 3<|.cst (.int 1024)<|.bin .FloorDiv<|.put 3<|.fin) (.fin)<|.fin)<|.fin)<|.loc 1<|.cst .none<|.cst (.int 160)<|.slc<|.put 1<|.loc 1<|.mth "reverse"<|.cal 1<|.pop<|.loc 1<|.rtn⟩:=by ac_rfl
theorem Cd:aX 116=⟨[some 0],[],[],.loc 0<|.lst 0<|.cmp .NotEq<|.ite (.loc 0<|.mth "pop"<|.cal 1<|.fin) (.cst (.int 0)<|.fin)<|.rtn⟩:=by ac_rfl
theorem Hs:aX 117=⟨[some 0,some 1,none,none],[],[],.glo (.bi "abs")<|.loc 0<|.cal 1<|.put 2<|.loc 1<|.put 3<|.whl (.loc 3<|.cst (.int 0)<|.cmp .Gt<|.ite (.loc 3<|.loc 2<|.loc 3<|.bin .Mod<|.tpl 2<|.unp 2<|.put 2<|.put 3<|.fin) (.brk)<|.fin)<|.loc 0<|.loc 2<|.bin .FloorDiv<|.loc 1<|.loc 2<|.bin .FloorDiv<|.tpl 2<|.rtn⟩:=by ac_rfl
theorem Hr:aX 118=⟨[some 0,none],[],[],.glo (.fn 116)<|.loc 0<|.cal 1<|.cst (.int 8)<|.bin .Mod<|.put 1<|.cst (.str "a")<|.cst (.str "b")<|.cst (.str "ab")<|.cst (.str "abc")<|.cst (.str "")<|.cst .none<|.cst (.str "c")<|.glo (.bi "chr")<|.cst (.int 97)<|.glo (.fn 116)<|.loc 0<|.cal 1<|.cst (.int 26)<|.bin .Mod<|.bin .Add<|.cal 1<|.lst 8<|.loc 1<|.sub<|.rtn⟩:=by ac_rfl
noncomputable def RW(r:List Int):WO:=.l (r.map fun i=>lI i)
theorem Da(acc:List Int)(x:Int):acc.map (fun i=>lI i)++[lI x]=(acc++[x]).map fun i=>lI i:=by
 rw[N8];rfl
inductive Dr(g:T→Prop):Rq→Prop
 | mk{t r}(h:g t):Dr g (.r (.t t) [RW r])
noncomputable def yz:Nat→List Int→Int→List Int×Int
 | 0,acc,f=>(acc,f)
 | n+1,acc,f=>bif decide (0<f) then yz n (acc++[f % 1024]) (f / 1024) else yz n acc f
noncomputable def rv(acc:List Int)(x:Int):List Int:=(yz 30 (acc++[(bif decide (0≤x) then x else 7-x) % 1024]) ((bif decide (0≤x) then x else 7-x) / 1024)).1
noncomputable def Dc(xs:List Int):List Int:=(((xs.take 40).foldl rv []).take 160).reverse
theorem qy:∀n acc f,(yz n acc f).1.length≤acc.length+n
 | 0,acc,f=>Oe _
 | n+1,acc,f=>by
  unfold yz;refine dP (o:=decide (0<f)) ?_ ?_
  ·exact PH (qy n acc f)
  ·refine Np (qy n _ _) ?_;rw[NH,OU];exact NL (Nw (acc.length + ·) (O6 1 n))
section
variable{c:Cx}{d:Nat}(P:PF c)
include P
omit P in
theorem yG{W:UW}{k:KU}{E:Str→UW→Prop}{a:Addr}{vs vs1:List UV}{W0:UW}{r:List Int}{g:T→Prop}(js:List Nat)(hn:nk js=true)(hp:aS js vs W=some (vs1,W0))(hs:bX js js W0=some [RW r])(h:de c d a vs1 [RW r] (Dr g))(kr:∀t r',g t→k (.t t) (gm js W0.length js W0 [RW r'])):iH c d W k E a vs:=
 .n js hn hp hs h (fun ζ ζ h=>by cases h with | mk h=>exact kr _ _ h) fun ζ ζ h=>by cases h
theorem H2(r:List Int):de c (d+1) (A 116) [.w 0] [RW r] (Dr fun t=>∃i,t=lI i):=by
 rcases List.eq_nil_or_concat r with rfl | ⟨r',i,rfl⟩
 ·exists ae P 116 (by ac_rfl) Cd rfl ?_;exists ng rfl rfl ?_;exact .k [] rfl rfl rfl (.mk (r:=[]) ⟨_,rfl⟩)
 ·rw[List.concat_eq_append,show RW (r'++[i])=.l (r'.map (fun i=>lI i)++[lI i]) from Nw WO.l (N8 ..)];exists ae P 116 (by ac_rfl) Cd rfl ?_;refine ng rfl rfl ?_;rw[show (r'.map (fun i=>lI i)++[lI i]).isEmpty=false by induction r'<;>rfl];symm;refine .pop rfl List.getLast?_concat ?_;rw[List.dropLast_concat];symm;exact .k [] rfl rfl rfl (.mk ⟨_,rfl⟩)
theorem bn{W:UW}{k:KU}{E:Str→UW→Prop}{vs:List UV}{W0:UW}{r:List Int}(js:List Nat)(hn:nk js=true)(hp:aS js vs W=some ([.w 0],W0))(hs:bX js js W0=some [RW r])(kr:∀i r',k (ti i) (gm js W0.length js W0 [RW r'])):iH c (d+1) W k E (A 116) vs:=
 yG js hn hp hs (H2 P r) fun _ _ ⟨_,h⟩=>h▸kr _ _
theorem H3{xs:List Int}(h:c.argXs.toList.map er=xs.map .int)(hl:xs.length≤1000):ag c (d+1) (A 115) [.v (.ref c.argA)] [] (.r (.w 0) [RW (Dc xs)]):=by
 exists ae P 115 (by ac_rfl) Ht rfl ?_;exists .arg h hl (by decide) ?_;rw[← RN,show (40:Int).toNat=40 from rfl];have hl2:(xs.take 40).length≤40:=List.length_take_le ..;unfold Dc;generalize xs.take 40=l0 at hl2 ⊢;show cu _ _ _ (l0.map fun i=>lI i) _ _ _;refine (?h:∀(l acc:List Int) z x y u,acc.length+31*l.length≤5000→l0.foldl rv []=l.foldl rv acc→cu _ _ _ (l.map fun i=>lI i) [_,some (.w 0),x,y,u] [] [RW acc,z]) l0 [] _ none none none (by rw[List.length_nil,Ot];exact Np (TK 31 hl2) (by decide)) rfl;intro l
 induction l with
 | nil=>
  intro acc z x y u hl e;have e:_=acc:=e;rw[e];symm;exists .lst rfl (by decide) ?_;rw[show (160:Int).toNat=160 from rfl,← RN];refine .reverse rfl ?_;rw[← Si];symm;exact .k [2] rfl rfl rfl rfl
 | cons x l ih=>
  intro acc z a y u hl e;rw[OY,Nat.mul_succ]at hl;symm;refine AV (V:=fun b=>ti (bif b then x else 7-x)) (fun ζ R hR=>?_) (fun ζ R hR=>?_) ?_
  ·symm;exact hR
  ·symm;exact hR
  have e:_=l.foldl rv (yz 30 (acc++[(bif decide (0≤x) then x else 7-x) % 1024]) ((bif decide (0≤x) then x else 7-x) / 1024)).1:=e;generalize (bif decide (0≤x) then x else 7-x)=g at e ⊢;symm;exists ⟨by decide,?_⟩;refine .append rfl rfl (by rw[Nq];exact Ja hl) ?_;rw[show acc.map (fun i=>lI i)++[T.leaf (V.int (g % 1024))]=(acc++[g % 1024]).map (fun i=>lI i) from Da ..];symm;exists ⟨by decide,by decide,?_⟩;refine .rng1 (by decide) (by decide) ?_;generalize hv:UV.k (.rng 0 30)=v;symm;subst hv;rw[KO];have hl3:(acc++[g % 1024]).length+(30+31*l.length)≤5000:=by rw[NH,OU,← OU [g % 1024].length 30,O6 ([g % 1024].length+30)];exact hl
  refine (?h2:∀(k:List T) (acc:List Int) f y,acc.length+(k.length+31*l.length)≤5000→l0.foldl rv []=l.foldl rv (yz k.length acc f).1→cu _ _ _ k [_,some (.w 0),some (ti x),some (ti f),y] [] [RW acc,z]) ((aW 0 30).map T.leaf) (acc++[g % 1024]) (g / 1024) u hl3 e;intro k
  induction k with
  | nil=>
   intro acc f y hl e;symm;exact ih _ _ _ _ _ (by rw[← Ot (31*l.length)];exact hl) e
  | cons t k ih2=>
   intro acc f y hl e;rw[OY]at hl e;unfold yz at e;symm;refine aC (fun w=>?_) fun w=>?_
   ·rw[NF w]at e;symm;exists ⟨by decide,?_⟩;refine .append rfl rfl (by rw[Nq];exact Ja hl) ?_;rw[show acc.map (fun i=>lI i)++[T.leaf (V.int (f % 1024))]=(acc++[f % 1024]).map (fun i=>lI i) from Da ..];symm;exists ⟨by decide,by decide,?_⟩;exact ih2 _ _ _ (by rw[NH,OU,← OU [f % 1024].length,O6 [f % 1024].length];exact hl) e
   ·rw[Ny w]at e;symm;exact ih2 _ _ _ (Np (Oz (Ob (PC _) _) _) hl) e
end
end
section
noncomputable def eu:Nat→Int→Int→Option Int
 | 0,_,_=>none
 | k+1,a,b=>bif decide (0<b) then eu k b (a % b) else some a
theorem Jn{k:Nat}{a b:Int} : eu (k+1) a b=bif decide (0<b) then eu k b (a % b) else some a:=rfl
noncomputable def mU(n m:Int):Bool:=match eu 5 n.natAbs m with
 | some g=>decide (0<g)&&decide (g<2^64)&&dom (n / g) (m / g)
 | none=>false
theorem wH:(Ou 300).all (fun i=>mU ((i:Int)-100) 1&&mU ((i:Int)-100) 2&&mU ((i:Int)-100) 4)=true:=by decide +kernel
theorem zo{n m:Int}(h : -100≤n∧n≤199)(hm:m=1∨m=2∨m=4):mU n m=true:=by
 have e:((n+100).toNat:Int)-100=n:=by rw[Pt (TA h.1 100)];exact T4 ..
 have:=aa (List.all_eq_true.mp wH (n+100).toNat (List.mem_range.mpr ((Ri (TA h.1 100)).mpr (Int.add_lt_add_right (Int.lt_add_one_of_le h.2) 100))));rw[e]at this;have g:=aa this.1;rcases hm with rfl | rfl | rfl
 ·exact g.1
 ·exact g.2
 ·exact this.2
section
variable{c:Cx}{d:Nat}(P:PF c)
include P
theorem CY{n m g:Int}(h:eu 5 n.natAbs m=some g)(h0:0<g)(h1:g<2^64):ag c (d+1) (A 117) [ti n,ti m] [] (.r (.t (.tup [lI (n / g),lI (m / g)])) []):=by
 exists ae P 117 (by ac_rfl) Hs rfl ?_;exists .abs ?_;refine ⟨5,?_⟩;refine (?h:∀(k:Nat) (a b:Int),eu k a b=some g→mJ _ _ _ k [some (ti n),some (ti m),some (ti a),some (ti b)] [] []) 5 _ _ h;intro k
 induction k with
 | zero=>intro a b e;exact ac e
 | succ k ih=>
  intro a b e;rw[Jn]at e;symm;refine aC (fun w=>?_) fun w=>?_
  ·rw[NF w]at e;symm;exists ⟨w,?_⟩;exact ih _ _ e
  ·rw[Ny w]at e;injection e with e;subst e;symm;exists ⟨h0,h1,?_⟩;exists ⟨h0,h1,?_⟩;exact .k [] rfl rfl rfl rfl
theorem HZ{n m:Int}(h : -100≤n∧n≤199)(hm:m=1∨m=2∨m=4):∃n' m',dom n' m'=true∧ag c (d+1) (A 117) [ti n,ti m] [] (.r (.t (.tup [lI n',lI m'])) []):=by
 have h:=zo h hm;unfold mU at h;refine ay (o:=eu 5 n.natAbs m) (fun e=>?_) (fun g e=>?_)
 ·rw[e]at h;exact (Nt h).elim
 ·
  rw[e]at h;have h:(decide (0<g)&&decide (g<2^64)&&dom (n / g) (m / g))=true:=h;rw[NY,NY]at h;exact ⟨_,_,h.2,CY P e (Nx h.1.1) (Nx h.1.2)⟩
end
end
section
theorem Hq:aX 119=⟨[some 0,none,none],[],[],.glo (.fn 116)<|.loc 0<|.cal 1<|.cst (.int 10)<|.bin .Mod<|.put 1<|.loc 1<|.cst (.int 0)<|.cmp .Eq<|.ite (.cst .none<|.rtn) (.fin)<|.loc 1<|.cst (.int 8)<|.cmp .Lt<|.ite (.loc 1<|.cst (.int 5)<|.cmp .Gt<|.ite (.glo (.fn 116)<|.loc 0<|.cal 1<|.cst (.int 14)<|.bin .Mod<|.cst (.int 4)<|.bin .Sub<|.fin) (.glo (.fn 116)<|.loc 0<|.cal 1<|.cst (.int 12)<|.bin .Mod<|.fin)<|.cst (.int 1)<|.tpl 2<|.rtn) (.fin)<|.loc 1<|.cst (.int 8)<|.cmp .Eq<|.ite (.cst (.int 0)<|.cst (.int 0)<|.tpl 2<|.cst (.int 1)<|.cst (.int 0)<|.tpl 2<|.cst (.int 1)<|.neg<|.cst (.int 0)<|.tpl 2<|.lst 3<|.glo (.fn 116)<|.loc 0<|.cal 1<|.cst (.int 3)<|.bin .Mod<|.sub<|.rtn) (.fin)<|.glo (.fn 116)<|.loc 0<|.cal 1<|.cst (.int 41)<|.bin .Mod<|.cst (.int 10)<|.bin .Sub<|.put 2<|.loc 2<|.cst (.int 2)<|.bin .Mod<|.cst (.int 0)<|.cmp .Eq<|.ite (.loc 2<|.cst (.int 2)<|.bin .FloorDiv<|.cst (.int 1)<|.tpl 2<|.fin) (.loc 2<|.cst (.int 2)<|.tpl 2<|.fin)<|.rtn⟩:=by ac_rfl
theorem mZ{α:Type}{g:α→T}{xs:List α}{n:Nat}(h:n<xs.length):cq (xs.map g) n=some (g xs[n]):=by rw[bM,NI h];rfl
theorem gp(i:Int){m:Int}{P:Prop}(h:0<m)(k:∀n:Nat,i % m=n→(n:Int)<m→P):P:=k (i % m).toNat (Pt (P3 _ (Qs h))).symm (by rw[Pt (P3 _ (Qs h))];exact Qw _ h)
noncomputable def G0(k:Nat):Tx:=[some (No "a"),some (No "b"),some (No "ab"),some (No "abc"),some (No ""),none,some (No "c"),some ⟨#[(97+(k:Int)).toNat]⟩]
section
variable{c:Cx}{d:Nat}(P:PF c)
include P
theorem CX(r:List Int):de c (d+2) (A 118) [.w 0] [RW r] (Dr fun t=>∃o,t=bz o):=by
 exists ae P 118 (by ac_rfl) Hr rfl ?_;exists bn P [0] rfl rfl rfl fun i r1=>?_;refine ⟨by decide,?_⟩;refine gp i (m:=8) (by decide) fun n hn hm=>?_;rw[hn];symm;exists bn P [0] rfl rfl rfl fun j r2=>?_;refine ⟨by decide,?_⟩;refine gp j (m:=26) (by decide) fun k hk hk2=>?_;rw[hk];symm;exists .chr (SN (NB k) |> NC (by decide)) (OD (TS hk2 97) (by decide)) ?_;exists fS rfl (mZ (g:=bz) (xs:=G0 k) (Int.ofNat_lt.mp hm)) ?_;exact .k [] rfl rfl rfl (.mk ⟨_,rfl⟩)
noncomputable def yh:Sc→Prop
 | .na=>True
 | .q n d=>0≤d∧d≤2∧-100≤n∧n≤100
 | _=>False
noncomputable def Bi:List Sc:=[.q 0 0,.q 1 0,.q (-1) 0]
noncomputable def Eb:Sc→Bool
 | .na=>true
 | .q n d=>decide (0≤d)&&(decide (d≤2)&&(decide (-100≤n)&&decide (n≤100)))
 | _=>false
omit P in
theorem zL{s:Sc}(h:Eb s=true):yh s:=by
 induction s using Sc.casesOn with
 | na=>exact trivial
 | q n d=>
  have h:=aa h;have g:=aa h.2;have f:=aa g.2;exact ⟨Nx h.1,Nx g.1,Nx f.1,Nx f.2⟩
 | _=>exact (Nt h).elim
omit P in
theorem zu:∀s∈Bi,yh s:=fun s h=>zL (List.all_eq_true.mp (by decide:Bi.all Eb=true) s h)
omit P in
theorem MV{x:Int}(h : -100≤x∧x≤100) : -100≤x / 2∧x / 2≤100:=⟨Int.le_ediv_of_mul_le (by decide) (NC (by decide) h.1),Int.ediv_le_of_le_mul (by decide) (NC h.2 (by decide))⟩
omit P in
theorem En{j m s lo hi:Int}(h:(decide (0<m)&&(decide (lo≤0-s)&&decide (m-1-s≤hi)))=true):lo≤j % m-s∧j % m-s≤hi:=by
 have h:=aa h;have g:=aa h.2;have h1:=Nx h.1;exact ⟨NC (Nx g.1) (Tw (P3 j (Qs h1)) s),NC (Tw (RE (Qw j h1)) s) (Nx g.2)⟩
theorem CW(r:List Int):de c (d+2) (A 119) [.w 0] [RW r] (Dr fun t=>∃s,yh s∧t=cY s):=by
 exists ae P 119 (by ac_rfl) Hq rfl ?_;exists bn P [0] rfl rfl rfl fun i r1=>?_;exists ⟨by decide,?_⟩;exists aC (fun e0=>?_) fun e0=>?_
 ·exact .k [] rfl rfl rfl (.mk ⟨.na,trivial,rfl⟩)
 exists aC (fun e1=>?_) fun e1=>?_
 ·exists aC (fun e2=>?_) fun e2=>?_
  ·exists bn P [0] rfl rfl rfl fun j r2=>?_;exists ⟨by decide,?_⟩;exact .k [] rfl rfl rfl (.mk ⟨.q (j % 14-4) 1,⟨by decide,by decide,En rfl⟩,rfl⟩)
  ·exists bn P [0] rfl rfl rfl fun j r2=>?_;exists ⟨by decide,?_⟩;exact .k [] rfl rfl rfl (.mk ⟨.q (j % 12) 1,⟨by decide,by decide,NC (by decide) (P3 j (by decide)),OM (OD (Qw j (by decide)) (by decide))⟩,rfl⟩)
 exists aC (fun e3=>?_) fun e3=>?_
 ·exists bn P [0] rfl rfl rfl fun j r2=>?_;refine ⟨by decide,?_⟩;refine gp j (m:=3) (by decide) fun k hk hk2=>?_;rw[hk];symm;have hk2:=Int.ofNat_lt.mp hk2;exists fS rfl (mZ (g:=cY) (xs:=Bi) hk2) ?_;exact .k [] rfl rfl rfl (.mk ⟨_,zu _ (OZ hk2),rfl⟩)
 exists bn P [0] rfl rfl rfl fun j r2=>?_;exists ⟨by decide,?_⟩;exists ⟨by decide,?_⟩;exists aC (fun e4=>?_) fun e4=>?_
 ·exists ⟨by decide,by decide,?_⟩;exact .k [] rfl rfl rfl (.mk ⟨.q ((j % 41-10) / 2) 1,⟨by decide,by decide,MV (En rfl)⟩,rfl⟩)
 ·exact .k [] rfl rfl rfl (.mk ⟨.q (j % 41-10) 2,⟨by decide,by decide,En rfl⟩,rfl⟩)
end
end
section
theorem Hp:aX 120=⟨[none,none,none],[some 0],["row"],.glo (.fn 116)<|.cel 0<|.cal 1<|.cst (.int 7)<|.bin .Mod<|.put 0<|.glo (.fn 116)<|.cel 0<|.cal 1<|.cst (.int 10)<|.bin .Mod<|.put 1<|.loc 0<|.cst (.int 0)<|.cmp .Eq<|.ite (.glo (.cls 84)<|.cal 0<|.rtn) (.fin)<|.loc 0<|.cst (.int 1)<|.cmp .Eq<|.ite (.glo (.cls 63)<|.cal 0<|.rtn) (.fin)<|.loc 0<|.cst (.int 2)<|.cmp .Eq<|.ite (.glo (.cls 113)<|.cst (.str "logical")<|.glo (.ty "range")<|.loc 1<|.cal 1<|.lcm 2 1 (.cst (.int 1)<|.cst (.int 0)<|.cst .none<|.lst 3<|.glo (.fn 116)<|.cel 0<|.cal 1<|.cst (.int 3)<|.bin .Mod<|.sub<|.fin)<|.cal 2<|.rtn) (.fin)<|.loc 0<|.cst (.int 3)<|.cmp .Eq<|.ite (.glo (.ty "range")<|.loc 1<|.cal 1<|.lcm 2 1 (.glo (.fn 119)<|.cel 0<|.cal 1<|.fin)<|.put 2<|.glo (.cls 113)<|.cst (.str "integer")<|.loc 2<|.lcm 2 1 (.loc 1<|.cst .none<|.cmp .Is<|.or (.loc 1<|.cst (.int 1)<|.sub<|.cst (.int 1)<|.cmp .NotEq<|.fin)<|.ite (.cst .none<|.fin) (.loc 1<|.cst (.int 0)<|.sub<|.fin)<|.fin)<|.cal 2<|.rtn) (.fin)<|.loc 0<|.cst (.int 4)<|.cmp .Eq<|.ite (.glo (.cls 113)<|.cst (.str "double")<|.glo (.ty "range")<|.loc 1<|.cal 1<|.lcm 2 1 (.glo (.fn 119)<|.cel 0<|.cal 1<|.fin)<|.cal 2<|.rtn) (.fin)<|.loc 0<|.cst (.int 5)<|.cmp .Eq<|.ite (.glo (.cls 113)<|.cst (.str "character")<|.glo (.ty "range")<|.loc 1<|.cal 1<|.lcm 2 1 (.glo (.fn 118)<|.cel 0<|.cal 1<|.fin)<|.cal 2<|.rtn) (.fin)<|.glo (.cls 113)<|.cst (.str "list")<|.lst 0<|.cal 2<|.rtn⟩:=by ac_rfl
theorem aM(W:UW)(o:WO)(r:UW):af (W++o::r) W.length=some o:=by
 induction W with
 | nil=>rfl
 | cons w W ih=>exact ih
theorem i8(W:UW)(o o':WO)(r:UW):ar (W++o::r) W.length o'=W++o'::r:=by
 induction W with
 | nil=>rfl
 | cons w W ih=>exact Nw (w :: ·) ih
noncomputable def Bg:Sc→Sc
 | .q n d=>if d=1 then .int n else .na
 | s=>s
theorem za{s:Sc}(h:yh s):cx .it (Bg s):=by
 induction s with
 | q n d=>
  show cx .it (if d=1 then .int n else .na);split
  ·exact h.2.2
  ·exact trivial
 | na=>exact trivial
 | _=>exact h.elim
noncomputable def KN:List Sc:=[.int 1,.int 0,.na]
theorem zX:∀s∈KN,cx .lg s:=fun s h=>by
 cases h with
 | head=>exact .inr rfl
 | tail _ h=>
  cases h with
  | head=>exact .inl rfl
  | tail _ h=>
   cases h with
   | head=>exact trivial
   | tail _ h=>cases h
theorem zM{s:Sc}(h:yh s):cx .db s:=by induction s<;>exact h
section
variable{c:Cx}{d:Nat}(P:PF c)
theorem yC{k:Str}{ys:List T}{r:List Int}{Z:UW} : frz ((RW r::Z++[WO.l ys])++[WO.v k (.w (RW r::Z).length) (tv .none) false]) (.w (RW r::Z++[WO.l ys]).length)=some (vT k (.list ys) lN false,RW r::ar (ar ((Z++[WO.l ys])++[WO.v k (.w (RW r::Z).length) (tv .none) false]) Z.length (.z (.list ys))) (Z++[WO.l ys]).length (.z (vT k (.list ys) lN false))):=by
 rw[vC,(aM _ _ [])];show jB _ _ _ _ _ _=_;unfold jB;rw[sz,(show af ((RW r::Z++[WO.l ys])++[WO.v k (.w (RW r::Z).length) (tv .none) false]) (RW r::Z).length=some (.l ys) from by rw[Om];exact aM (RW r::Z) _ _)];rfl
theorem iQ{k:Str}{ys:List T}{r:List Int}{Z:UW}{g:T→Prop}(h:g (vT k (.list ys) lN false)):gK 1 (Dr g) (.w (RW r::Z++[WO.l ys]).length) ((RW r::Z++[WO.l ys])++[WO.v k (.w (RW r::Z).length) (tv .none) false]):=
 .t yC rfl rfl (.mk (r:=r) h)
theorem kP{α:Type}{Φ:α→Prop}{g:α→T}{C:UL}{body:T→UL→UW→(Option T→UL→UW→Prop)→Prop}{K:List T→UL→UW→Prop}(f:∀r x Z (kk:Option T→UL→UW→Prop),(∀s r' Z',Φ s→kk (some (g s)) C (RW r'::Z'))→body x C (RW r::Z) kk){l:List T} :
  ∀{r Z ys},(∀(ss:List α) r' Z',ss.length=l.length→(∀s∈ss,Φ s)→K (ys++ss.map g) C (RW r'::Z'))→bT body K l ys C (RW r::Z):=by
 induction l with
 | nil=>
  intro r Z ys h;have h:=h [] r Z rfl fun ζ h=>absurd h Oo;rw[Pp,Nr]at h;exact h
 | cons x l ih=>
  intro r Z ys h;refine f _ _ _ _ fun s r' Z' hs=>ih fun ss r2 Z2 hl hp=>?_;have h:=h (s::ss) r2 Z2 (Nw (· + 1) hl) (List.forall_mem_cons.mpr ⟨hs,hp⟩);rw[NT,ND]at h;exact h
theorem dp{Z:UW}{ys:List T}{r:List Int} : pk (RW r::(Z++[WO.l ys])) (.w (Z.length+1))=some (.list ys):=Nw (N0 · mY) (aM Z (.l ys) [])
include P
theorem HY(r:List Int):de c (d+3) (A 120) [.w 0] [RW r] (Dr fun t=>∃ix,dI ix∧t=fR ix):=by
 exists ae P 120 (by ac_rfl) Hp rfl ?_;exists bn P [0] rfl rfl rfl fun i r1=>?_;exists ⟨by decide,?_⟩;exists bn P [0] rfl rfl rfl fun j r2=>?_;refine ⟨by decide,?_⟩;refine gp j (m:=10) (by decide) fun k hk hk2=>?_;have hr:((aW 0 k).map T.leaf).length≤9:=by rw[bv,Nq,OC];exact QF (Int.ofNat_lt.mp hk2)
 have h1 : -100000≤(k:Int):=NC (by decide) (NB k);have h2:(k:Int)≤100000:=OM (OD hk2 (by decide));rw[hk];symm;exists aC (fun e0=>?_) fun e0=>?_
 ·exists .ms rfl ?_;exact .k [] rfl rfl rfl (.mk ⟨.missing,trivial,rfl⟩)
 exists aC (fun e0=>?_) fun e0=>?_
 ·exists .nl rfl ?_;exact .k [] rfl rfl rfl (.mk ⟨.null,trivial,rfl⟩)
 exists aC (fun e0=>?_) fun e0=>?_
 ·exists .rng1 h1 h2 ?_;exists kP (Φ:=cx .lg) (g:=cY) (fun r x Z kk hk=>?_) fun ss r3 Z hl hp=>?_
  ·exists bn P [0] rfl rfl rfl fun i r'=>?_;refine ⟨by decide,?_⟩;refine gp i (m:=3) (by decide) fun m hm hm2=>?_;have hm2:=Int.ofNat_lt.mp hm2;rw[hm];symm;exists fS (by rw[Nr];exact dp) (mZ (g:=cY) (xs:=KN) hm2) ?_;exact hk _ _ _ (zX _ (OZ hm2))
  symm;exists .v2 rfl dp ?_;exact iQ ⟨.vec .lg ss,⟨hl▸hr,hp,fun h=>Kd.noConfusion h⟩,rfl⟩
 exists aC (fun e0=>?_) fun e0=>?_
 ·exists .rng1 h1 h2 ?_;exists kP (Φ:=yh) (g:=cY) (fun r x Z kk hk=>?_) fun ss r3 Z hl hp=>?_
  ·refine yG [0] rfl rfl rfl (CW P r) fun t r' h=>?_;obtain ⟨s,hs,rfl⟩:=h;symm;exact hk _ _ _ hs
  symm;rw[show af (Z++[WO.l (ss.map cY)]) Z.length=some (.l (ss.map cY)) from aM Z _ []];show bT _ _ (ss.map cY) _ _ (RW r3::ar (Z++[WO.l (ss.map cY)]) Z.length (.z (.list (ss.map cY))));rw[i8];refine (?h:∀(l:List Sc) (ys:List T),(∀s∈l,yh s)→(ss.map Bg).map cY=ys++(l.map Bg).map cY→bT _ _ (l.map cY) ys _ (RW r3::(Z++[WO.z (.list (ss.map cY))]))) ss [] hp rfl;intro l
  induction l with
  | nil=>
   intro ys _ e;have e:=e.trans (Nr ys);rw[← e];symm;exists .v2 rfl dp ?_;exact iQ ⟨.vec .it (ss.map Bg),⟨by rw[Nq];exact hl▸hr,fun s h=>by obtain ⟨o,ho,rfl⟩:=List.mem_map.mp h;exact za (hp o ho),fun h=>Kd.noConfusion h⟩,rfl⟩
  | cons s l ih=>
   intro ys ho e;have ho1:=ho s (.head _);have ih:=fun ys h=>ih ys (fun s h=>ho s (.tail _ h)) h
   induction s with
   | na=>
    symm;exact ih _ (e.trans (ND ..))
   | q a b=>
    symm;exists eU (fun w=>?_) fun w=>?_
    ·rw[NT,show Bg (.q a b)=.na from if_neg (Pb ((Oi _).mp w))]at e;exact ih _ (e.trans (ND ..))
    ·symm;rw[NT,show Bg (.q a b)=.int a from if_pos (Nx ((O7 _).mp w))]at e;exact ih _ (e.trans (ND ..))
   | _=>exact ho1.elim
 exists aC (fun e0=>?_) fun e0=>?_
 ·exists .rng1 h1 h2 ?_;exists kP (Φ:=yh) (g:=cY) (fun r x Z kk hk=>?_) fun ss r3 Z hl hp=>?_
  ·refine yG [0] rfl rfl rfl (CW P r) fun t r' h=>?_;obtain ⟨s,hs,rfl⟩:=h;symm;exact hk _ _ _ hs
  symm;exists .v2 rfl dp ?_;exact iQ ⟨.vec .db ss,⟨hl▸hr,fun s h=>zM (hp s h),fun h=>Kd.noConfusion h⟩,rfl⟩
 exists aC (fun e0=>?_) fun e0=>?_
 ·exists .rng1 h1 h2 ?_;exists kP (Φ:=fun ζ=>True) (g:=bz) (fun r x Z kk hk=>?_) fun ss r3 Z hl hp=>?_
  ·refine yG [0] rfl rfl rfl (CX P r) fun t r' h=>?_;obtain ⟨s,rfl⟩:=h;symm;exact hk _ _ _ trivial
  symm;exists .v2 rfl dp ?_;refine iQ ⟨.vec .ch (ss.map HE),⟨by rw[Nq];exact hl▸hr,fun s h=>by obtain ⟨o,_,rfl⟩:=List.mem_map.mp h;induction o<;>exact trivial,fun h=>Kd.noConfusion h⟩,?_⟩;refine Nw (fun l=>vT qR (.list l) lN false) ?_;rw[Oc];exact Oj fun o ζ=>by induction o<;>rfl
 exists .v2 rfl rfl ?_;exact .t rfl rfl rfl (.mk ⟨.vec .ls [],⟨Ol _,fun ζ h=>absurd h Oo,fun ζ=>rfl⟩,rfl⟩)
end
end
section
theorem Ho:aX 121=⟨[some 0,some 1,none,none],[],[],.lst 0<|.put 2<|.loc 1<|.for 3 (.loc 3<|.cst .none<|.cmp .Is<|.or (.loc 0<|.cst (.str "double")<|.cmp .Eq<|.and (.loc 3<|.cst (.int 1)<|.sub<|.cst (.int 0)<|.cmp .Eq<|.fin)<|.fin)<|.ite (.loc 2<|.mth "append"<|.cst .none<|.cal 2<|.pop<|.fin) (.loc 0<|.cst (.str "double")<|.cmp .Eq<|.ite (.loc 2<|.mth "append"<|.loc 3<|.cst (.int 0)<|.sub<|.cst (.int 0)<|.cmp .GtE<|.ite (.loc 3<|.cst (.int 0)<|.sub<|.loc 3<|.cst (.int 1)<|.sub<|.bin .FloorDiv<|.fin) (.loc 3<|.cst (.int 0)<|.sub<|.neg<|.loc 3<|.cst (.int 1)<|.sub<|.bin .FloorDiv<|.neg<|.fin)<|.cal 2<|.pop<|.fin) (.loc 2<|.mth "append"<|.loc 3<|.cal 2<|.pop<|.fin)<|.fin)<|.fin)<|.loc 2<|.rtn⟩:=by ac_rfl
section
variable{c:Cx}{d:Nat}(P:PF c)
include P
theorem CU{k:Kd}{is:List Sc}(hk:k=.it∨k=.db)(h:∀s∈is,cx k s)(hl:is.length≤9):ag c (d+1) (A 121) [tS k.s,.t (.list (is.map cY))] [] (.r (.t (.list ((is.map bo).map eM))) []):=by
 exists ae P 121 (by ac_rfl) Ho rfl ?_;refine (?h:∀(l:List Sc) (ys:List T) y,ys.length+l.length≤5000→(∀s∈l,cx k s)→(is.map bo).map eM=ys++(l.map bo).map eM→cu _ _ _ (l.map cY) [some (tS k.s),_,some (.w 0),y] [] [.l ys]) is [] none (Np (NL (Ot _)) (Np hl (by decide))) h rfl;clear h hl;intro l
 induction l with
 | nil=>
  intro ys y _ _ e;have e:=e.trans (Nr ys);subst e;symm;exact .t rfl rfl rfl rfl
 | cons s l ih=>
  intro ys y hl ho e;have ho1:=ho s (.head _);have ih:=fun ys y hl h=>ih ys y hl (fun s h=>ho s (.tail _ h)) h
  induction s using Sc.casesOn with
  | na=>
   symm;exists .append rfl rfl (bh hl) ?_;exact ih _ _ (cj hl) (e.trans (ND ..))
  | int i=>
   rcases hk with rfl | rfl
   ·symm;exists .append rfl rfl (bh hl) ?_;exact ih _ _ (cj hl) (e.trans (ND ..))
   ·exact ho1.elim
  | q a b=>
   rcases hk with rfl | rfl
   ·exact ho1.elim
   ·have hb1:b<2^64:=OE ho1.2.1 (by decide);symm;exists aC (fun w=>?_) fun w=>?_
    ·exists .append rfl rfl (bh hl) ?_;rw[NT,show bo (.q a b)=none from if_pos w]at e;exact ih _ _ (cj hl) (e.trans (ND ..))
    have hb0:0<b:=Int.lt_iff_le_and_ne.mpr ⟨ho1.1,Pk w⟩;symm;exists aC (fun w2=>?_) fun w2=>?_
    ·exists ⟨hb0,hb1,?_⟩;exists .append rfl rfl (bh hl) ?_;rw[NT,show bo (.q a b)=some (a / b) from (if_neg w).trans (Nw some (if_pos w2))]at e;exact ih _ _ (cj hl) (e.trans (ND ..))
    ·symm;exists ⟨hb0,hb1,?_⟩;exists .append rfl rfl (bh hl) ?_;rw[NT,show bo (.q a b)=some (-(-a / b)) from (if_neg w).trans (Nw some (if_neg w2))]at e;exact ih _ _ (cj hl) (e.trans (ND ..))
  | str s=>rcases hk with rfl | rfl<;>exact ho1.elim
end
end
section
theorem oP:aX 122=⟨[some 0,some 1,some 2,some 3,none,none,none,none,none,none,none],[none],["cuts"],.loc 0<|.att "kind"<|.put 4<|.loc 4<|.cst (.str "missing")<|.cmp .Eq<|.ite (.glo (.ty "list")<|.glo (.ty "range")<|.loc 1<|.cal 1<|.cal 1<|.cst .none<|.tpl 2<|.rtn) (.fin)<|.loc 4<|.cst (.str "NULL")<|.cmp .Eq<|.ite (.lst 0<|.cst .none<|.tpl 2<|.rtn) (.fin)<|.loc 4<|.cst (.str "list")<|.cmp .Eq<|.ite (.cst (.str "invalid subscript type 'list'")<|.rtn) (.fin)<|.loc 4<|.cst (.str "logical")<|.cmp .Eq<|.ite (.lst 0<|.put 5<|.glo (.ty "range")<|.loc 0<|.att "items"<|.lst 0<|.cmp .NotEq<|.ite (.glo (.bi "max")<|.loc 1<|.glo (.bi "len")<|.loc 0<|.att "items"<|.cal 1<|.cal 2<|.fin) (.cst (.int 0)<|.fin)<|.cal 1<|.for 6 (.loc 0<|.att "items"<|.loc 6<|.glo (.bi "len")<|.loc 0<|.att "items"<|.cal 1<|.bin .Mod<|.sub<|.put 7<|.loc 7<|.cst (.int 0)<|.cmp .NotEq<|.ite (.loc 5<|.mth "append"<|.loc 7<|.cst (.int 1)<|.cmp .Eq<|.ite (.loc 6<|.fin) (.cst .none<|.fin)<|.cal 2<|.pop<|.fin) (.fin)<|.fin)<|.loc 5<|.cst .none<|.tpl 2<|.rtn) (.fin)<|.loc 4<|.cst (.str "character")<|.cmp .Eq<|.ite (.lst 0<|.put 5<|.lst 0<|.put 8<|.loc 0<|.att "items"<|.for 7 (.loc 7<|.cst .none<|.cmp .IsNot<|.and (.loc 7<|.cst (.str "")<|.cmp .NotEq<|.fin)<|.put 9<|.loc 9<|.and (.loc 2<|.cst .none<|.cmp .IsNot<|.and (.loc 7<|.loc 2<|.cmp .In<|.fin)<|.fin)<|.ite (.loc 5<|.mth "append"<|.loc 2<|.mth "index"<|.loc 7<|.cal 2<|.cal 2<|.pop<|.fin) (.loc 3<|.not<|.ite (.loc 5<|.mth "append"<|.cst .none<|.cal 2<|.pop<|.fin) (.loc 9<|.and (.loc 7<|.loc 8<|.cmp .In<|.fin)<|.ite (.loc 5<|.mth "append"<|.loc 1<|.loc 8<|.mth "index"<|.loc 7<|.cal 2<|.bin .Add<|.cal 2<|.pop<|.fin) (.loc 5<|.mth "append"<|.loc 1<|.glo (.bi "len")<|.loc 8<|.cal 1<|.bin .Add<|.cal 2<|.pop<|.loc 8<|.mth "append"<|.loc 7<|.cal 2<|.pop<|.fin)<|.fin)<|.fin)<|.fin)<|.loc 5<|.loc 3<|.ite (.loc 8<|.fin) (.cst .none<|.fin)<|.tpl 2<|.rtn) (.fin)<|.glo (.fn 121)<|.loc 4<|.loc 0<|.att "items"<|.cal 2<|.ptc 0<|.cel 0<|.lcm 2 1 (.loc 1<|.cst .none<|.cmp .IsNot<|.and (.loc 1<|.cst (.int 0)<|.cmp .Lt<|.fin)<|.ite (.loc 1<|.fin) (.fin)<|.fin)<|.put 10<|.loc 10<|.lst 0<|.cmp .Eq<|.ite (.cel 0<|.lcm 2 1 (.loc 1<|.cst (.int 0)<|.cmp .NotEq<|.ite (.loc 1<|.cst .none<|.cmp .Is<|.ite (.cst .none<|.fin) (.loc 1<|.cst (.int 1)<|.bin .Sub<|.fin)<|.fin) (.fin)<|.fin)<|.cst .none<|.tpl 2<|.rtn) (.fin)<|.cst .none<|.cel 0<|.cmp .In<|.ite (.cst (.str "can't mix NAs with negative subscripts")<|.rtn) (.fin)<|.glo (.bi "max")<|.cel 0<|.cal 1<|.cst (.int 0)<|.cmp .Gt<|.ite (.cst (.str "can't mix positive and negative subscripts")<|.rtn) (.fin)<|.glo (.ty "range")<|.loc 1<|.cal 1<|.lcm 2 1 (.loc 1<|.neg<|.cst (.int 1)<|.bin .Sub<|.cel 0<|.cmp .NotIn<|.ite (.loc 1<|.fin) (.fin)<|.fin)<|.cst .none<|.tpl 2<|.rtn⟩:=by ac_rfl
noncomputable def Fn:pR→Rq
 | .err m=>.r (tS m) []
 | .ok sp ad=>.r (.t (.tup [.list (sp.map cL),fH ad])) []
noncomputable def rP:Option Int→V
 | none=>.none
 | some i=>.int i
theorem nO(cs:List (Option Int)):cs.map eM=(cs.map rP).map .leaf:=by
 rw[Oc];exact Oj fun o ζ=>by induction o<;>rfl
theorem kY(cs:List (Option Int)):(cs.map rP).all aF=true:=by
 rw[Qo];exact List.all_eq_true.mpr fun o ζ=>by induction o<;>rfl
theorem rN(cs:List (Option Int)):(cs.map rP).contains .none=cs.any (·.isNone):=by
 induction cs with
 | nil=>rfl
 | cons o r ih=>
  rw[NT,Ox,OA,ih]
  induction o<;>rfl
theorem rM(cs:List (Option Int))(z:Int):(cs.map rP).contains (.int z)=decide (some z∈cs):=by
 induction cs with
 | nil=>exact (Ny Oo).symm
 | cons o r ih=>
  rw[NT,Ox,show decide (some z∈o::r)=(decide (some z=o)||decide (some z∈r)) by rw[← RB];exact decide_eq_decide.mpr NQ]
  congr 1
  induction o with
  | none=>exact (Ny (NN z)).symm
  | some i=>
   rw[show decide (some z=some i)=decide (z=i) from decide_eq_decide.mpr ⟨Option.some.inj,Nw some⟩];by_cases w:z=i
   ·rw[w,NF rfl];exact Oh _
   ·rw[Ny w];exact Qz fun h=>w (V.int.inj h)
theorem rO{cs:List (Option Int)}(h:cs.any (·.isNone)=false):cs.map eM=(cs.filterMap id).map fun i=>.leaf (.int i):=by
 induction cs with
 | nil=>rfl
 | cons o r ih=>
  rw[OA,OS]at h
  induction o with
  | none=>exact NG h.1
  | some i=>exact Nw (_ :: ·) (ih h.2)
theorem uI{α β:Type}{p:α→Bool}{g:α→β}(l:List α):((l.filter p).map g).isEmpty=!l.any p:=by
 induction l with
 | nil=>rfl
 | cons x l ih=>
  rw[OA];refine aG (o:=p x) (fun h=>?_) (fun h=>?_)
  ·rw[P0 (by rw[h];decide)];exact ih
  ·rw[PZ h];rfl
noncomputable def y7:Option Str→V
 | none=>.none
 | some s=>.str s
theorem iJ(l:Tx):l.map bz=(l.map y7).map .leaf:=by
 rw[Oc];exact Oj fun o ζ=>by induction o<;>rfl
theorem fX(l:Tx):(l.map y7).all aF=true:=by
 rw[Qo];exact List.all_eq_true.mpr fun o ζ=>by induction o<;>rfl
theorem fY(l:Tx)(s:Str):(l.map y7).findIdx? (fun y=>decide (y=.str s))=l.findIdx? fun t=>decide (t=some s):=by
 rw[List.findIdx?_map]
 congr 1
 funext t
 induction t with
 | none=>rfl
 | some r=>exact decide_eq_decide.mpr ⟨fun h=>Nw some (V.str.inj h),fun h=>Nw V.str (Option.some.inj h)⟩
theorem kZ(ys:List V)(v:V):ys.contains v=(ys.findIdx? fun y=>decide (y=v)).isSome:=by
 induction ys with
 | nil=>rfl
 | cons y r ih=>
  rw[Ox,ih,TP];by_cases w:y=v
  ·rw[w,NF rfl,Oh];rfl
  ·rw[Ny w,Qz (Pk w)];show _=(Os _ _).isSome;rw[RP];rfl
noncomputable def eI:Option Str→Bool
 | none=>false
 | some s=>!decide (s=No "")
theorem EH(t:Option Str):(!decide (bW (.t (bz t))=.none))=t.isSome:=by induction t<;>rfl
theorem Au{t:Option Str}(h:eI t=false)(all:Tx):t.bind (ft all)=none:=by
 induction t with
 | none=>rfl
 | some s=>show ft all s=none;unfold ft;rw[show decide (s=No "")=true from (O7 _).mp h];rfl
theorem ut{t:Option Str}(h:eI t=true)(a b:Tx):t.bind (ft (a++b))=(a.findIdx? fun u=>decide (u=t)).or ((b.findIdx? fun u=>decide (u=t)).map (· + a.length)):=by
 induction t with
 | none=>exact NG h
 | some s=>show ft _ s=_;unfold ft;rw[show decide (s=No "")=false from (Oi _).mp h];exact Tr
noncomputable def Fy(all:Tx)(t:Option Str)(l:Tx):Option Nat→List (Option Nat)×Tx
 | some i=>(some i::(bf all l).1,(bf all l).2)
 | none=>(some all.length::(bf (all++[t]) l).1,(bf (all++[t]) l).2)
theorem Fw{all:Tx}{t:Option Str}(l:Tx){o:Option Nat}(h:t.bind (ft all)=o):bf all (t::l)=Fy all t l o:=by
 rw[← h];show (match t.bind (ft all) with | some i=>_ | none=>_)=_;refine vc (o:=t.bind (ft all)) ?_ (fun zz=>?_)<;>rfl
section
variable{c:Cx}{d:Nat}(P:PF c)
include P
omit P in
theorem x8{Q:UQ}{n:Nat}{a b e f:Option UV}{cs:List (Option Int)}(hl:cs.length≤9)(hn:n≤900)(hQ:∀r L C W,gK 0 (Eq (Fn (bp cs n))) r W→Q (.ret r) L C W) :
  K2 c false (d+1) Q (.ptc 0<|.cel 0<|.lcm 2 1 (.loc 1<|.cst .none<|.cmp .IsNot<|.and (.loc 1<|.cst (.int 0)<|.cmp .Lt<|.fin)<|.ite (.loc 1<|.fin) (.fin)<|.fin)<|.put 10<|.loc 10<|.lst 0<|.cmp .Eq<|.ite (.cel 0<|.lcm 2 1 (.loc 1<|.cst (.int 0)<|.cmp .NotEq<|.ite (.loc 1<|.cst .none<|.cmp .Is<|.ite (.cst .none<|.fin) (.loc 1<|.cst (.int 1)<|.bin .Sub<|.fin)<|.fin) (.fin)<|.fin)<|.cst .none<|.tpl 2<|.rtn) (.fin)<|.cst .none<|.cel 0<|.cmp .In<|.ite (.cst (.str "can't mix NAs with negative subscripts")<|.rtn) (.fin)<|.glo (.bi "max")<|.cel 0<|.cal 1<|.cst (.int 0)<|.cmp .Gt<|.ite (.cst (.str "can't mix positive and negative subscripts")<|.rtn) (.fin)<|.glo (.ty "range")<|.loc 1<|.cal 1<|.lcm 2 1 (.loc 1<|.neg<|.cst (.int 1)<|.bin .Sub<|.cel 0<|.cmp .NotIn<|.ite (.loc 1<|.fin) (.fin)<|.fin)<|.cst .none<|.tpl 2<|.rtn) [] [a,some (ti n),b,e,f,none,none,none,none,none,none] [none] (.t (.list (cs.map eM))) []:=by
 symm;refine (?h:∀(l:List (Option Int)) (ys:List T),(cs.filter c6).map eM=ys++(l.filter c6).map eM→bT _ _ (l.map eM) ys _ _) cs [] rfl;intro l
 induction l with
 | cons o l ih=>
  intro ys h
  induction o with
  | none=>
   symm;exact ih _ (h.trans (Nw (· ++ _) (Nr ys).symm))
  | some i=>
   symm;exists aC (fun w=>?_) fun w=>?_
   ·rw[show List.filter c6 (some i::l)=some i::l.filter c6 from PZ (NF w)]at h;exact ih _ (h.trans (ND ..))
   ·rw[show List.filter c6 (some i::l)=l.filter c6 from P0 (by rw[show c6 (some i)=false from Ny w];decide)]at h;exact ih _ (h.trans (Nw (· ++ _) (Nr ys).symm))
 | nil=>
  intro ys h;have h:=h.trans (Nr ys);rw[← h];symm;refine qE rfl rfl ?_;rw[uI];refine aG (o:=cs.any c6) (fun e=>?_) (fun e=>?_)
  ·symm;refine (?h2:∀(l:List (Option Int)) (ys:List T),l.any c6=false→(cs.filterMap fm).map cL=ys++(l.filterMap fm).map cL→bT _ _ (l.map eM) ys _ _) cs [] e rfl;intro l
   induction l with
   | cons o l ih=>
    intro ys hn h;rw[OA,OS]at hn;rw[pw]at h
    induction o with
    | none=>
     symm;exact ih _ hn.2 (h.trans (ND ..))
    | some i=>
     have h0 : ¬ i<0:=Pb hn.1;symm;exists eU (fun w=>?_) fun w=>?_
     ·have w:i≠0:=Pb ((Oi _).mp w);have w0:0<i:=Int.lt_iff_le_and_ne.mpr ⟨Int.not_lt.mp h0,Pk w⟩;have h3:fm (some i)=some (some (i-1).toNat):=if_pos w0;rw[h3]at h;have h:=h.trans (ND _ (cL (some (i-1).toNat)) _);rw[(show cL (some (i-1).toNat)=lI (i-1) from Nw lI (Pt (RE w0)))]at h;exact ih _ hn.2 h
     ·have w:i=0:=Nx ((O7 _).mp w);rw[show fm (some i)=none from if_neg (w▸S7 0)]at h;exact ih _ hn.2 (h.trans (Nw (· ++ _) (Nr ys).symm))
   | nil=>
    intro ys _ h;have h:=h.trans (Nr ys);rw[← h];symm;refine hQ _ _ _ _ ?_;unfold bp;rw[e];exact .t rfl rfl rfl rfl
  ·symm;refine .in_lst (v:=.none) (ys:=cs.map rP) (Nw (fun l=>some (T.list l)) (nO cs)) rfl (kY cs) ?_;rw[rN];refine aG (o:=cs.any (·.isNone)) (fun e2=>?_) (fun e2=>?_)
   ·have hN:=rO e2;have hM:∀{M:Int},M∈cs.filterMap id→some M∈cs:=fun h=>by
     refine Nz (List.mem_filterMap.mp h) fun o zz=>NO (fun ho w=>?_) (zz);exact (w)▸ho
    symm;refine .max1 (is:=cs.filterMap id) (Nw (fun l=>some (T.list l)) hN) (fun w=>?_) (fun M h1 h2=>?_)
    ·obtain ⟨o,ho,w2⟩:=List.any_eq_true.mp e
     induction o with
     | none=>exact (Nt w2).elim
     | some i=>
      have:i∈cs.filterMap id:=List.mem_filterMap.mpr ⟨some i,ho,rfl⟩;replace this:=(w)▸this;exact (by cases this)
    symm;exists aC (fun w=>?_) fun w=>?_
    ·refine hQ _ _ _ _ ?_;unfold bp;rw[e,e2,show cs.any gA=true from List.any_eq_true.mpr ⟨some M,hM h1,NF w⟩];exact .k [] rfl rfl rfl rfl
    have e3:cs.any gA=false:=List.any_eq_false.mpr fun o ho hp=>by
     induction o with
     | none=>exact (Nt hp).elim
     | some i=>exact w (OD (Nx hp) (h2 i (List.mem_filterMap.mpr ⟨some i,ho,rfl⟩)))
    symm;exists .rng1 (NC (by decide) (NB _)) (Int.ofNat_le.mpr (Np hn (by decide))) ?_;rw[bv];refine (?h3:∀(l:List Nat) (ys:List T),(ub cs n).map cL=ys++(l.filterMap fun (i:Nat)=>if some (-(i:Int)-1)∈cs then none else some (some i)).map cL→bT _ _ (l.map fun i:Nat=>lI i) ys _ _) (Ou n) [] rfl;intro l
    induction l with
    | nil=>
     intro ys h;have h:=h.trans (Nr ys);rw[← h];symm;refine hQ _ _ _ _ ?_;unfold bp;rw[e,e2,e3];exact .t rfl rfl rfl rfl
    | cons i l ih=>
     intro ys h;rw[pw]at h;symm;refine .in_lst (v:=.int (-(i:Int)-1)) (ys:=cs.map rP) (Nw (fun l=>some (T.list l)) (nO cs)) rfl (kY cs) ?_;rw[rM];by_cases w:some (-(i:Int)-1)∈cs
     ·rw[if_pos w]at h;rw[NF w];symm;exact ih _ (h.trans (Nw (· ++ _) (Nr ys).symm))
     ·rw[if_neg w]at h;rw[Ny w];symm;exact ih _ (h.trans (ND ..))
   ·symm;refine hQ _ _ _ _ ?_;unfold bp;rw[e,e2];exact .k [] rfl rfl rfl rfl
noncomputable def GR(g:Bool)(t:Option Str)(ad:Tx):Option Nat:=bif g then ad.findIdx? fun u=>decide (u=t) else none
omit P in
theorem CT{Q:UQ}{x0 x2 x4:UV}{x6:Option UV}{n:Nat}{t:Option Str}{g:Bool}{acc:List T}{ad:Tx}(hg:t=none→g=false)(ha:acc.length<100000)(hd:(ad.map bz).length<100000)(h1:∀j,GR g t ad=some j→Q (.nx []) [some x0,some (ti n),some x2,some (tb true),some x4,some (.w 0),x6,some (.t (bz t)),some (.w 1),some (tb g),none] [none] [.l (acc++[lI (n+j:Nat)]),.l (ad.map bz)])(h2:GR g t ad=none→Q (.nx []) [some x0,some (ti n),some x2,some (tb true),some x4,some (.w 0),x6,some (.t (bz t)),some (.w 1),some (tb g),none] [none] [.l (acc++[lI (n+ad.length:Nat)]),.l ((ad++[t]).map bz)]) :
  be c false (d+1) Q (.loc 3<|.not<|.ite (.loc 5<|.mth "append"<|.cst .none<|.cal 2<|.pop<|.fin) (.loc 9<|.and (.loc 7<|.loc 8<|.cmp .In<|.fin)<|.ite (.loc 5<|.mth "append"<|.loc 1<|.loc 8<|.mth "index"<|.loc 7<|.cal 2<|.bin .Add<|.cal 2<|.pop<|.fin) (.loc 5<|.mth "append"<|.loc 1<|.glo (.bi "len")<|.loc 8<|.cal 1<|.bin .Add<|.cal 2<|.pop<|.loc 8<|.mth "append"<|.loc 7<|.cal 2<|.pop<|.fin)<|.fin)<|.fin) [] [some x0,some (ti n),some x2,some (tb true),some x4,some (.w 0),x6,some (.t (bz t)),some (.w 1),some (tb g),none] [none] [.l acc,.l (ad.map bz)]:=by
 have hN:GR g t ad=none→be c false (d+1) (jU c false (d+1) (jU c false (d+1) Q .fin) .fin) (.loc 5<|.mth "append"<|.loc 1<|.glo (.bi "len")<|.loc 8<|.cal 1<|.bin .Add<|.cal 2<|.pop<|.loc 8<|.mth "append"<|.loc 7<|.cal 2<|.pop<|.fin) [] [some x0,some (ti n),some x2,some (tb true),some x4,some (.w 0),x6,some (.t (bz t)),some (.w 1),some (tb g),none] [none] [.l acc,.l (ad.map bz)]:=fun e=>by
  symm;exists .len rfl ?_;exists .append rfl rfl ha ?_;exists .append rfl rfl hd ?_;have h:=h2 e;replace h:=(N8)▸h;rw[Nq];exact h
 induction g using Bool.casesOn with
 | false=>
  symm;exact hN rfl
 | true=>
  induction t using Option.casesOn with
  | none=>cases hg rfl
  | some s=>
   symm;refine .in_lst (v:=.str s) (ys:=ad.map y7) (Nw (fun l=>some (T.list l)) (iJ ad)) rfl (fX ad) ?_;rw[kZ,fY];refine ay (o:=ad.findIdx? fun u=>decide (u=some s)) (fun e=>?_) (fun j e=>?_)
   ·
    symm;exact hN e
   ·
    symm;exists .index (v:=.str s) (vs:=ad.map y7) (Nw (fun l=>some (T.list l)) (iJ ad)) rfl (fX ad) ((fY ad s).trans e) ?_;exists .append rfl rfl ha ?_;exact h1 j e
theorem HX{ix:Ix}{n:Nat}{names:Option Tx}(hi:dI ix)(hn:n≤900)(hl:∀ts,names=some ts→ts.length=n):ag c (d+2) (A 122) [.t (fR ix),ti n,.t (fH names),tb true] [] (Fn (dD ix n names)):=by
 induction ix using Ix.casesOn with
 | missing=>
  exists ae P 122 (by ac_rfl) oP rfl ?_;exists mK P ?_;exists .rng1 (NC (by decide) (NB _)) (Int.ofNat_le.mpr (Np hn (by decide))) ?_;exists .listR ?_;rw[bv];refine .t rfl rfl rfl ?_;show Rq.r (.t (.tup [.list (((Ou n).map some).map cL),lN])) []=_;rw[Oc];rfl
 | null=>
  exists ae P 122 (by ac_rfl) oP rfl ?_;exists nK P ?_;exact .k [] rfl rfl rfl rfl
 | vec k is=>
  obtain ⟨h1,h2,h3⟩:=hi
  induction k using Kd.casesOn with
  | ls=>
   exists ae P 122 (by ac_rfl) oP rfl ?_;exists aK P ?_;exact .k [] rfl rfl rfl rfl
  | lg=>
   exists ae P 122 (by ac_rfl) oP rfl ?_;exists aK P ?_;exists aI P ?_;refine ng rfl rfl ?_;rw[show (is.map cY).isEmpty=is.isEmpty by induction is using List.casesOn<;>rfl];refine aG (o:=is.isEmpty) (fun e=>?_) (fun e=>?_)
   ·symm;exists aI P ?_;exists .len rfl ?_;rw[Nq];refine .max2 ?_;rw[wW];symm;have hm:max n is.length≤1000:=Nat.max_le.mpr ⟨Np hn (by decide),Np h1 (by decide)⟩;have hp:0<is.length:=Pz fun w=>by rw[List.length_eq_zero_iff.mp w]at e;injection e
    exists .rng1 (NC (by decide) (NB _)) (Int.ofNat_le.mpr (Np hm (by decide))) ?_;rw[bv];rw[show dD (.vec .lg is) n names=.ok ((Ou (max n is.length)).filterMap (iC is)) none from Nw (fun b=>pR.ok (cond b [] ((Ou (max n is.length)).filterMap (iC is))) none) e];have hr:((Ou (max n is.length)).length)≤5000:=by rw[OC];exact Np hm (by decide)
    generalize Ou (max n is.length)=l0 at hr ⊢;refine (?h:∀(l:List Nat) (acc:List T) x y,acc.length+l.length≤5000→(l0.filterMap (iC is)).map cL=acc++(l.filterMap (iC is)).map cL→cu _ _ _ (l.map fun i:Nat=>lI i) [_,_,_,_,_,some (.w 0),x,y,none,none,none] [none] [.l acc,.l []]) l0 [] none none (Np (NL (Ot _)) hr) (Pn _).symm;clear hr hm hn e;intro l
    induction l with
    | nil=>
     intro acc x y hl e;have e:=e.trans (Nr acc);subst e;symm;exact .t rfl rfl rfl rfl
    | cons i l ih=>
     intro acc x y hl e;have hi:=R8 i hp;have hg:=NI hi;have hs:=h2 _ (OZ hi);have e2:cq (is.map cY) (i % is.length)=some (cY is[i % is.length]):=by rw[bM,hg];rfl
     rw[pw,show iC is i=t0 i is[i % is.length] by unfold iC;rw[hg];rfl]at e;symm;exists aI P ?_;exists aI P ?_;exists .len rfl ?_;rw[Nq];exists ⟨Int.ofNat_lt.mpr hp,?_⟩;refine fS rfl e2 ?_;generalize is[i % is.length]=s at hs e ⊢
     induction s using Sc.casesOn with
     | na=>
      symm;exists .append rfl rfl (bh hl) ?_;exact ih _ _ _ (cj hl) (e.trans (ND ..))
     | int z=>
      rcases hs with rfl | rfl
      ·symm;exact ih _ _ _ (cr hl) e
      ·symm;exists .append rfl rfl (bh hl) ?_;exact ih _ _ _ (cj hl) (e.trans (ND ..))
     | _=>exact hs.elim
   ·symm;exists .rng1 (by decide) (by decide) ?_;have e:is=[]:=List.isEmpty_iff.mp e;subst e;exact .t rfl rfl rfl rfl
  | ch=>
   exists ae P 122 (by ac_rfl) oP rfl ?_;exists aK P ?_;exists aI P ?_;have ht:(is.map gM).length≤9:=by rw[Nq];exact h1
   rw[u9 h2];rw[show dD (.vec .ch is) n names=.ok (bf (bB n names) (is.map gM)).1 (some ((bf (bB n names) (is.map gM)).2.drop n)) from rfl];generalize is.map gM=ts at ht ⊢;have nl:(bB n names).length=n:=by
    unfold bB
    induction names using Option.casesOn with
    | none=>exact Od
    | some ts=>exact hl _ rfl
   have nf:∀s,s≠No ""→names=none→(bB n names).findIdx? (fun u=>decide (u=some s))=none:=fun s w h=>by
    rw[h];refine List.findIdx?_eq_none_iff.mpr fun x hx=>?_;rw[SS hx];exact Ny fun h=>w (Option.some.inj h).symm
   have ns:∀l,names=some l→bB n names=l:=fun l h=>by rw[h];rfl
   generalize bB n names=base at nl nf ns ⊢;refine (?h4:∀(l:Tx) (acc:List T) (ad:Tx) x y z,ad.length+l.length≤5000→acc.length+l.length≤5000→(bf base ts).1.map cL=acc++(bf (base++ad) l).1.map cL→(bf base ts).2=(bf (base++ad) l).2→cu _ _ _ (l.map bz) [some _,some (ti n),some (.t (fH names)),some (tb true),some (tS qR),some (.w 0),z,x,some (.w 1),y,none] [none] [.l acc,.l (ad.map bz)]) ts [] [] none none none (Np (NL (Ot _)) (Np ht (by decide))) (Np (NL (Ot _)) (Np ht (by decide))) (by rw[Nr];rfl) (by rw[Nr]);clear h1 h2 h3 ht;intro l
   induction l with
   | nil=>
    intro acc ad x y z hd ha e1 e2;symm;refine .t rfl rfl rfl ?_;show Rq.r (.t (.tup [.list ((bf base ts).1.map cL),.list (((bf base ts).2.drop n).map bz)])) []=_;rw[e1,e2,show (bf (base++ad) []).2.drop n=ad from (Nw (List.drop · (base++ad)) nl.symm).trans (SK ..)];exact Nw (fun l=>Rq.r (.t (.tup [.list l,.list (ad.map bz)])) []) (Nr acc)
   | cons t l ih=>
    intro acc ad x y z hd ha e1 e2;have hb:(names.bind fun l=>l.findIdx? fun u=>decide (u=t))=none∨eI t=false→t.bind (ft (base++ad))=(GR (eI t) t ad).map (· + n):=fun h=>by
     refine aG (o:=eI t) (fun g=>?_) (fun g=>?_)
     ·exact Au g _
     ·rw[ut g,nl];have:base.findIdx? (fun u=>decide (u=t))=none:=by
       induction names using Option.casesOn with
       | none=>
        induction t using Option.casesOn with
        | none=>exact (Nt g).elim
        | some s=>exact nf s (Pb ((Oi _).mp g)) rfl
       | some l=>rw[ns l rfl];exact h.resolve_right (by rw[g];exact NG)
      rw[this];rfl
    exists uA fun R hR=>?_;rw[EH];symm;exists FK (eI t) (fun w R' hR'=>?_) (fun w=>?_) ?_
    ·rcases t with _ | s
     ·exact (Nt w).elim
     ·
      symm;exact hR'
    ·induction t using Option.casesOn with
     | none=>rfl
     | some s=>injection w
    symm;exists FK (bif eI t then names.bind fun l=>l.findIdx? fun u=>decide (u=t) else none).isSome (fun w R' hR'=>?_) (fun w=>by rw[w];rfl) ?_
    ·rw[show (bif eI t then names.bind fun l=>l.findIdx? fun u=>decide (u=t) else none)=names.bind fun l=>l.findIdx? fun u=>decide (u=t) by rw[w];rfl]at hR';rcases t with _ | s
     ·exact (Nt w).elim
     ·
      induction names using Option.casesOn with
      | none=>
       symm;exact hR'
      | some nm=>
       symm;refine .in_lst (v:=.str s) (ys:=nm.map y7) (Nw (fun l=>some (T.list l)) (iJ nm)) rfl (fX nm) ?_;rw[kZ,fY];symm;exact hR'
    symm;cases e:(bif eI t then names.bind fun l=>l.findIdx? fun u=>decide (u=t) else none) with
    | some i=>
     induction t using Option.casesOn with
     | none=>exact ac e
     | some s=>
      cases g:eI (some s) with
      | false=>rw[g]at e;injection e
      | true=>
       rw[g]at e
       induction names using Option.casesOn with
       | none=>exact ac e
       | some nm=>
        rw[Fw (o:=some i) l (by rw[ut g,ns nm rfl];exact (Nw (Option.or · _) e).trans rfl)]at e1 e2;symm;exists .index (v:=.str s) (vs:=nm.map y7) (Nw (fun l=>some (T.list l)) (iJ nm)) rfl (fX nm) ((fY nm s).trans e) ?_;exists .append rfl rfl (bh ha) ?_;exact hR _ _ _ _ (ih _ _ _ _ _ (cr hd) (cj ha) (e1.trans (ND ..)) e2)
    | none=>
     have hb:=hb (by
      refine aG (o:=eI t) (fun g=>?_) (fun g=>?_)
      ·exact .inr rfl
      ·rw[g]at e;exact .inl e)
     have hL:(base++ad).length=n+ad.length:=by rw[NH,nl]
     refine CT (fun h=>by rw[h];rfl) (bh ha) (by rw[Nq];exact bh hd) (fun j h=>?_) fun h=>?_
     ·rw[h]at hb;rw[Fw l hb]at e1 e2;symm;refine hR _ _ _ _ (ih _ _ _ _ _ (cr hd) (cj ha) (e1.trans ?_) e2);rw[O6 n];exact ND ..
     ·rw[h]at hb;rw[Fw l hb]at e1 e2;symm;refine hR _ _ _ _ (ih _ _ _ _ _ (cj hd) (cj ha) (e1.trans ?_) (e2.trans ?_))
      ·rw[← hL,← Om];exact ND ..
      ·rw[← Om];rfl
  | it=>
   exists ae P 122 (by ac_rfl) oP rfl ?_;exists aK P ?_;exists aI P ?_;refine .r [] rfl rfl rfl (CU P (k:=.it) (.inl rfl) h2 h1) ?_;exact x8 (by rw[Nq];exact h1) hn fun ζ ζ ζ ζ h=>h
  | db=>
   exists ae P 122 (by ac_rfl) oP rfl ?_;exists aK P ?_;exists aI P ?_;refine .r [] rfl rfl rfl (CU P (k:=.db) (.inr rfl) h2 h1) ?_;exact x8 (by rw[Nq];exact h1) hn fun ζ ζ ζ ζ h=>h
end
end
section
theorem Hn:aX 123=⟨[some 0,some 1,none],[],[],.glo (.fn 116)<|.loc 0<|.cal 1<|.cst (.int 6)<|.bin .Mod<|.cst (.int 5)<|.cmp .Eq<|.ite (.cst .none<|.rtn) (.fin)<|.loc 1<|.cst (.str "logical")<|.cmp .Eq<|.ite (.glo (.fn 116)<|.loc 0<|.cal 1<|.cst (.int 2)<|.bin .Mod<|.rtn) (.fin)<|.loc 1<|.cst (.str "integer")<|.cmp .Eq<|.ite (.glo (.fn 116)<|.loc 0<|.cal 1<|.cst (.int 40)<|.bin .Mod<|.cst (.int 15)<|.bin .Sub<|.rtn) (.fin)<|.loc 1<|.cst (.str "character")<|.cmp .Eq<|.ite (.cst (.str "")<|.cst (.str "a")<|.cst (.str "b")<|.cst (.str "10")<|.cst (.str "TRUE")<|.cst (.str "2.5")<|.glo (.bi "chr")<|.cst (.int 32)<|.glo (.fn 116)<|.loc 0<|.cal 1<|.cst (.int 90)<|.bin .Mod<|.bin .Add<|.cal 1<|.lst 7<|.glo (.fn 116)<|.loc 0<|.cal 1<|.cst (.int 7)<|.bin .Mod<|.sub<|.rtn) (.fin)<|.glo (.fn 116)<|.loc 0<|.cal 1<|.cst (.int 10)<|.bin .Mod<|.put 2<|.loc 2<|.cst (.int 9)<|.cmp .Eq<|.ite (.cst (.int 0)<|.cst (.int 0)<|.tpl 2<|.cst (.int 1)<|.cst (.int 0)<|.tpl 2<|.cst (.int 1)<|.neg<|.cst (.int 0)<|.tpl 2<|.lst 3<|.glo (.fn 116)<|.loc 0<|.cal 1<|.cst (.int 3)<|.bin .Mod<|.sub<|.rtn) (.fin)<|.glo (.fn 117)<|.glo (.fn 116)<|.loc 0<|.cal 1<|.cst (.int 300)<|.bin .Mod<|.cst (.int 100)<|.bin .Sub<|.cst (.int 1)<|.cst (.int 1)<|.cst (.int 2)<|.cst (.int 4)<|.lst 4<|.loc 2<|.cst (.int 4)<|.bin .Mod<|.sub<|.cal 2<|.rtn⟩:=by ac_rfl
noncomputable def IW(k:Nat):List Str:=[No "",No "a",No "b",No "10",No "TRUE",No "2.5",⟨#[(32+(k:Int)).toNat]⟩]
noncomputable def IA:List Int:=[1,1,2,4]
theorem zW:∀m∈IA,m=1∨m=2∨m=4:=by decide
noncomputable def Fp:Sc→Bool
 | .q n d=>dom n d
 | _=>false
theorem wI{s:Sc}(h:s∈Bi):fJ .db s:=by
 have h:Fp s=true:=List.all_eq_true.mp (by decide:Bi.all Fp=true) s h
 induction s using Sc.casesOn with
 | q n d=>exact h
 | _=>exact (Nt h).elim
theorem wO(k:Kd):fJ k .na:=by induction k using Kd.casesOn<;>exact trivial
section
variable{c:Cx}{d:Nat}(P:PF c)
include P
theorem CS{k:Kd}(hk:k≠.ls)(r:List Int):de c (d+2) (A 123) [.w 0,tS k.s] [RW r] (Dr fun t=>∃s,fJ k s∧t=cY s):=by
 exists ae P 123 (by ac_rfl) Hn rfl ?_;exists bn P [0] rfl rfl rfl fun i r1=>?_;exists ⟨by decide,?_⟩;exists aC (fun e0=>?_) fun e0=>?_
 ·exact .k [] rfl rfl rfl (.mk ⟨.na,wO k,rfl⟩)
 induction k using Kd.casesOn with
 | ls=>exact absurd rfl hk
 | lg=>
  symm;exists bn P [0] rfl rfl rfl fun j r2=>?_;exists ⟨by decide,?_⟩;exact .k [] rfl rfl rfl (.mk ⟨.int _,Int.emod_two_eq j,rfl⟩)
 | it=>
  symm;exists bn P [0] rfl rfl rfl fun j r2=>?_;exists ⟨by decide,?_⟩;exact .k [] rfl rfl rfl (.mk ⟨.int _,En rfl,rfl⟩)
 | ch=>
  symm;exists bn P [0] rfl rfl rfl fun j r2=>?_;refine ⟨by decide,?_⟩;refine gp j (m:=90) (by decide) fun n hn hn2=>?_;rw[hn];symm;exists .chr (SN (NB n) |> NC (by decide)) (OD (TS hn2 32) (by decide)) ?_;exists bn P [0] rfl rfl rfl fun j r2=>?_;refine ⟨by decide,?_⟩;refine gp j (m:=7) (by decide) fun m hm hm2=>?_;rw[hm];symm;exists fS rfl (mZ (g:=lS) (xs:=IW n) (Int.ofNat_lt.mp hm2)) ?_;exact .k [] rfl rfl rfl (.mk ⟨.str _,trivial,rfl⟩)
 | db=>
  symm;exists bn P [0] rfl rfl rfl fun j r2=>?_;exists ⟨by decide,?_⟩;exists aC (fun e1=>?_) fun e1=>?_
  ·exists bn P [0] rfl rfl rfl fun j r2=>?_;refine ⟨by decide,?_⟩;refine gp j (m:=3) (by decide) fun m hm hm2=>?_;rw[hm];symm;have hm2:=Int.ofNat_lt.mp hm2;exists fS rfl (mZ (g:=cY) (xs:=Bi) hm2) ?_;exact .k [] rfl rfl rfl (.mk ⟨_,wI (OZ hm2),rfl⟩)
  exists bn P [0] rfl rfl rfl fun i2 r2=>?_;exists ⟨by decide,?_⟩;refine ⟨by decide,?_⟩;refine gp (j % 10) (m:=4) (by decide) fun m hm hm2=>?_;rw[hm];symm;have hm2:=Int.ofNat_lt.mp hm2;refine fS rfl (mZ (g:=lI) (xs:=IA) hm2) ?_;have e4:=zW _ (OZ hm2);generalize IA[m]=u at e4 ⊢;symm;obtain ⟨n',m',hd,h⟩:=HZ P (d:=d) (n:=i2 % 300-100) (En rfl) e4;exists .r [] rfl rfl rfl h ?_;exact .k [] rfl rfl rfl (.mk ⟨.q n' m',hd,rfl⟩)
end
end
section
theorem sT:aX 124=⟨[some 0,some 1,none,none],[],[],.loc 1<|.cst .none<|.cmp .Is<|.or (.loc 0<|.cst (.str "character")<|.cmp .Eq<|.fin)<|.ite (.loc 1<|.rtn) (.fin)<|.loc 0<|.cst (.str "logical")<|.cmp .Eq<|.ite (.cst (.str "FALSE")<|.cst (.str "TRUE")<|.lst 2<|.loc 1<|.sub<|.rtn) (.fin)<|.loc 0<|.cst (.str "integer")<|.cmp .Eq<|.ite (.glo (.ty "str")<|.loc 1<|.cal 1<|.rtn) (.fin)<|.loc 1<|.cst (.int 1)<|.sub<|.cst (.int 0)<|.cmp .Eq<|.ite (.cst (.str "NaN")<|.cst (.str "Inf")<|.cst (.str "-Inf")<|.lst 3<|.loc 1<|.cst (.int 0)<|.sub<|.sub<|.rtn) (.fin)<|.glo (.bi "abs")<|.loc 1<|.cst (.int 0)<|.sub<|.cal 1<|.put 2<|.loc 1<|.cst (.int 0)<|.sub<|.cst (.int 0)<|.cmp .Lt<|.ite (.cst (.str "-")<|.fin) (.cst (.str "")<|.fin)<|.glo (.ty "str")<|.loc 2<|.loc 1<|.cst (.int 1)<|.sub<|.bin .FloorDiv<|.cal 1<|.bin .Add<|.put 3<|.loc 3<|.cst (.int 1)<|.cst (.str "")<|.cst (.int 2)<|.cst (.str ".5")<|.cst (.int 4)<|.cst (.str ".")<|.glo (.ty "str")<|.cst (.int 25)<|.loc 2<|.cst (.int 4)<|.bin .Mod<|.bin .Mult<|.cal 1<|.bin .Add<|.dic 6<|.loc 1<|.cst (.int 1)<|.sub<|.sub<|.bin .Add<|.rtn⟩:=by ac_rfl
theorem Hm:aX 125=⟨[some 0,some 1,some 2],[],[],.loc 0<|.loc 2<|.cmp .Eq<|.ite (.loc 1<|.rtn) (.fin)<|.loc 2<|.cst (.str "character")<|.cmp .Eq<|.ite (.glo (.fn 124)<|.loc 0<|.loc 1<|.cal 2<|.rtn) (.fin)<|.loc 2<|.cst (.str "double")<|.cmp .Eq<|.ite (.loc 1<|.cst .none<|.cmp .Is<|.ite (.cst .none<|.fin) (.loc 1<|.cst (.int 1)<|.tpl 2<|.fin)<|.rtn) (.fin)<|.loc 1<|.rtn⟩:=by ac_rfl
theorem Aq{W:UW}{a:UV}{ts:List T}{t:T}{K:T→Prop}(h:pk W a=some (.list ts))(e:cq ts (ts.length-1)=some t)(q:K t):ed a (ti (-1)) W K:=by
 unfold ed;rw[h];show au (cq ts _) K;rw[e];exact q
theorem sX:(Ou 200).all (fun i:Nat=>S2 (mP i).length 9)=true:=by decide +kernel
theorem p7{i:Int}(h0:0≤i)(h:i<200):(mP i).length≤9:=by
 obtain ⟨n,rfl⟩:=QT h0;exact NJ (List.all_eq_true.mp sX n (List.mem_range.mpr (Int.ofNat_lt.mp h)))
noncomputable def J8(n m:Int):Str:=if m=1 then No "" else if m=2 then No ".5" else No "." ++ mP (25*((n.natAbs:Int) % 4))
theorem s8(b:Bool):(cond b (No "-") (No "")).length≤1:=by induction b<;>decide
inductive JY(n m:Int):Prop
 | a(h:m=0)(h1:n=0∨n=1∨n=-1)
 | b(h:m=1∨m=2∨m=4)(h1:n.natAbs<200)
theorem yH{n m:Int}(h:dom n m=true):JY n m:=by
 unfold dom at h;simp only [PB,NY,beq_iff_eq,PM]at h;rcases h with ((⟨h,h'⟩ | ⟨h,h'⟩) | ⟨h,h'⟩) | ⟨h,h'⟩
 ·exact .a h' (.inl h)
 ·exact .a h' (.inr (.inl h))
 ·exact .a h' (.inr (.inr h))
 ·refine .b ?_ (F9 (OD (by decide) h.1) (OE h.2 (by decide)));rcases h' with h' | ⟨h' | h',_⟩
  ·exact .inl h'
  ·exact .inr (.inl h')
  ·exact .inr (.inr h')
section
variable{c:Cx}{d:Nat}(P:PF c){k:Kd}{s:Sc}
include P
theorem HW(hk:k≠.ls)(h:fJ k s):ag c (d+1) (A 124) [tS k.s,.t (cY s)] [] (.r (.t (bz (fW k s))) []):=by
 induction s using Sc.casesOn with
 | na=>
  exists ae P 124 (by ac_rfl) sT rfl ?_;exact .k [] rfl rfl rfl rfl
 | str s=>
  induction k using Kd.casesOn<;>first | exact h.elim | exact absurd rfl hk | skip
  exists ae P 124 (by ac_rfl) sT rfl ?_;exact .k [] rfl rfl rfl rfl
 | int i=>
  induction k using Kd.casesOn<;>first | exact h.elim | exact absurd rfl hk | skip
  ·exists ae P 124 (by ac_rfl) sT rfl ?_;rcases h with rfl | rfl
   ·exists fS (n:=0) rfl rfl ?_;exact .k [] rfl rfl rfl rfl
   ·exists fS (n:=1) rfl rfl ?_;exact .k [] rfl rfl rfl rfl
  ·exists ae P 124 (by ac_rfl) sT rfl ?_;exists .str (kB h) ?_;exact .k [] rfl rfl rfl rfl
 | q n m=>
  induction k using Kd.casesOn<;>first | exact h.elim | exact absurd rfl hk | skip
  exists ae P 124 (by ac_rfl) sT rfl ?_;exists aC (fun e=>?_) fun e=>?_
  ·subst e;have h1:n=0∨n=1∨n=-1:=by
    rcases yH h with ⟨_,h1⟩ | h2
    ·exact h1
    ·rcases h2 with h2 | h2 | h2<;>cases h2
   rcases h1 with rfl | rfl | rfl
   ·exists fS (n:=0) rfl rfl ?_;exact .k [] rfl rfl rfl rfl
   ·exists fS (n:=1) rfl rfl ?_;exact .k [] rfl rfl rfl rfl
   ·exists Aq rfl rfl ?_;exact .k [] rfl rfl rfl rfl
  ·rcases yH h with h1 | ⟨h1,h2⟩
   ·exact absurd h1 e
   ·
    have m0:0<m:=by rcases h1 with rfl | rfl | rfl<;>decide
    have m1:m<2^64:=by rcases h1 with rfl | rfl | rfl<;>decide
    have d0:0≤(n.natAbs:Int) / m:=SA (NB _) (OM m0);have d1:(n.natAbs:Int) / m<200:=OE (Int.ediv_le_self _ (NB _)) (Int.ofNat_lt.mpr h2);have q0:0≤25*((n.natAbs:Int) % 4):=Int.mul_nonneg (by decide) (P3 _ (by decide));have q1:25*((n.natAbs:Int) % 4)<200:=Pc (Int.mul_lt_mul_of_pos_left (Qw _ (by decide:(0:Int)<4)) (by decide:(0:Int)<25)) (by decide);have l1:=p7 d0 d1;have l2:=p7 q0 q1;symm;exists .abs ?_;exists AV (V:=fun b=>tS (cond b (No "-") (No ""))) (fun ζ R hR=>?_) (fun ζ R hR=>?_) ?_
    ·exact hR
    ·symm;exact hR
    symm;exists ⟨m0,m1,?_⟩;exists .str (pN d0 (Pc d1 (by decide))) ?_;exists .addS (Np (O4 (s8 _) l1) (by decide)) ?_;exists ⟨by decide,?_⟩;exists ⟨.inl ⟨by decide,by decide⟩,?_⟩;exists .str (pN q0 (Pc q1 (by decide))) ?_;exists .addS (Np (Oz l2 _) (by decide)) ?_;exists .i3 (by decide) (by decide) (by decide) ?_;have hl:OB m [((1:Int),lS (No "")),(2,lS (No ".5")),(4,lS (No "." ++ mP (25*((n.natAbs:Int) % 4))))]=some (lS (J8 n m)):=by rcases h1 with rfl | rfl | rfl<;>rfl
    have l3:(J8 n m).length≤10:=by
     rcases h1 with rfl | rfl | rfl
     ·exact (by decide:(No "").length≤10)
     ·exact (by decide:(No ".5").length≤10)
     ·exact Np (NL (Sb _ _)) (Oz l2 1)
    exists .idict rfl hl ?_;exists .addS (Np (O4 (Np (NL (Sb _ _)) (O4 (s8 _) l1)) l3) (by decide)) ?_;refine .k [] rfl rfl rfl (Nw (fun s=>Rq.r (tS s) []) ?_);unfold dS;rw[if_neg e];by_cases w:n<0
    ·rw[if_pos w,NF w];rfl
    ·rw[if_neg w,Ny w];rfl
theorem HV{k to:Kd}(hk:k≠.ls)(ht:to≠.ls)(h:fJ k s)(hr:k.rank≤to.rank):ag c (d+2) (A 125) [tS k.s,.t (cY s),tS to.s] [] (.r (.t (xT (aB k to (.sc s)))) []):=by
 exists ae P 125 (by ac_rfl) Hm rfl ?_;rw[Ae];unfold aB;refine aG (o:=k.rank==to.rank) (fun e=>?_) (fun e=>?_)
 ·induction to using Kd.casesOn with
  | ls=>exact absurd rfl ht
  | ch=>
   symm;exists .r [] rfl rfl rfl (HW P hk h) ?_;exact .k [] rfl rfl rfl (by dsimp only [uY,cond_false];cases fW k s<;>rfl)
  | db=>
   induction s using Sc.casesOn with
   | na=>
    symm;exact .k [] rfl rfl rfl rfl
   | int i=>
    symm;exact .k [] rfl rfl rfl rfl
   | _=>rcases sJ hr e with rfl | rfl<;>exact h.elim
  | it=>
   symm;exact .k [] rfl rfl rfl rfl
  | lg=>exact absurd (Nat.le_zero.mp hr) (fun w=>by rw[w]at e;exact (Nt e.symm).elim)
 ·symm;exact .k [] rfl rfl rfl rfl
end
end
section
theorem vO:aX 126=⟨[none],[some 0],["v"],.glo (.bi "isinstance")<|.cel 0<|.glo (.ty "str")<|.cal 2<|.ite (.cel 0<|.rtn) (.fin)<|.cel 0<|.att "kind"<|.cst (.str "NULL")<|.cmp .Eq<|.ite (.cst (.str "NULL")<|.rtn) (.fin)<|.dic 0<|.put 0<|.cel 0<|.att "attrs"<|.cst .none<|.cmp .IsNot<|.ite (.cel 0<|.att "attrs"<|.dcm 2 1 (.loc 1<|.glo (.fn 126)<|.cel 0<|.att "attrs"<|.loc 1<|.sub<|.cal 1<|.fin)<|.put 0<|.fin) (.fin)<|.cel 0<|.att "kind"<|.cst (.str "list")<|.cst (.str "expression")<|.cst (.str "pairlist")<|.tpl 3<|.cmp .In<|.ite (.cel 0<|.att "kind"<|.cel 0<|.att "items"<|.lcm 2 1 (.glo (.fn 126)<|.loc 1<|.cal 1<|.fin)<|.loc 0<|.tpl 3<|.rtn) (.fin)<|.cel 0<|.att "kind"<|.glo (.ty "list")<|.cel 0<|.att "items"<|.cal 1<|.loc 0<|.tpl 3<|.rtn⟩:=by ac_rfl
noncomputable def sD(ts:Tx):T:=.tup [lS qR,.list (ts.map bz),.dict []]
noncomputable def dg:X→T
 | .sc s=>cY s
 | .null=>lS aO
 | .sv k s=>.tup [lS k.s,.list [cY s],.dict []]
noncomputable def dU(as:List (Str×Tx)):List (Str×T):=as.map fun e=>(e.1,sD e.2)
noncomputable def sC(p:PV):T:=.tup [lS p.kind.s,.list (p.items.map dg),.dict (dU p.attrs)]
noncomputable def so:Option PV→T
 | none=>lS aO
 | some p=>sC p
noncomputable def uB(as:List (Str×Tx))(ys:List (Str×T)):List (Str×T):=as.foldl (fun ys e=>aN ys e.1 (sD e.2)) ys
theorem b9.fold{as}(h:b9 as):uB as []=dU as:=by induction h<;>ac_rfl
theorem zV(k:Kd):[V.str (No "list"),V.str (No "expression"),V.str (No "pairlist")].contains (.str k.s)=k.isL:=by induction k using Kd.casesOn<;>ac_rfl
section
variable{c:Cx}{d:Nat}(P:PF c)
include P
theorem CQ(m:Str):ag c (d+1) (A 126) [tS m] [] (.r (tS m) []):=by
 exists ae P 126 (by ac_rfl) vO rfl ?_;exists .isS ?_;exact .k [] rfl rfl rfl rfl
theorem th:ag c (d+1) (A 126) [.t (nT CN aO)] [] (.r (tS aO) []):=by
 exists ae P 126 (by ac_rfl) vO rfl ?_;exists .isI rfl (zK P (.head _)).2 ?_;exists nK P ?_;exact .k [] rfl rfl rfl rfl
theorem x3{k:Kd}(hk:k≠.ls){is:List T}{lo:Bool} : ag c (d+1) (A 126) [.t (vT k.s (.list is) lN lo)] [] (.r (.t (.tup [lS k.s,.list is,.dict []])) []):=by
 exists ae P 126 (by ac_rfl) vO rfl ?_;exists .isI rfl (zK P (.tail _ (.tail _ (.head _)))).2 ?_;exists aK P ?_;exists iE (nr _ (by ac_rfl)) ?_;exists .d0 ?_;exists aA P ?_;exists aK P ?_;refine .in_tup (v:=.str k.s) (ys:=[.str (No "list"),.str (No "expression"),.str (No "pairlist")]) rfl rfl rfl ?_;rw[zV,show k.isL=false by induction k using Kd.casesOn<;>first | rfl | exact absurd rfl hk]
 symm;exists aK P ?_;exists aI P ?_;exists .list rfl ?_;exact .k [] rfl rfl rfl rfl
theorem CP{k:Kd}{x:X}(h:ej k x)(hk:k.isL=true):ag c (d+1) (A 126) [.t (xT x)] [] (.r (.t (dg x)) []):=by
 induction k using Kd.casesOn<;>first | exact (Nt hk).elim;done | skip
 induction x using X.casesOn with
 | null=>exact th P
 | sv k s=>exact x3 P h.1
 | sc s=>exact h.elim
theorem x7{k:Kd}(hk:k.isL=true){C:UL}{W:UW}{K:List T→UL→UW→Prop}{is:List X}(hx:∀x∈is,ej k x):∀{ys},K (ys++is.map dg) C W→bT (Bl c (d+1) (.glo (.fn 126)<|.loc 1<|.cal 1<|.fin) 2 1) K (is.map xT) ys C W:=by
 induction is with
 | nil=>
  intro ys h;rw[Pp,Nr]at h;exact h
 | cons x r ih=>
  intro ys h;rw[NT,ND]at h;show TR _ _ _ _ _ _ _ _ _;symm;exists .r [] rfl rfl rfl (CP P (hx x (.head _)) hk) ?_;rw[Nr W];exact ih (fun x h=>hx x (.tail _ h)) h
theorem CR{as:List (Str×Tx)}{k:Str}{it:T}{lo:Bool}{W:UW}{K:List (Str×T)→UL→UW→Prop}{l:List (Str×Tx)} : ∀{ys},(∀e∈l,as.lookup e.1=some e.2)→K (uB l ys) [some (.t (vT k it (.dict (il as)) lo))] W→kR (Bd c (d+1) (.loc 1<|.glo (.fn 126)<|.cel 0<|.att "attrs"<|.loc 1<|.sub<|.cal 1<|.fin) 2 1) K (l.map fun e=>.leaf (.str e.1)) ys [some (.t (vT k it (.dict (il as)) lo))] W:=by
 induction l with
 | nil=>exact fun ζ h=>h
 | cons e l ih=>
  intro ys hx h;show TR _ _ _ _ _ _ _ _ _;symm;exists aA P ?_;exists .dict rfl (by rw[mi,hx e (.head _)];rfl) ?_;exists .r [] rfl rfl rfl (x3 P (k:=.ch) Kd.noConfusion) ?_;rw[Nr W];exact ih (fun x h=>hx x (.tail _ h)) h
omit P in
theorem xR{k:Kd}(hk:k.isL=false){is:List X}(hx:∀x∈is,ej k x):is.map xT=is.map dg:=
 Oj fun x h=>by obtain ⟨s,rfl,_⟩:=jh (hx x h) hk;rfl
theorem te{p:PV}{lo:Bool}(h:b9 p.attrs)(hx:∀x∈p.items,ej p.kind x):ag c (d+2) (A 126) [.t (vT p.kind.s (.list (p.items.map xT)) (iG p.attrs) lo)] [] (.r (.t (sC p)) []):=by
 obtain ⟨k,is,as⟩:=p;exists ae P 126 (by ac_rfl) vO rfl ?_;exists .isI rfl (zK P (.tail _ (.tail _ (.head _)))).2 ?_;exists aK P ?_;exists iE (nr _ (by ac_rfl)) ?_;exists .d0 ?_;refine aA P ?_;have h2:=h.fold;have h3:=h.at_
 induction as using List.casesOn with
 | nil=>
  symm;exists aK P ?_;refine .in_tup (v:=.str k.s) (ys:=[.str (No "list"),.str (No "expression"),.str (No "pairlist")]) rfl rfl rfl ?_;rw[zV];refine aw (o:=k.isL) (fun hk=>?_) (fun hk=>?_)
  ·
   symm;exists aK P ?_;exists aI P ?_;exists x7 P hk hx ?_;exact .k [] rfl rfl rfl rfl
  ·
   symm;exists aK P ?_;exists aI P ?_;exists .list rfl ?_;exact .k [] rfl rfl rfl (by rw[xR hk hx];rfl)
 | cons e r=>
  rw[show iG (e::r)=.dict (il (e::r)) from rfl];generalize e::r=as at h2 h3 ⊢;symm;exists aA P ?_;rw[show (il as).map (fun p=>T.leaf (.str p.1))=as.map fun e=>T.leaf (.str e.1) from Oc ..];refine CR P (fun e h=>(h3 e h).1) ?_;rw[show uB as []=dU as from h2];symm;exists aK P ?_;refine .in_tup (v:=.str k.s) (ys:=[.str (No "list"),.str (No "expression"),.str (No "pairlist")]) rfl rfl rfl ?_;rw[zV];refine aw (o:=k.isL) (fun hk=>?_) (fun hk=>?_)
  ·
   symm;exists aK P ?_;exists aI P ?_;exists x7 P hk hx ?_;exact .k [] rfl rfl rfl rfl
  ·
   symm;exists aK P ?_;exists aI P ?_;exists .list rfl ?_;exact .k [] rfl rfl rfl (by rw[xR hk hx];rfl)
end
end
section
theorem Hk:aX 128=⟨[],[],[],.cst (.str "logical")<|.cst (.str "integer")<|.cst (.str "double")<|.cst (.str "character")<|.cst (.str "list")<|.lst 5<|.rtn⟩:=by ac_rfl
theorem Hh:aX 131=⟨[some 1],[some 0,some 2],["kind","to"],.cel 0<|.cst (.str "list")<|.cmp .Eq<|.and (.cel 1<|.cst (.str "list")<|.cmp .NotEq<|.fin)<|.ite (.loc 0<|.lcm 2 1 (.cel 1<|.loc 1<|.lst 1<|.dic 0<|.tpl 3<|.fin)<|.rtn) (.fin)<|.cel 0<|.cst (.str "list")<|.cmp .NotEq<|.ite (.loc 0<|.lcm 2 1 (.glo (.fn 125)<|.cel 1<|.loc 1<|.cel 0<|.cal 3<|.fin)<|.fin) (.glo (.ty "list")<|.loc 0<|.cal 1<|.fin)<|.rtn⟩:=by ac_rfl
theorem Hg:aX 132=⟨[some 0],[],[],.cst (.str "names")<|.loc 0<|.cst (.int 2)<|.sub<|.cmp .In<|.ite (.glo (.ty "list")<|.loc 0<|.cst (.int 2)<|.sub<|.cst (.str "names")<|.sub<|.cst (.int 1)<|.sub<|.cal 1<|.fin) (.cst .none<|.fin)<|.rtn⟩:=by ac_rfl
noncomputable def vD:List Kd:=[.lg,.it,.db,.ch,.ls]
abbrev Ig:T:=.list (vD.map fun k=>lS k.s)
theorem lr(as:List (Str×Tx))(n:Str):(dU as).lookup n=(as.lookup n).map sD:=by
 induction as with
 | nil=>rfl
 | cons e r ih=>
  show OB n ((e.1,sD e.2)::dU r)=(OB n ((e.1,e.2)::r)).map sD;rw[NK,NK,ih];refine dP (o:=n==e.1) ?_ ?_<;>rfl
theorem kI(k:Kd):decide (k.s=No "list")=k.isL:=by induction k using Kd.casesOn<;>ac_rfl
theorem rQ{k:Kd}(is:List X):is.map (aB k k)=is:=(Oj fun x ζ=>by unfold aB;rw[Oh];rfl).trans (List.map_id' is)
theorem Ji{Z:UW}{ys:List T}(r:UW):frz (Z++WO.l ys::r) (.w Z.length)=some (.list ys,Z++WO.z (.list ys)::r):=by
 rw[vC,aM];show eK _ _=_;rw[sz,aM];show some (T.list ys,ar _ _ _)=_;rw[i8]
theorem Jj{Z:UW}{ys:List (Str×T)}(r:UW):frz (Z++WO.d ys::r) (.w Z.length)=some (.dict ys,Z++WO.z (.dict ys)::r):=by
 rw[vC,aM];show eK _ _=_;rw[sz,aM];show some (T.dict ys,ar _ _ _)=_;rw[i8]
theorem c5(j:Nat)(r:List Nat):bV (j::r) j=some 0:=by
 show (bif O8 j j then some 0 else _)=_;rw[Tj];rfl
theorem Jx{Z:UW}{ys:List T}{g:Rq→Prop}(h:g (.r (.w 0) [.l ys])):gK 0 g (.w Z.length) (Z++[.l ys]):=by
 refine .k [Z.length] rfl (v':=.w 0) (Nw (Os UV.w) (c5 _ _)) (W':=[.l ys]) ?_ h;show (N0 (af (Z++[.l ys]) Z.length) _)=_;rw[aM];rfl
theorem Jk{Z:UW}{k:Str}{ts:List T} : et [tS k,.w Z.length,.w (Z++[WO.l ts]).length] (Z++[WO.l ts]++[WO.d []])=some ([lS k,.list ts,.dict []],Z++[WO.z (.list ts)]++[WO.z (.dict [])]):=by
 have e:(Z++[WO.l ts]).length=(Z++[WO.z (.list ts)]).length:=by rw[NH,NH];rfl
 have h1:=Ji (Z:=Z) (ys:=ts) [WO.d []];have h2:=Jj (Z:=Z++[WO.z (.list ts)]) (ys:=[]) [];rw[← ND]at h2;rw[e,Om,lk,GD,m9,lk,show frz (Z++([WO.l ts]++[WO.d []])) _=_ from h1,m9,lk,h2];rfl
section
variable{c:Cx}{d:Nat}(P:PF c)
include P
theorem zl:ag c (d+1) (A 128) [] [] (.r (.t Ig) []):=by
 exists ae P 128 (by ac_rfl) Hk rfl ?_;exact .t rfl rfl rfl rfl
theorem HT{a b:T}{as:List (Str×Tx)} : ag c (d+1) (A 132) [.t (.tup [a,b,.dict (dU as)])] [] (.r (.t (fH (as.lookup ah))) []):=by
 exists ae P 132 (by ac_rfl) Hg rfl ?_;refine .in_sd rfl ?_;rw[show (dU as).any (fun p=>decide (p.1=ah))=(as.lookup ah).isSome by rw[gI,lr];cases as.lookup ah<;>rfl];refine ay (o:=as.lookup ah) (fun e=>?_) (fun ts e=>?_)
 ·
  symm;exact .k [] rfl rfl rfl rfl
 ·
  symm;exists .dict rfl (by rw[lr];exact Nw (Os sD) e) ?_;exists .list rfl ?_;exact .t rfl rfl rfl rfl
theorem CL{k to:Kd}{is:List X}(hx:∀x∈is,ej k x)(hr:k.rank≤to.rank):ag c (d+3) (A 131) [tS k.s,.t (.list (is.map dg)),tS to.s] [] (.r (.w 0) [.l ((is.map (aB k to)).map dg)]):=by
 exists ae P 131 (by ac_rfl) Hh rfl ?_;rw[kI];refine aw (o:=to.isL) (fun ht=>?_) (fun ht=>?_)
 ·
  have ht:to=.ls:=by cases to<;>first | rfl | cases ht
  subst ht;symm;rw[kI];refine aw (o:=k.isL) (fun hk=>?_) (fun hk=>?_)
  ·
   have hk:k=.ls:=by cases k<;>first | rfl | cases hk
   subst hk;rw[rQ];symm;exists .list rfl ?_;exact .k [0] rfl rfl rfl rfl
  ·
   symm;refine (?h:∀(l:List X) (ys:List T) (Z:UW),(∀x∈l,ej k x)→(is.map (aB k .ls)).map dg=ys++(l.map (aB k .ls)).map dg→bT _ _ (l.map dg) ys _ Z) is [] [] hx rfl;intro l
   induction l with
   | nil=>
    intro ys Z _ e;have e:=e.trans (Nr ys);subst e;symm;exact Jx rfl
   | cons x l ih=>
    intro ys Z hx e;obtain ⟨s,rfl,hs⟩:=jh (hx x (.head _)) hk;symm;exists .d0 ?_;refine (?_:au (et [tS k.s,.w Z.length,.w (Z++[WO.l [cY s]]).length] (Z++[WO.l [cY s]]++[WO.d []])) _);rw[Jk];symm;rw[NT,show aB k .ls (.sc s)=.sv k s by cases k<;>first | rfl | injection hk]at e
    exact ih _ _ (fun x h=>hx x (.tail _ h)) (e.trans (ND ..))
 ·
  symm;rw[kI,ht];symm;refine (?h2:∀(l:List X) (ys:List T),(∀x∈l,ej k x)→(is.map (aB k to)).map dg=ys++(l.map (aB k to)).map dg→bT _ _ (l.map dg) ys _ []) is [] hx rfl;intro l
  induction l with
  | nil=>
   intro ys _ e;have e:=e.trans (Nr ys);subst e;symm;exact .k [0] rfl rfl rfl rfl
  | cons x l ih=>
   intro ys hx e;have hk:k.isL=false:=by induction k using Kd.casesOn<;>first | rfl | (induction to using Kd.casesOn<;>first | exact absurd hr (by decide) | injection ht)
   obtain ⟨s,rfl,hs⟩:=jh (hx x (.head _)) hk;symm;exists .r [] rfl rfl rfl (HV P (s:=s) (fun w=>by rw[w]at hk;injection hk) (fun w=>by rw[w]at ht;injection ht) hs hr) ?_;refine ih _ (fun x h=>hx x (.tail _ h)) (e.trans ?_);rw[show xT (aB k to (.sc s))=dg (aB k to (.sc s)) by unfold aB;cases k.rank==to.rank<;>induction to using Kd.casesOn<;>first | rfl | injection ht]
   exact ND ..
end
end
section
theorem Hj:aX 129=⟨[some 2],[some 0,some 1],["row","kind"],.cel 0<|.cst (.str "list")<|.cmp .Eq<|.ite (.glo (.cls 113)<|.cel 0<|.glo (.ty "range")<|.loc 0<|.cal 1<|.lcm 2 1 (.glo (.fn 116)<|.cel 1<|.cal 1<|.cst (.int 3)<|.bin .Mod<|.cst (.int 0)<|.cmp .Gt<|.ite (.glo (.cls 113)<|.cst (.str "integer")<|.glo (.fn 123)<|.cel 1<|.cst (.str "integer")<|.cal 2<|.lst 1<|.cal 2<|.fin) (.glo (.cls 63)<|.cal 0<|.fin)<|.fin)<|.cal 2<|.rtn) (.fin)<|.glo (.cls 113)<|.cel 0<|.glo (.ty "range")<|.loc 0<|.cal 1<|.lcm 2 1 (.glo (.fn 123)<|.cel 1<|.cel 0<|.cal 2<|.fin)<|.cal 2<|.rtn⟩:=by ac_rfl
theorem Hi:aX 130=⟨[none,none,none],[some 0],["row"],.glo (.fn 116)<|.cel 0<|.cal 1<|.cst (.int 6)<|.bin .Mod<|.put 0<|.loc 0<|.cst (.int 5)<|.cmp .Eq<|.ite (.glo (.cls 63)<|.cal 0<|.rtn) (.fin)<|.glo (.fn 116)<|.cel 0<|.cal 1<|.cst (.int 10)<|.bin .Mod<|.put 1<|.glo (.fn 129)<|.cel 0<|.glo (.fn 128)<|.cal 0<|.loc 0<|.sub<|.loc 1<|.cal 3<|.put 2<|.glo (.fn 116)<|.cel 0<|.cal 1<|.cst (.int 2)<|.bin .Mod<|.cst (.int 1)<|.cmp .Eq<|.ite (.cst (.str "names")<|.glo (.cls 113)<|.cst (.str "character")<|.glo (.ty "range")<|.loc 1<|.cal 1<|.lcm 2 1 (.glo (.fn 118)<|.cel 0<|.cal 1<|.fin)<|.cal 2<|.dic 2<|.loc 2<|.sat "attrs"<|.fin) (.fin)<|.glo (.fn 116)<|.cel 0<|.cal 1<|.cst (.int 4)<|.bin .Mod<|.cst (.int 3)<|.cmp .Eq<|.ite (.loc 2<|.att "attrs"<|.cst .none<|.cmp .Is<|.ite (.dic 0<|.fin) (.loc 2<|.att "attrs"<|.fin)<|.loc 2<|.sat "attrs"<|.glo (.cls 113)<|.cst (.str "character")<|.cst (.str "m")<|.lst 1<|.cal 2<|.loc 2<|.att "attrs"<|.cst (.str "unit")<|.sit<|.fin) (.fin)<|.loc 2<|.rtn⟩:=by ac_rfl
inductive GX(k:Kd)(n:Nat):Rq→Prop
 | mk{is r}(hl:is.length=n)(hx:∀x∈is,ej k x):GX k n (.r (.w 1) (RW r::OV 1 k is [] false))
theorem AW{a b:Nat}(h:a≠b):O8 a b=false:=by
 refine aG (o:=O8 a b) (fun e=>?_) (fun e=>?_)
 ·rfl
 ·exact absurd (OG e) h
theorem aJ{i j:Nat}(h:i≠j)(r:List Nat):bV (i::r) j=(bV r j).map (· + 1):=by
 show cond (O8 i j) _ _=_;rw[AW h];rfl
theorem uW{k:Str}{ys:List T}{r:List Int}{Z:UW}{g:Rq→Prop}(h:g (.r (.w 1) [RW r,.v k (.w 2) (tv .none) false,.l ys])):gK 1 g (.w (RW r::Z++[WO.l ys]).length) ((RW r::Z++[WO.l ys])++[WO.v k (.w (RW r::Z).length) (tv .none) false]):=by
 have n1:(RW r::Z++[WO.l ys]).length=Z.length+2:=NH;have b1:Z.length+1≠Z.length+2:=N1 (QY _);have i1:bV [0,Z.length+2,Z.length+1] (Z.length+2)=some 1:=by
  rw[aJ (Pu _).symm,c5];rfl
 have i2:bV [0,Z.length+2,Z.length+1] (Z.length+1)=some 2:=by
  rw[aJ (Pu _).symm,aJ b1.symm,c5];rfl
 rw[n1];refine .k [Z.length+2,Z.length+1] ?_ (v':=.w 1) (W':=[RW r,.v k (.w 2) (tv .none) false,.l ys]) ?_ ?_ h
 ·show ((bV [Z.length+2,Z.length+1] 0).isNone&&((bV [Z.length+1] (Z.length+2)).isNone&&true))=true;rw[aJ b1];rfl
 ·exact Nw (Os UV.w) i1
 ·have i3:yd [0,Z.length+2,Z.length+1] (.v k (.w (Z.length+1)) (tv .none) false)=some (.v k (.w 2) (tv .none) false):=by
   show N0 (Os UV.w (bV [0,Z.length+2,Z.length+1] (Z.length+1))) _=_;rw[i2];rfl
  have s0:bX [0,Z.length+2,Z.length+1] [Z.length+1] ((RW r::Z++[WO.l ys])++[WO.v k (.w (RW r::Z).length) (tv .none) false])=some [.l ys]:=by
   show (af _ _).bind _=_;rw[(show af ((RW r::Z++[WO.l ys])++[WO.v k (.w (RW r::Z).length) (tv .none) false]) (Z.length+1)=some (.l ys) from by rw[Om];exact aM (RW r::Z) _ _)];rfl
  have s1:bX [0,Z.length+2,Z.length+1] [Z.length+2,Z.length+1] ((RW r::Z++[WO.l ys])++[WO.v k (.w (RW r::Z).length) (tv .none) false])=some [.v k (.w 2) (tv .none) false,.l ys]:=by
   show (af _ _).bind _=_;rw[(show af ((RW r::Z++[WO.l ys])++[WO.v k (.w (RW r::Z).length) (tv .none) false]) (Z.length+2)=some (.v k (.w (Z.length+1)) (tv .none) false) from n1▸aM _ _ []),m9,i3,s0];rfl
  exact Nw (N0 · fun W'=>some (RW r::W')) s1
theorem zJ{k:Kd}{s:Sc}(hk:k.isL=false)(h:fJ k s):ej k (.sc s):=by induction k<;>first | exact h | exact NG hk
theorem Fo{α:Type}{Φ:α→Prop}{g:α→T}{C:UL}{Z:UW}{body:T→UL→UW→(Option T→UL→UW→Prop)→Prop}{K:List T→UL→UW→Prop}(f:∀r x (kk:Option T→UL→UW→Prop),(∀s r',Φ s→kk (some (g s)) C (RW r'::Z))→body x C (RW r::Z) kk){l:List T} :
  ∀{r ys},(∀(ss:List α) r',ss.length=l.length→(∀s∈ss,Φ s)→K (ys++ss.map g) C (RW r'::Z))→bT body K l ys C (RW r::Z):=by
 induction l with
 | nil=>
  intro r ys h;have h:=h [] r rfl fun ζ h=>absurd h Oo;rw[Pp,Nr]at h;exact h
 | cons x l ih=>
  intro r ys h;refine f _ _ _ fun s r' hs=>ih fun ss r2 hl hp=>?_;have h:=h (s::ss) r2 (Nw (· + 1) hl) (List.forall_mem_cons.mpr ⟨hs,hp⟩);rw[NT,ND]at h;exact h
section
variable{c:Cx}{d:Nat}(P:PF c)
include P
theorem CO{k:Kd}{n:Nat}(hn:n≤9)(r:List Int):de c (d+3) (A 129) [.w 0,tS k.s,ti n] [RW r] (GX k n):=by
 have h1 : -100000≤(n:Int):=NC (by decide) (NB n);have h2:(n:Int)≤100000:=Int.ofNat_le.mpr (Np hn (by decide));have hr:((aW 0 n).map T.leaf).length=n:=by rw[bv,Nq,OC]
 exists ae P 129 (by ac_rfl) Hj rfl ?_;rw[kI];refine aG (o:=k.isL) (fun hk=>?_) (fun hk=>?_)
 ·
  symm;exists .rng1 h1 h2 ?_;exists kP (Φ:=ej k) (g:=xT) (fun r x Z kk kq=>?_) fun ss r3 Z hl hp=>?_
  ·refine yG [0] rfl rfl rfl (CS P (k:=k) (fun w=>by rw[w]at hk;injection hk) r) fun t r' h=>?_;obtain ⟨s,hs,rfl⟩:=h;symm;exact kq (.sc s) _ _ (zJ hk hs)
  symm;exists .v2 rfl dp ?_;exact uW (.mk (hl.trans hr) hp)
 ·
  have hk:k=.ls:=by induction k using Kd.casesOn<;>first | rfl | exact (Nt hk).elim
  subst hk;symm;exists .rng1 h1 h2 ?_;exists kP (Φ:=ej .ls) (g:=xT) (fun r x Z kk kq=>?_) fun ss r3 Z hl hp=>?_
  ·exists bn P [0] rfl rfl rfl fun i r'=>?_;exists ⟨by decide,?_⟩;exists aC (fun e=>?_) fun e=>?_
   ·refine yG [0] rfl rfl rfl (CS P (k:=.it) Kd.noConfusion r') fun t r2 h=>?_;obtain ⟨s,hs,rfl⟩:=h;symm;exists .v2 rfl dp ?_;refine (?_:au (frz ((RW r2::(Z++[]++[])++[WO.l [cY s]])++[WO.v Gx (.w (RW r2::(Z++[]++[])).length) (tv .none) false]) (.w (RW r2::(Z++[]++[])++[WO.l [cY s]]).length)) _);rw[yC];exact kq (.sv .it s) _ _ ⟨Kd.noConfusion,hs⟩
   ·exists .nl rfl ?_;exact kq .null _ _ trivial
  symm;exists .v2 rfl dp ?_;exact uW (.mk (hl.trans hr) hp)
omit P in
theorem KR{W:UW}{k:KU}{E:Str→UW→Prop}{a:Addr}{vs vs1:List UV}{W0:UW}{r:List Int}{kd:Kd}{n:Nat}(js:List Nat)(hn:nk js=true)(hp:aS js vs W=some (vs1,W0))(hs:bX js js W0=some [RW r])(h:de c d a vs1 [RW r] (GX kd n))(kr:∀is r',is.length=n→(∀x∈is,ej kd x)→k (su js W0.length (.w 1)) (gm js W0.length js W0 (RW r'::OV 1 kd is [] false))):iH c d W k E a vs:=
 .n js hn hp hs h (fun ζ ζ h=>by cases h with | mk h1 h2=>exact kr _ _ h1 h2) fun ζ ζ h=>by cases h
theorem HU(r:List Int):de c (d+4) (A 130) [.w 0] [RW r] (Dr fun t=>∃v:Option PV,(∀p,v=some p→bU 9 p)∧t=fA v):=by
 exists ae P 130 (by ac_rfl) Hi rfl ?_;exists bn P [0] rfl rfl rfl fun i r1=>?_;refine ⟨by decide,?_⟩;refine gp i (m:=6) (by decide) fun m hm hm2=>?_;rw[hm];symm;exists aC (fun e0=>?_) fun e0=>?_
 ·exists .nl rfl ?_;exact .k [] rfl rfl rfl (.mk ⟨none,fun ζ h=>ac h,rfl⟩)
 have hm5:m<5:=T0 (QF (Int.ofNat_lt.mp hm2)) fun w=>e0 (Nw Int.ofNat w);exists bn P [0] rfl rfl rfl fun i2 r2=>?_;refine ⟨by decide,?_⟩;refine gp i2 (m:=10) (by decide) fun n hn hn2=>?_;have hn9:=QF (Int.ofNat_lt.mp hn2);rw[hn];symm;exists .r [] rfl rfl rfl (zl P) ?_;refine fS rfl (mZ (g:=fun k:Kd=>lS k.s) (xs:=vD) hm5) ?_;generalize vD[m]=k;symm;exists KR [0] rfl rfl rfl (CO P hn9 r2) fun is r3 hl hx=>?_;exists bn P [0] rfl rfl rfl fun i4 r4=>?_;exists ⟨by decide,?_⟩;exists aC (fun e1=>?_) fun e1=>?_
 ·exists .rng1 (NC (by decide) (NB n)) (Int.ofNat_le.mpr (Np hn9 (by decide))) ?_;exists Fo (Φ:=fun ζ=>True) (g:=bz) (Z:=[WO.v k.s (UV.w 2) (tv .none) false,WO.l (PU xT is)]) (fun r x kk kq=>?_) fun ts r5 hl2 ζ=>?_
  ·refine yG [0] rfl rfl rfl (CX P r) fun t r' h=>?_;obtain ⟨o,rfl⟩:=h;symm;exact kq o _ trivial
  symm;have ln:ts.length=n:=by rw[hl2,bv,Nq,OC]
  exists .v2 rfl rfl ?_;exists .d1 rfl ?_;exists .at_ rfl (mH P (by decide)) ?_;exists bn P [0] rfl rfl rfl fun i5 r5=>?_;exists ⟨by decide,?_⟩;exists aC (fun e2=>?_) fun e2=>?_
  ·exists oA P rfl rfl ?_;exists oA P rfl rfl ?_;exists .at_ rfl (mH P (by decide)) ?_;exists .v2 rfl rfl ?_;exists oA P rfl rfl ?_;exists .d rfl rfl (NJ rfl) ?_;exact .t rfl rfl rfl (.mk ⟨some ⟨k,is,[(ah,ts),(d9,[some (No "m")])]⟩,fun p h=>by injection h with h;subst h;exact ⟨.nu _ _,fun ns h=>by injection h with h;subst h;exact ln.trans hl.symm,hx,hl▸hn9⟩,rfl⟩)
  ·exact .t rfl rfl rfl (.mk ⟨some ⟨k,is,[(ah,ts)]⟩,fun p h=>by injection h with h;subst h;exact ⟨.n _,fun ns h=>by injection h with h;subst h;exact ln.trans hl.symm,hx,hl▸hn9⟩,rfl⟩)
 ·exists bn P [0] rfl rfl rfl fun i5 r5=>?_;exists ⟨by decide,?_⟩;exists aC (fun e2=>?_) fun e2=>?_
  ·exists oA P rfl rfl ?_;exists .d0 ?_;exists .at_ rfl (mH P (by decide)) ?_;exists .v2 rfl rfl ?_;exists oA P rfl rfl ?_;exists .d rfl rfl (NJ rfl) ?_;exact .t rfl rfl rfl (.mk ⟨some ⟨k,is,[(d9,[some (No "m")])]⟩,fun p h=>by injection h with h;subst h;exact ⟨.u _,fun ζ h=>ac h,hx,hl▸hn9⟩,rfl⟩)
  ·exact .t rfl rfl rfl (.mk ⟨some ⟨k,is,[]⟩,fun p h=>by injection h with h;subst h;exact ⟨.z,fun ζ h=>ac h,hx,hl▸hn9⟩,rfl⟩)
end
end
section
theorem Cc:aX 133=⟨[some 0,some 1,some 2,some 3,none,none,none,none,none,none,none,none,none,none,none],[none,none,none,none,none],["items","attrs","n","names","spots"],.loc 0<|.cst (.str "NULL")<|.cmp .Eq<|.ite (.loc 2<|.cst (.str "NULL")<|.cmp .Eq<|.or (.loc 2<|.cst (.int 1)<|.sub<|.lst 0<|.cmp .Eq<|.fin)<|.ite (.loc 0<|.rtn) (.fin)<|.loc 2<|.cst (.int 0)<|.sub<|.lst 0<|.dic 0<|.tpl 3<|.put 0<|.fin) (.fin)<|.loc 0<|.unp 3<|.put 4<|.ptc 4<|.ptc 3<|.glo (.bi "len")<|.cel 4<|.cal 1<|.ptc 2<|.glo (.fn 132)<|.loc 0<|.cal 1<|.ptc 1<|.glo (.fn 122)<|.loc 1<|.cel 2<|.cel 1<|.cst (.bool true)<|.cal 4<|.put 5<|.glo (.bi "isinstance")<|.loc 5<|.glo (.ty "str")<|.cal 2<|.ite (.loc 5<|.rtn) (.fin)<|.loc 5<|.unp 2<|.ptc 0<|.put 6<|.glo (.bi "max")<|.cel 2<|.lst 1<|.cel 0<|.lcm 2 1 (.loc 1<|.cst .none<|.cmp .IsNot<|.ite (.loc 1<|.cst (.int 1)<|.bin .Add<|.fin) (.fin)<|.fin)<|.bin .Add<|.cal 1<|.put 8<|.loc 2<|.cst (.str "NULL")<|.cmp .Eq<|.ite (.loc 4<|.cst (.str "list")<|.cmp .NotEq<|.ite (.cel 0<|.lst 0<|.cmp .NotEq<|.ite (.cst (.str "replacement has length zero")<|.fin) (.loc 0<|.fin)<|.rtn) (.fin)<|.glo (.ty "range")<|.loc 8<|.cal 1<|.lcm 2 1 (.loc 1<|.cel 0<|.cmp .NotIn<|.ite (.loc 1<|.fin) (.fin)<|.fin)<|.put 9<|.cel 3<|.dcm 2 1 (.loc 1<|.cst (.str "names")<|.cmp .NotEq<|.ite (.loc 1<|.cel 3<|.loc 1<|.sub<|.fin) (.fin)<|.fin)<|.put 10<|.cel 1<|.cst .none<|.cmp .IsNot<|.ite (.cst (.str "character")<|.loc 9<|.lcm 2 1 (.loc 1<|.cel 2<|.cmp .Lt<|.ite (.cel 1<|.loc 1<|.sub<|.fin) (.cst (.str "")<|.fin)<|.fin)<|.dic 0<|.tpl 3<|.loc 10<|.cst (.str "names")<|.sit<|.fin) (.fin)<|.loc 4<|.loc 9<|.lcm 2 1 (.loc 1<|.cel 2<|.cmp .Lt<|.ite (.cel 4<|.loc 1<|.sub<|.fin) (.cst (.str "NULL")<|.fin)<|.fin)<|.loc 10<|.tpl 3<|.rtn) (.fin)<|.cst .none<|.cel 0<|.cmp .In<|.and (.glo (.bi "len")<|.loc 2<|.cst (.int 1)<|.sub<|.cal 1<|.cst (.int 1)<|.cmp .Gt<|.fin)<|.ite (.cst (.str "NAs are not allowed in subscripted assignments")<|.rtn) (.fin)<|.cel 0<|.lst 0<|.cmp .NotEq<|.and (.loc 2<|.cst (.int 1)<|.sub<|.lst 0<|.cmp .Eq<|.fin)<|.ite (.cst (.str "replacement has length zero")<|.rtn) (.fin)<|.glo (.fn 128)<|.cal 0<|.put 11<|.loc 11<|.glo (.bi "max")<|.loc 11<|.mth "index"<|.loc 4<|.cal 2<|.loc 11<|.mth "index"<|.loc 2<|.cst (.int 0)<|.sub<|.cal 2<|.cal 2<|.sub<|.put 12<|.glo (.fn 131)<|.loc 4<|.cel 4<|.loc 12<|.cal 3<|.ptc 4<|.cel 0<|.lst 0<|.cmp .Eq<|.ite (.loc 12<|.cel 4<|.cel 3<|.tpl 3<|.rtn) (.fin)<|.glo (.bi "len")<|.cel 0<|.cal 1<|.glo (.bi "len")<|.loc 2<|.cst (.int 1)<|.sub<|.cal 1<|.bin .Mod<|.cst (.int 0)<|.cmp .NotEq<|.ite (.loc 3<|.mth "append"<|.cst (.str "number of items to replace is not a multiple of replacement length")<|.cal 2<|.pop<|.fin) (.fin)<|.glo (.fn 131)<|.loc 2<|.cst (.int 0)<|.sub<|.loc 2<|.cst (.int 1)<|.sub<|.loc 12<|.cal 3<|.put 13<|.glo (.ty "dict")<|.cel 3<|.cal 1<|.ptc 3<|.loc 8<|.cel 2<|.cmp .Gt<|.ite (.cel 4<|.loc 12<|.cst (.str "list")<|.cmp .Eq<|.ite (.cst (.str "NULL")<|.fin) (.cst .none<|.fin)<|.lst 1<|.loc 8<|.cel 2<|.bin .Sub<|.bin .Mult<|.bin .Add<|.ptc 4<|.cel 1<|.cst .none<|.cmp .IsNot<|.or (.loc 6<|.cst .none<|.cmp .IsNot<|.fin)<|.ite (.cel 1<|.cst .none<|.cmp .Is<|.ite (.cst (.str "")<|.lst 1<|.cel 2<|.bin .Mult<|.fin) (.cel 1<|.fin)<|.loc 6<|.cst .none<|.cmp .Is<|.ite (.lst 0<|.fin) (.loc 6<|.fin)<|.bin .Add<|.put 14<|.cst (.str "character")<|.loc 14<|.cst (.str "")<|.lst 1<|.loc 8<|.glo (.bi "len")<|.loc 14<|.cal 1<|.bin .Sub<|.bin .Mult<|.bin .Add<|.dic 0<|.tpl 3<|.cel 3<|.cst (.str "names")<|.sit<|.fin) (.fin)<|.fin) (.fin)<|.glo (.ty "range")<|.glo (.bi "len")<|.cel 0<|.cal 1<|.cal 1<|.for 7 (.cel 0<|.loc 7<|.sub<|.cst .none<|.cmp .IsNot<|.ite (.loc 13<|.loc 7<|.glo (.bi "len")<|.loc 13<|.cal 1<|.bin .Mod<|.sub<|.cel 4<|.cel 0<|.loc 7<|.sub<|.sit<|.fin) (.fin)<|.fin)<|.loc 12<|.cel 4<|.cel 3<|.tpl 3<|.rtn⟩:=by ac_rfl
section
variable{W:UW}{i j:Nat}{o o' x:WO}
theorem br:af (W++[o]) W.length=some o:=aM W o []
theorem ax(h:af W i=some x):af (W++[o]) i=some x:=by
 rw[aU]at h ⊢;rw[PK (List.getElem?_eq_some_iff.mp h).1];exact h
theorem dt(h:af W i=some x):i<W.length:=by
 rw[aU]at h;exact (List.getElem?_eq_some_iff.mp h).1
theorem eo(h:af W j=some x):af (ar W j o) j=some o:=by
 rw[aU,e8,Tb (dt h)]
theorem ai(n:i≠j)(h:af W i=some x):af (ar W j o) i=some x:=by
 rw[aU]at h ⊢;rw[e8,Tp (Pk n)];exact h
theorem oV{N:List T}(h:af W 0=some (.l N)):bX (jX 1++[]) (jX 1++[]) W=some [.l N]:=by
 show N0 (af W 0) _=_;rw[h];rfl
theorem xf{xs:List T}(h:af W j=some (.l xs)):frz W (.w j)=some (.list xs,ar W j (.z (.list xs))):=by
 rw[vC,h];show eK _ _=_;rw[sz,h];rfl
theorem E6{xs:List (Str×T)}(h:af W j=some (.d xs)):frz W (.w j)=some (.dict xs,ar W j (.z (.dict xs))):=by
 rw[vC,h];show eK _ _=_;rw[sz,h];rfl
theorem jd{xs:List T}(h:af W j=some (.l xs)):pk W (.w j)=some (.list xs):=by
 show N0 (af W j) mY=_;rw[h];rfl
theorem xg{k:Str}{xs:List T}{es:List (Str×T)}{a:Nat}(h:af W j=some (.l xs))(ha:af W a=some (.d es))(n:a≠j):et [tS k,.w j,.w a] W=some ([lS k,.list xs,.dict es],ar (ar W j (.z (.list xs))) a (.z (.dict es))):=by
 rw[lk,GD,m9,lk,xf h,m9,lk,E6 (ai n ha)];rfl
end
theorem y2(its:List X)(j:Nat)(x:X):(its.map dg).set j (dg x)=(its.set j x).map dg:=List.map_set.symm
section
variable{c:Cx}{d:Nat}(P:PF c)
theorem td{W:UW}{j a gi:Nat}{N:List T}{its g:List X}{as:List (Str×Tx)}{sp:List (Option Nat)}{to:Kd}{l0 l1 l2 l3 l4 l5 l6 l7 l8 l9 l10 l11 l14 c1 c2:Option UV}(g0:af W 0=some (.l N))(gj:af W j=some (.l (its.map dg)))(ga:af W a=some (.d (dU as)))(gg:af W gi=some (.l (g.map dg)))(n0:j≠0)(n1:a≠0)(n2:a≠j)(n3:gi≠j)(hs:∀j,some j∈sp→j<its.length)(h0:0<g.length)(hl:sp.length≤5000) :
  be c false d (lJ 1 (Eq (.r (.t (.tup [lS to.s,.list ((cH g 0 its sp).map dg),.dict (dU as)])) [.l N]))) (.glo (.ty "range")<|.glo (.bi "len")<|.cel 0<|.cal 1<|.cal 1<|.for 7 (.cel 0<|.loc 7<|.sub<|.cst .none<|.cmp .IsNot<|.ite (.loc 13<|.loc 7<|.glo (.bi "len")<|.loc 13<|.cal 1<|.bin .Mod<|.sub<|.cel 4<|.cel 0<|.loc 7<|.sub<|.sit<|.fin) (.fin)<|.fin)<|.loc 12<|.cel 4<|.cel 3<|.tpl 3<|.rtn) [] [l0,l1,l2,l3,l4,l5,l6,l7,l8,l9,l10,l11,some (tS to.s),some (.w gi),l14] [some (.t (.list (sp.map cL))),c1,c2,some (.w a),some (.w j)] W:=by
 symm;exists .len rfl ?_;rw[Nq];exists .rng1 (NC (by decide) (NB _)) (Int.ofNat_le.mpr (Np hl (by decide))) ?_;rw[bv,Rv];refine (?h:∀(post pre:List (Option Nat)) (its2:List X) W x,af W 0=some (.l N)→af W j=some (.l (its2.map dg))→af W a=some (.d (dU as))→af W gi=some (.l (g.map dg))→(∀j,some j∈post→j<its2.length)→pre++post=sp→cH g pre.length its2 post=cH g 0 its sp→cu _ _ _ ((QK pre.length post.length).map fun i:Nat=>lI i) [l0,l1,l2,l3,l4,l5,l6,x,l8,l9,l10,l11,some (tS to.s),some (.w gi),l14] [some (.t (.list (sp.map cL))),c1,c2,some (.w a),some (.w j)] W) sp [] its W l7 g0 gj ga gg hs rfl rfl;clear hs hl g0 gj ga gg;intro post
 induction post with
 | nil=>
  intro pre its2 W x g0 gj ga gg hs e1 e2;rw[← e2];symm;refine (?_:au (et [tS to.s,.w j,.w a] W) _);rw[xg gj ga n2];symm;exact .k [] rfl rfl (oV (ai n1.symm (ai n0.symm g0))) rfl
 | cons t post ih=>
  intro pre its2 W x g0 gj ga gg hs e1 e2;have hg:cq (sp.map cL) pre.length=some (cL t):=by rw[bM,← e1,lT];rfl
  have e3:(pre++[t])++post=sp:=(ND ..).symm.trans e1;have ih:=fun its2 W x g0 gj ga gg hs h2=>ih (pre++[t]) its2 W x g0 gj ga gg hs e3 h2;rw[NH]at ih;symm
  induction t using Option.casesOn with
  | none=>
   exists fS rfl (t:=lN) hg ?_;exact ih _ _ _ g0 gj ga gg (fun j h=>hs j (.tail _ h)) e2
  | some k=>
   have hi:=R8 pre.length h0;have hq:=NI hi;have hj:=hs k (.head _);exists fS rfl (t:=lI k) hg ?_;exists .len (jd gg) ?_;rw[Nq];exists ⟨Int.ofNat_lt.mpr h0,?_⟩;refine fS (jd gg) (t:=dg g[pre.length % g.length]) ?_ ?_
   ·exact (bM ..).trans (Nw (Os dg) hq)
   symm;exists fS rfl (t:=lI k) hg ?_;exists .l rfl gj (NB _) (Int.ofNat_lt.mpr (by rw[Nq];exact hj)) ?_;refine ih _ _ _ (ai n0.symm g0) ((eo gj).trans (Nw (fun l=>some (WO.l l)) (y2 ..))) (ai n2 ga) (ai n3 gg) (fun i h=>by rw[Qi];exact hs i (.tail _ h)) ?_;exact (Nw (fun o:Option X=>cH g (pre.length+1) (its2.set k (o.getD .null)) post) hq).symm.trans e2
end
end
section
section
variable{c:Cx}{d:Nat}{m b:Bool}{x e g:I}{Q:UQ}{st:List UV}{L C:UL}{W:UW}(J:UW→Prop)
theorem F6(V:Bool)(j:J W)(h1:b=true→∀R:UQ,(∀W,J W→R (.nx (tb V::st)) L C W)→be c m d R x st L C W)(h2:b=false→V=false)(hk:∀W,J W→be c m d Q g (tb V::st) L C W):fO b (be c m d (jU c m d Q g) x st L C W) (be c m d Q g (tb false::st) L C W):=by
 induction b
 ·replace hk:=(h2 rfl)▸hk;exact hk _ j
 ·exact h1 rfl _ hk
theorem ET(h1:b=true→∀R:UQ,(∀W,J W→R (.nx st) L C W)→be c m d R x st L C W)(h2:b=false→∀R:UQ,(∀W,J W→R (.nx st) L C W)→be c m d R e st L C W)(hk:∀W,J W→be c m d Q g st L C W):fO b (be c m d (jU c m d Q g) x st L C W) (be c m d (jU c m d Q g) e st L C W):=by
 induction b
 ·exact h2 rfl _ hk
 ·exact h1 rfl _ hk
theorem ES(J:UW→UV→Prop)(h1:b=true→∀R:UQ,(∀W v,J W v→R (.nx (v::st)) L C W)→be c m d R x st L C W)(h2:b=false→∀R:UQ,(∀W v,J W v→R (.nx (v::st)) L C W)→be c m d R e st L C W)(hk:∀W v,J W v→be c m d Q g (v::st) L C W):fO b (be c m d (jU c m d Q g) x st L C W) (be c m d (jU c m d Q g) e st L C W):=by
 induction b
 ·exact h2 rfl _ hk
 ·exact h1 rfl _ hk
end
noncomputable def jb:ip→T
 | .err m=>lS m
 | .nul=>lS aO
 | .vec p=>sC p
noncomputable def jc(ns:List T)(r:ip):Rq:=.r (.t (jb r)) [.l ns]
noncomputable def Bj:Option Nat→V
 | none=>.none
 | some i=>.int i
theorem qj(l:List (Option Nat)):l.map cL=(l.map Bj).map .leaf:=by
 rw[Oc];exact Oj fun o ζ=>by induction o<;>rfl
theorem mX(l:List (Option Nat)):(l.map Bj).all aF=true:=by
 rw[Qo];exact List.all_eq_true.mpr fun o ζ=>by induction o<;>rfl
theorem tH(l:List (Option Nat)):(l.map Bj).contains .none=l.any (·.isNone):=by
 induction l with
 | nil=>rfl
 | cons o r ih=>
  rw[NT,Ox,OA,ih]
  induction o<;>rfl
theorem uf(k:Kd):(vD.map fun k=>V.str k.s).findIdx? (fun y=>decide (y=.str k.s))=some k.rank:=by induction k<;>ac_rfl
theorem zF(k w:Kd):cq (vD.map fun k=>lS k.s) (max k.rank w.rank)=some (lS (eA k w).s):=by induction k<;>induction w<;>ac_rfl
theorem E7{W:UW}{j:Nat}{k:Str}{xs:List T}{t:T}(h:af W j=some (.l xs)):et [tS k,.w j,.t t] W=some ([lS k,.list xs,t],ar W j (.z (.list xs))):=by
 rw[lk,GD,m9,lk,xf h,m9]
inductive J2(N xs:List T)(j:Nat)(W:UW):Prop
 | mk(g0:af W 0=some (.l N))(gj:af W j=some (.l xs))
theorem tX{α β:Type}(f:α→β)(l:List α):(l.map f).isEmpty=l.isEmpty:=by induction l<;>rfl
theorem wN(t:Option Tx):decide (bW (.t (fH t))=.none)=t.isNone:=by induction t<;>rfl
theorem tu(n:Nat):(NM n [lS (No "")]).flatten=(NM n kh).map bz:=by
 rw[RX,Py];rfl
theorem lx(as:List (Str×Tx))(n:Str)(ts:Tx):aN (dU as) n (sD ts)=dU (aN as n ts):=by
 unfold aN;rw[show (dU as).any (fun p=>decide (p.1=n))=as.any fun p=>decide (p.1=n) from Sa];refine dP (o:=as.any fun p=>decide (p.1=n)) ?_ ?_
 ·exact (N8 (l₂:=[(n,ts)])).symm
 ·
  show PU _ (PU _ as)=PU _ (PU _ as);rw[Oc,Oc];refine Oj fun e ζ=>?_;show (if e.1=n then (e.1,sD ts) else (e.1,sD e.2))=(fun e:Str×Tx=>(e.1,sD e.2)) (if e.1=n then (e.1,ts) else e);by_cases w:e.1=n
  ·rw[if_pos w,if_pos w]
  ·rw[if_neg w,if_neg w]
theorem tI{W:UW}{o:WO}{v:UV}{t:T}(h:pk W v=some t):pk (W++[o]) v=some t:=by
 induction v with
 | w j=>
  have h:N0 (af W j) mY=some t:=h;show N0 (af _ j) mY=_;refine ay (o:=af W j) (fun e=>?_) (fun x e=>?_)
  ·rw[e]at h;exact ac h
  ·rw[ax e];rw[e]at h;exact h
 | _=>exact h
theorem w5{W:UW}{v:UV}{xs:List T}(h:pk W v=some (.list xs)):bW v=.oth:=by
 induction v with
 | t t=>cases Option.some.inj h;rfl
 | _=>rfl
theorem F7{W:UW}{a b:UV}{xs ys:List T}{k:KU}(h:pk W a=some (.list xs))(h':pk W b=some (.list ys))(l:xs.length+ys.length≤100000)(q:cy (.l (xs++ys)) W k):n7 .Add a b W k:=by
 unfold n7;rw[w5 h];exact .addL h h' l q
inductive J5(N:List T)(its g:List X)(as:List (Str×Tx))(j a gi:Nat)(W:UW):Prop
 | mk(g0:af W 0=some (.l N))(gj:af W j=some (.l (its.map dg)))(ga:af W a=some (.d (dU as)))(gg:af W gi=some (.l (g.map dg)))
theorem J5.old{N:List T}{its g:List X}{as:List (Str×Tx)}{j a gi:Nat}{W:UW}{o:WO}(h:J5 N its g as j a gi W):J5 N its g as j a gi (W++[o]):=⟨ax h.1,ax h.2,ax h.3,ax h.4⟩
theorem J5.keep{N:List T}{its g:List X}{as:List (Str×Tx)}{j a gi i:Nat}{W:UW}{o:WO}(h:J5 N its g as j a gi W)(n0:0≠i)(n1:j≠i)(n2:a≠i)(n3:gi≠i):J5 N its g as j a gi (ar W i o):=⟨ai n0 h.1,ai n1 h.2,ai n2 h.3,ai n3 h.4⟩
theorem J5.keepN{N:List T}{its g:List X}{as:List (Str×Tx)}{j a gi:Nat}{W W':UW}{o:WO}(h:J5 N its g as j a gi W)(h':J5 N its g as j a gi W'):J5 N its g as j a gi (ar W' W.length o):=h'.keep (N1 (dt h.1)) (N1 (dt h.2)) (N1 (dt h.3)) (N1 (dt h.4))
section
variable{c:Cx}{d:Nat}(P:PF c)
theorem CH{Q:UQ}{W:UW}{j a gi n M:Nat}{N:List T}{its g:List X}{as:List (Str×Tx)}{nm ad:Option Tx}{l0 l1 l2 l3 l4 l5 l7 l9 l10 l11 l12 l13 l14 c0:Option UV}(h:J5 N its g as j a gi W)(n1:a≠0)(n2:a≠j)(n4:gi≠a)(hM:M≤1000)(hn:(bB n nm).length=n)(hn1:n≤1000)(ha:∀ns,ad=some ns→ns.length≤1000)(has:(dU as).length<1000)(hQ:∀W x,J5 N its g (aN as ah (bD n M nm ad)) j a gi W→Q (.nx []) [l0,l1,l2,l3,l4,l5,some (.t (fH ad)),l7,some (ti M),l9,l10,l11,l12,l13,some x] [c0,some (.t (fH nm)),some (ti n),some (.w a),some (.w j)] W) :
  be c false d Q (.cel 1<|.cst .none<|.cmp .Is<|.ite (.cst (.str "")<|.lst 1<|.cel 2<|.bin .Mult<|.fin) (.cel 1<|.fin)<|.loc 6<|.cst .none<|.cmp .Is<|.ite (.lst 0<|.fin) (.loc 6<|.fin)<|.bin .Add<|.put 14<|.cst (.str "character")<|.loc 14<|.cst (.str "")<|.lst 1<|.loc 8<|.glo (.bi "len")<|.loc 14<|.cal 1<|.bin .Sub<|.bin .Mult<|.bin .Add<|.dic 0<|.tpl 3<|.cel 3<|.cst (.str "names")<|.sit<|.fin) [] [l0,l1,l2,l3,l4,l5,some (.t (fH ad)),l7,some (ti M),l9,l10,l11,l12,l13,l14] [c0,some (.t (fH nm)),some (ti n),some (.w a),some (.w j)] W:=by
 symm;exists ES (fun W v=>J5 N its g as j a gi W∧pk W v=some (.list ((bB n nm).map bz))) (fun e R hR=>?_) (fun e R hR=>?_) fun W v h=>?_
 ·cases nm with
  | some=>exact (Nt e).elim
  | none=>
   refine .mulL (jd br) rfl (Int.ofNat_le.mpr (Np hn1 (by decide))) (NC (by decide) (NB n)) ?_;rw[tu];symm;exact hR _ _ ⟨h.old.old,jd br⟩
 ·cases nm with
  | none=>exact NG e
  | some ns=>
   symm;exact hR _ _ ⟨h,rfl⟩
 symm;exists ES (fun W w=>(J5 N its g as j a gi W∧pk W v=some (.list ((bB n nm).map bz)))∧pk W w=some (.list ((ad.getD []).map bz))) (fun e R hR=>?_) (fun e R hR=>?_) fun W w h=>?_
 ·cases ad with
  | some=>exact (Nt e).elim
  | none=>exact hR _ _ ⟨⟨h.1.old,tI h.2⟩,jd br⟩
 ·cases ad with
  | none=>exact NG e
  | some ns=>
   symm;exact hR _ _ ⟨h,rfl⟩
 symm;have la:(ad.getD []).length≤1000:=by
  cases ad with
  | none=>exact Ol _
  | some ns=>exact ha _ rfl
 have ll:(bB n nm++ad.getD []).length≤2000:=by rw[NH,hn];exact O4 hn1 la
 refine F7 h.1.2 h.2 (by rw[← NH,← N8,Nq];exact Np ll (by decide)) ?_;rw[← N8];symm;exists .len (jd (ax br)) ?_;rw[Nq];refine .mulL (jd br) rfl (NC (P2 _ (NB _)) (Int.ofNat_le.mpr (Np hM (by decide)))) (ze ll) ?_;rw[tu,QO];symm;refine .addL (jd (ax (ax br))) (jd br) (by rw[Nq,Nq,Od];exact K0 ll hM) ?_;rw[← N8];symm;refine .d0 ?_;have k5:=h.1.1.old (o:=.l ((bB n nm++ad.getD []).map bz)) |>.old (o:=.l [lS (No "")]) |>.old (o:=.l ((NM (M-(bB n nm++ad.getD []).length) kh).map bz));generalize W++[WO.l ((bB n nm++ad.getD []).map bz)]++[WO.l [lS (No "")]]++[WO.l ((NM (M-(bB n nm++ad.getD []).length) kh).map bz)]=W3 at k5 ⊢;symm;refine (?_:au (et [tS qR,.w W3.length,.w (W3++[WO.l ((bD n M nm ad).map bz)]).length] (W3++[WO.l ((bD n M nm ad).map bz)]++[WO.d []])) _);rw[xg (ax br) br (N6 (dt br))];have k6:=J5.keepN (o:=.z (.dict [])) (k5.old (o:=.l ((bD n M nm ad).map bz))) (k5.keepN (o:=.z (.list ((bD n M nm ad).map bz))) ((k5.old (o:=.l ((bD n M nm ad).map bz))).old (o:=.d [])));generalize ar (ar (W3++[WO.l ((bD n M nm ad).map bz)]++[WO.d []]) W3.length _) _ _=W4 at k6 ⊢;symm;refine .d rfl k6.3 (Nat.lt_trans has (by decide)) ?_;rw[show aN (dU as) (No "names") _=dU (aN as ah (bD n M nm ad)) from lx ..];symm;exact hQ _ _ ⟨ai n1.symm k6.1,ai n2.symm k6.2,eo k6.3,ai n4 k6.4⟩
theorem CI{W:UW}{j a gi:Nat}{N:List T}{its g:List X}{as:List (Str×Tx)}{sp:List (Option Nat)}{to:Kd}{ad:Option Tx}{l0 l1 l2 l3 l4 l5 l7 l9 l10 l11 l14:Option UV}(g0:af W 0=some (.l N))(gj:af W j=some (.l (its.map dg)))(ga:af W a=some (.d (dU as)))(gg:af W gi=some (.l (g.map dg)))(n0:j≠0)(n1:a≠0)(n2:a≠j)(n3:gi≠j)(n4:gi≠a)(h0:0<g.length)(hl:sp.length≤5000)(hc:max its.length (cnt 0 sp)≤1000)(hn:∀ns,as.lookup ah=some ns→ns.length=its.length)(ha:∀ns,ad=some ns→ns.length≤1000)(has:(dU as).length<1000) :
  be c false d (lJ 1 (Eq (.r (.t (sC (dW to its as sp ad g))) [.l N]))) (.loc 8<|.cel 2<|.cmp .Gt<|.ite (.cel 4<|.loc 12<|.cst (.str "list")<|.cmp .Eq<|.ite (.cst (.str "NULL")<|.fin) (.cst .none<|.fin)<|.lst 1<|.loc 8<|.cel 2<|.bin .Sub<|.bin .Mult<|.bin .Add<|.ptc 4<|.cel 1<|.cst .none<|.cmp .IsNot<|.or (.loc 6<|.cst .none<|.cmp .IsNot<|.fin)<|.ite (.cel 1<|.cst .none<|.cmp .Is<|.ite (.cst (.str "")<|.lst 1<|.cel 2<|.bin .Mult<|.fin) (.cel 1<|.fin)<|.loc 6<|.cst .none<|.cmp .Is<|.ite (.lst 0<|.fin) (.loc 6<|.fin)<|.bin .Add<|.put 14<|.cst (.str "character")<|.loc 14<|.cst (.str "")<|.lst 1<|.loc 8<|.glo (.bi "len")<|.loc 14<|.cal 1<|.bin .Sub<|.bin .Mult<|.bin .Add<|.dic 0<|.tpl 3<|.cel 3<|.cst (.str "names")<|.sit<|.fin) (.fin)<|.fin) (.fin)<|.glo (.ty "range")<|.glo (.bi "len")<|.cel 0<|.cal 1<|.cal 1<|.for 7 (.cel 0<|.loc 7<|.sub<|.cst .none<|.cmp .IsNot<|.ite (.loc 13<|.loc 7<|.glo (.bi "len")<|.loc 13<|.cal 1<|.bin .Mod<|.sub<|.cel 4<|.cel 0<|.loc 7<|.sub<|.sit<|.fin) (.fin)<|.fin)<|.loc 12<|.cel 4<|.cel 3<|.tpl 3<|.rtn) [] [l0,l1,l2,l3,l4,l5,some (.t (fH ad)),l7,some (ti (max its.length (cnt 0 sp):Nat)),l9,l10,l11,some (tS to.s),some (.w gi),l14] [some (.t (.list (sp.map cL))),some (.t (fH (as.lookup ah))),some (ti its.length),some (.w a),some (.w j)] W:=by
 symm;refine aC (fun e=>?_) fun e=>?_
 ·have e:=Int.ofNat_lt.mp e;have hM:max its.length (cnt 0 sp)=cnt 0 sp:=So (OI (Nat.not_le.mp fun h=>N1 e (Sy h).symm));rw[hM]at e hc ⊢;have hs:∀j,some j∈sp→j<(fG to its (cnt 0 sp)).length:=fun j h=>by
   unfold fG;rw[NH,Od,PQ (OI e)];exact gF sp 0 h
  have ep:dW to its as sp ad g=⟨to,cH g 0 (fG to its (cnt 0 sp)) sp,eG its.length (cnt 0 sp) as ad⟩:=by
   unfold dW o8;rw[show Qx its.length (cnt 0 sp)=true from Qc e];rfl
  rw[ep];symm;rw[kI];exists AV (V:=fun b=>.t (cond b (lS aO) lN)) (fun ζ R hR=>?_) (fun ζ R hR=>?_) ?_
  ·exact hR
  ·symm;exact hR
  symm;refine .mulL (jd br) rfl (NC (P2 _ (NB _)) (Int.ofNat_le.mpr (Np hc (by decide)))) (ze (Np (OI e) (Np hc (by decide)))) ?_;rw[QO,RX];symm;refine .addL (jd (ax (ax gj))) (jd br) (by rw[Nq,Od];exact K0 (Np (OI e) (Np hc (by decide))) hc) ?_;rw[show its.map dg++NM (cnt 0 sp-its.length) (bif to.isL then lS aO else lN)=(fG to its (cnt 0 sp)).map dg by unfold fG;rw[N8,Py];induction to<;>rfl];symm;have k5:J5 N (fG to its (cnt 0 sp)) g as (W++[WO.l [bif to.isL then lS aO else lN]]++[WO.l (NM (cnt 0 sp-its.length) (bif to.isL then lS aO else lN))]).length a gi (W++[WO.l [bif to.isL then lS aO else lN]]++[WO.l (NM (cnt 0 sp-its.length) (bif to.isL then lS aO else lN))]++[WO.l ((fG to its (cnt 0 sp)).map dg)]):=⟨ax (ax (ax g0)),br,ax (ax (ax ga)),ax (ax (ax gg))⟩;have m0:=N6 (dt (ax (o:=.l (NM (cnt 0 sp-its.length) (bif to.isL then lS aO else lN))) (ax (o:=.l [bif to.isL then lS aO else lN]) g0)));have m2:=N1 (dt (ax (o:=.l (NM (cnt 0 sp-its.length) (bif to.isL then lS aO else lN))) (ax (o:=.l [bif to.isL then lS aO else lN]) ga)));have m3:=N1 (dt (ax (o:=.l (NM (cnt 0 sp-its.length) (bif to.isL then lS aO else lN))) (ax (o:=.l [bif to.isL then lS aO else lN]) gg)));generalize (W++[WO.l [bif to.isL then lS aO else lN]]++[WO.l (NM (cnt 0 sp-its.length) (bif to.isL then lS aO else lN))]).length=j at k5 m0 m2 m3 ⊢;generalize W++[WO.l [bif to.isL then lS aO else lN]]++[WO.l (NM (cnt 0 sp-its.length) (bif to.isL then lS aO else lN))]++[WO.l ((fG to its (cnt 0 sp)).map dg)]=W at k5 ⊢;rw[(show eG its.length (cnt 0 sp) as ad=bif (as.lookup ah).isNone&&ad.isNone then as else aN as ah (bD its.length (cnt 0 sp) (as.lookup ah) ad) from rfl)];generalize as.lookup ah=nm at hn ⊢;have hn:(bB its.length nm).length=its.length:=by
   induction nm with
   | none=>exact Od
   | some ns=>exact hn _ rfl
  exists KC (nm.isSome||ad.isSome) (fun e=>by induction nm with | none=>exact (Nt e).elim | some=>rfl) (fun e R hR=>?_) ?_
  ·rw[wN]
   induction nm with
   | some=>exact NG e
   | none=>induction ad<;>exact hR
  symm;cases e2:nm.isSome||ad.isSome with
  | false=>
   have:(nm.isNone&&ad.isNone)=true:=by cases nm<;>induction ad<;>first | rfl | exact NG e2
   rw[this];exact td k5.1 k5.2 k5.3 k5.4 m0 n1 m2 m3 hs h0 hl
  | true=>
   have:(nm.isNone&&ad.isNone)=false:=by cases nm<;>induction ad<;>first | rfl | exact (Nt e2).elim
   rw[this];exact CH k5 n1 m2 n4 hc hn (Np (OI e) hc) ha has fun W x h=>td h.1 h.2 h.3 h.4 m0 n1 m2 m3 hs h0 hl
 ·have e:=Pv fun h=>e (Int.ofNat_lt.mpr h);have hM:cnt 0 sp≤its.length:=Np (Qd ..) e;have ep:dW to its as sp ad g=⟨to,cH g 0 its sp,as⟩:=by
   unfold dW o8;rw[qm hM,show Qx its.length (cnt 0 sp)=false by cases h:Qx its.length (cnt 0 sp) with | false=>rfl | true=>exact absurd (NJ h) (Nat.not_lt.mpr hM)];rfl
  rw[ep];exact td g0 gj ga gg n0 n1 n2 n3 (fun j h=>N2 (gF sp 0 h) hM) h0 hl
end
end
section
theorem zS{c:Cx}{W:UW}{k:V→Prop}{n:Str}{a:UV}{xs:List T}{id:String}(h:pk W a=some (.list xs))(e:rB n=some id)(q:k (.bi id)):rz c W k n a:=by
 unfold rz;rw[h];show au (rB n) _;rw[e];exact q
section
variable{c:Cx}{d:Nat}(P:PF c)
include P
theorem CJ{W:UW}{N:List T}{p w:PV}{sp:List (Option Nat)}{ad:Option Tx}{l0 l1 l5 l7 l9 l10 l11 l12 l13 l14:Option UV}(g0:af W 0=some (.l N))(hp:∀x∈p.items,ej p.kind x)(hw:∀x∈w.items,ej w.kind x)(hlw:w.items.length≤1000)(hl:sp.length≤1000)(hN:N.length≤1000)(hc:max p.items.length (cnt 0 sp)≤1000)(hn:∀ns,p.attrs.lookup ah=some ns→ns.length=p.items.length)(ha:∀ns,ad=some ns→ns.length≤1000)(has:(dU p.attrs).length<1000){r:ip}{ms:List T}(hr:cf p w sp ad=r)(hm:fF p w sp=ms) :
  be c false (d+4) (lJ 1 (Eq (jc (N++ms) r))) (.cst .none<|.cel 0<|.cmp .In<|.and (.glo (.bi "len")<|.loc 2<|.cst (.int 1)<|.sub<|.cal 1<|.cst (.int 1)<|.cmp .Gt<|.fin)<|.ite (.cst (.str "NAs are not allowed in subscripted assignments")<|.rtn) (.fin)<|.cel 0<|.lst 0<|.cmp .NotEq<|.and (.loc 2<|.cst (.int 1)<|.sub<|.lst 0<|.cmp .Eq<|.fin)<|.ite (.cst (.str "replacement has length zero")<|.rtn) (.fin)<|.glo (.fn 128)<|.cal 0<|.put 11<|.loc 11<|.glo (.bi "max")<|.loc 11<|.mth "index"<|.loc 4<|.cal 2<|.loc 11<|.mth "index"<|.loc 2<|.cst (.int 0)<|.sub<|.cal 2<|.cal 2<|.sub<|.put 12<|.glo (.fn 131)<|.loc 4<|.cel 4<|.loc 12<|.cal 3<|.ptc 4<|.cel 0<|.lst 0<|.cmp .Eq<|.ite (.loc 12<|.cel 4<|.cel 3<|.tpl 3<|.rtn) (.fin)<|.glo (.bi "len")<|.cel 0<|.cal 1<|.glo (.bi "len")<|.loc 2<|.cst (.int 1)<|.sub<|.cal 1<|.bin .Mod<|.cst (.int 0)<|.cmp .NotEq<|.ite (.loc 3<|.mth "append"<|.cst (.str "number of items to replace is not a multiple of replacement length")<|.cal 2<|.pop<|.fin) (.fin)<|.glo (.fn 131)<|.loc 2<|.cst (.int 0)<|.sub<|.loc 2<|.cst (.int 1)<|.sub<|.loc 12<|.cal 3<|.put 13<|.glo (.ty "dict")<|.cel 3<|.cal 1<|.ptc 3<|.loc 8<|.cel 2<|.cmp .Gt<|.ite (.cel 4<|.loc 12<|.cst (.str "list")<|.cmp .Eq<|.ite (.cst (.str "NULL")<|.fin) (.cst .none<|.fin)<|.lst 1<|.loc 8<|.cel 2<|.bin .Sub<|.bin .Mult<|.bin .Add<|.ptc 4<|.cel 1<|.cst .none<|.cmp .IsNot<|.or (.loc 6<|.cst .none<|.cmp .IsNot<|.fin)<|.ite (.cel 1<|.cst .none<|.cmp .Is<|.ite (.cst (.str "")<|.lst 1<|.cel 2<|.bin .Mult<|.fin) (.cel 1<|.fin)<|.loc 6<|.cst .none<|.cmp .Is<|.ite (.lst 0<|.fin) (.loc 6<|.fin)<|.bin .Add<|.put 14<|.cst (.str "character")<|.loc 14<|.cst (.str "")<|.lst 1<|.loc 8<|.glo (.bi "len")<|.loc 14<|.cal 1<|.bin .Sub<|.bin .Mult<|.bin .Add<|.dic 0<|.tpl 3<|.cel 3<|.cst (.str "names")<|.sit<|.fin) (.fin)<|.fin) (.fin)<|.glo (.ty "range")<|.glo (.bi "len")<|.cel 0<|.cal 1<|.cal 1<|.for 7 (.cel 0<|.loc 7<|.sub<|.cst .none<|.cmp .IsNot<|.ite (.loc 13<|.loc 7<|.glo (.bi "len")<|.loc 13<|.cal 1<|.bin .Mod<|.sub<|.cel 4<|.cel 0<|.loc 7<|.sub<|.sit<|.fin) (.fin)<|.fin)<|.loc 12<|.cel 4<|.cel 3<|.tpl 3<|.rtn) [] [l0,l1,some (.t (.tup [lS w.kind.s,.list (w.items.map dg),.dict (dU w.attrs)])),some (.w 0),some (tS p.kind.s),l5,some (.t (fH ad)),l7,some (ti (max p.items.length (cnt 0 sp):Nat)),l9,l10,l11,l12,l13,l14] [some (.t (.list (sp.map cL))),some (.t (fH (p.attrs.lookup ah))),some (ti p.items.length),some (.t (.dict (dU p.attrs))),some (.t (.list (p.items.map dg)))] W:=by
 symm;refine .in_lst (v:=.none) (ys:=sp.map Bj) (Nw (fun l=>some (T.list l)) (qj sp)) rfl (mX sp) ?_;rw[tH];symm;unfold cf at hr;unfold fF at hm;exists F6 (fun W=>af W 0=some (.l N)) (decide (1<w.items.length)&&sp.any (·.isNone)) g0 (fun e R hR=>?_) (fun e=>by rw[e,SL]) (fun W g0=>?_)
 ·exists .len rfl ?_;have h:=hR _ g0;rw[e,SW]at h;rw[Nq,show decide ((1:Int)<(w.items.length:Int))=decide (1<w.items.length) from decide_eq_decide.mpr Int.ofNat_lt];exact h
 symm;refine aw (o:=decide (1<w.items.length)&&sp.any (·.isNone)) (fun e1=>?_) (fun e1=>?_)
 ·
  rw[e1]at hr hm;subst hr hm;symm;exact .k [] rfl rfl (oV g0) (Nw (jc · _) (Nr N))
 ·
  rw[e1]at hr hm;symm;refine ng rfl (jd br) ?_;rw[tX];symm;have g0:=ax (o:=.l []) g0;generalize W++[WO.l []]=W at g0 ⊢;exists F6 (fun W=>af W 0=some (.l N)) (!sp.isEmpty&&w.items.isEmpty) g0 (fun e R hR=>?_) (fun e=>by rw[e];rfl) (fun W g0=>?_)
  ·refine qE rfl (jd br) ?_;rw[tX];symm;have h:=hR _ (ax (o:=.l []) g0);rw[e]at h;exact h
  symm;refine aw (o:=!sp.isEmpty&&w.items.isEmpty) (fun e2=>?_) (fun e2=>?_)
  ·
   rw[e2]at hr hm;subst hr hm;symm;exact .k [] rfl rfl (oV g0) (Nw (jc · _) (Nr N))
  ·
   rw[e2]at hr hm;have hw0:sp.isEmpty=false→0<w.items.length:=fun h=>by
    rw[h]at e2;exact Pz fun w0=>by rw[List.length_eq_zero_iff.mp w0]at e2;exact (Nt e2.symm).elim
   symm;exists .r [] rfl rfl rfl (zl P) ?_;exists .index (v:=.str p.kind.s) (vs:=vD.map fun k=>.str k.s) rfl rfl rfl (uf _) ?_;exists .index (v:=.str w.kind.s) (vs:=vD.map fun k=>.str k.s) rfl rfl rfl (uf _) ?_;refine .max2 ?_;rw[wW];symm;exists fS rfl (zF _ _) ?_;exists .r [] rfl rfl rfl (CL P hp (vI _ _)) ?_;refine qE rfl (jd br) ?_;rw[tX];symm;have n0:(W++[]).length+0≠0:=fun w=>by rw[Nr]at w;exact N6 (dt g0) w
   have gj:af (W++[]++[WO.l ((p.items.map (aB p.kind (eA p.kind w.kind))).map dg)]++[WO.l []]) ((W++[]).length+0)=some (.l _):=ax br;have g0:af (W++[]++[WO.l ((p.items.map (aB p.kind (eA p.kind w.kind))).map dg)]++[WO.l []]) 0=some (.l N):=ax (ax (by rw[Nr];exact g0));generalize (W++[]).length+0=j at n0 gj ⊢;generalize W++[]++[WO.l ((p.items.map (aB p.kind (eA p.kind w.kind))).map dg)]++[WO.l []]=W at g0 gj ⊢;refine aw (o:=sp.isEmpty) (fun e3=>?_) (fun e3=>?_)
   ·
    symm;refine (?_:au (et [tS (eA p.kind w.kind).s,.w j,.t (.dict (dU p.attrs))] W) _);rw[E7 gj];symm;refine .k [] rfl rfl (oV (ai n0.symm g0)) ?_;have e4:bA w sp=[]:=by unfold bA;rw[e3];rfl
    have e5:aD p w sp ad=⟨eA p.kind w.kind,p.items.map (aB p.kind (eA p.kind w.kind)),p.attrs⟩:=by unfold aD;rw[e3];rfl
    subst hr hm;show jc (N++bA w sp) (.vec (aD p w sp ad))=_;rw[e4,e5,Nr];rfl
   ·
    symm;exists .len rfl ?_;exists .len rfl ?_;rw[Nq,Nq];exists ⟨Int.ofNat_lt.mpr (hw0 e3),?_⟩;rw[qs];have em:bA w sp=dJ sp.length w.items.length:=by unfold bA;rw[e3];rfl
    have er:aD p w sp ad=dW (eA p.kind w.kind) (p.items.map (aB p.kind (eA p.kind w.kind))) p.attrs sp ad (w.items.map (aB w.kind (eA p.kind w.kind))):=by unfold aD;rw[e3];rfl
    have hr:ip.vec _=r:=er▸hr;have hm:dJ _ _=ms:=em▸hm;subst hr hm;exists ET (J2 (N++dJ sp.length w.items.length) ((p.items.map (aB p.kind (eA p.kind w.kind))).map dg) j) (fun e R hR=>?_) (fun e R hR=>?_) fun W h=>?_
    ·exists zS (jd g0) (by ac_rfl:_=some "list.append") ?_;exists .append rfl g0 (NV hN (by decide)) ?_;have:dJ sp.length w.items.length=[lS lQ]:=by unfold dJ;rw[show (sp.length % w.items.length==0)=false from (Oi _).mp e];rfl
     exact hR _ ⟨this▸eo g0,ai n0 gj⟩
    ·have:dJ sp.length w.items.length=[]:=by unfold dJ;rw[show (sp.length % w.items.length==0)=true from (O7 _).mp e];rfl
     rw[this,Nr]at hR;exact hR _ ⟨g0,gj⟩
    symm;exists .r [] rfl rfl rfl (CL P hw (vH _ _)) ?_;refine .dict rfl ?_;rw[show p.items.length=(p.items.map (aB p.kind (eA p.kind w.kind))).length from (Nq _).symm]at hc hn ⊢;exact CI (ax (ax h.1)) (ax (ax h.2)) br (ax br) n0 (N6 (dt (ax h.1))) (N6 (dt (ax h.2))) (N6 (dt h.2)) (N1 (dt br)) (by rw[Nq];exact hw0 e3) (Np hl (by decide)) hc hn ha has
end
end
section
theorem tG(l:List (Option Nat))(i:Nat):(l.map Bj).contains (.int i)=decide (some i∈l):=by
 induction l with
 | nil=>exact (Ny Oo).symm
 | cons o r ih=>
  rw[NT,Ox,show decide (some i∈o::r)=(decide (some i=o)||decide (some i∈r)) by rw[← RB];exact decide_eq_decide.mpr NQ]
  congr 1
  induction o with
  | none=>exact (Ny (NN i)).symm
  | some j=>
   by_cases w:i=j
   ·rw[w,NF rfl];exact Oh _
   ·rw[Ny fun h=>w (Option.some.inj h)];exact Qz fun h=>w (Int.ofNat_inj.mp (V.int.inj h))
theorem E0{W:UW}{j:Nat}{t:T}(h:pk W (.w j)=some t):frz W (.w j)=some (t,ar W j (.z t)):=by
 have h:N0 (af W j) mY=some t:=h;refine ay (o:=af W j) (fun e=>?_) (fun o e=>?_)
 ·rw[e]at h;exact ac h
 ·
  rw[e]at h
  induction o with
  | l xs=>rw[xf e];injection h with h;subst h;rfl
  | d xs=>rw[E6 e];injection h with h;subst h;rfl
  | z x=>
   injection h with h;subst h;rw[vC,e];show eK _ _=_;rw[sz,e];rfl
  | _=>exact ac h
theorem Eo{C:UL}{W:UW}{K:List T→UL→UW→Prop}{body:T→UL→UW→(Option T→UL→UW→Prop)→Prop}{f:Nat→T}(h:∀(i:Nat) kk,kk (some (f i)) C W→body (lI i) C W kk){l:List Nat} : ∀{ys},K (ys++l.map f) C W→bT body K (l.map fun i:Nat=>lI i) ys C W:=by
 induction l with
 | nil=>
  intro ys q;rw[Pp,Nr]at q;exact q
 | cons i l ih=>
  intro ys q;rw[NT,ND]at q;exact h _ _ (ih q)
inductive J3(N ks:List T)(es:List (Str×Tx))(x l:Nat)(W:UW):Prop
 | mk(g0:af W 0=some (.l N))(gk:pk W (.w x)=some (.list ks))(gl:af W l=some (.d (dU es)))
section
variable{N ks:List T}{es:List (Str×Tx)}{x l i:Nat}{W W':UW}{o:WO}
theorem J3.old(h:J3 N ks es x l W):J3 N ks es x l (W++[o]):=⟨ax h.1,tI h.2,ax h.3⟩
theorem tJ{v:Nat}{t:T}(n:v≠i)(h:pk W (.w v)=some t):pk (ar W i o) (.w v)=some t:=by
 have h:N0 (af W v) mY=some t:=h;show N0 (af _ v) mY=_;refine ay (o:=af W v) (fun e=>?_) (fun x e=>?_)
 ·rw[e]at h;exact ac h
 ·rw[ai n e];rw[e]at h;exact h
theorem zA{v:Nat}{t:T}(h:pk W (.w v)=some t):v<W.length:=by
 have h:N0 (af W v) mY=some t:=h;refine ay (o:=af W v) (fun e=>?_) (fun x e=>?_)
 ·replace h:=(e)▸h;exact ac h
 ·exact dt e
theorem J3.keepN(h:J3 N ks es x l W)(h':J3 N ks es x l W'):J3 N ks es x l (ar W' W.length o):=⟨ai (N1 (dt h.1)) h'.1,tJ (N1 (zA h.2)) h'.2,ai (N1 (dt h.3)) h'.3⟩
theorem J3.fz(h:J3 N ks es x l W)(n0:x≠0)(n1:l≠x):J3 N ks es x l (ar W x (.z (.list ks))):=by
 refine ⟨ai n0.symm h.1,?_,ai n1 h.3⟩;show N0 (af _ x) mY=_;rw[aU,e8,Tb (zA h.2)];rfl
end
theorem b9.del{as}(h:b9 as):(dU (as.foldl bP [])).length<100000:=by induction h<;>exact NJ rfl
section
variable{c:Cx}{d:Nat}
theorem CK{Q:UQ}{W:UW}{N:List T}{p:PV}{sp:List (Option Nat)}{l1 l2 l3 l5 l6 l7 l9 l10 l11 l12 l13 l14:Option UV}(g0:af W 0=some (.l N))(hc:max p.items.length (cnt 0 sp)≤1000)(hat:b9 p.attrs)(hnm:∀ns,p.attrs.lookup ah=some ns→ns.length=p.items.length){r:ip}(hQ:∀v L C W,gK 1 (Eq (jc N r)) v W→Q (.ret v) L C W)(hr:(bif p.kind.isL then .vec (pA p sp) else bif sp.isEmpty then .vec p else .err fT)=r) :
  be c false (d+4) Q (.loc 4<|.cst (.str "list")<|.cmp .NotEq<|.ite (.cel 0<|.lst 0<|.cmp .NotEq<|.ite (.cst (.str "replacement has length zero")<|.fin) (.loc 0<|.fin)<|.rtn) (.fin)<|.glo (.ty "range")<|.loc 8<|.cal 1<|.lcm 2 1 (.loc 1<|.cel 0<|.cmp .NotIn<|.ite (.loc 1<|.fin) (.fin)<|.fin)<|.put 9<|.cel 3<|.dcm 2 1 (.loc 1<|.cst (.str "names")<|.cmp .NotEq<|.ite (.loc 1<|.cel 3<|.loc 1<|.sub<|.fin) (.fin)<|.fin)<|.put 10<|.cel 1<|.cst .none<|.cmp .IsNot<|.ite (.cst (.str "character")<|.loc 9<|.lcm 2 1 (.loc 1<|.cel 2<|.cmp .Lt<|.ite (.cel 1<|.loc 1<|.sub<|.fin) (.cst (.str "")<|.fin)<|.fin)<|.dic 0<|.tpl 3<|.loc 10<|.cst (.str "names")<|.sit<|.fin) (.fin)<|.loc 4<|.loc 9<|.lcm 2 1 (.loc 1<|.cel 2<|.cmp .Lt<|.ite (.cel 4<|.loc 1<|.sub<|.fin) (.cst (.str "NULL")<|.fin)<|.fin)<|.loc 10<|.tpl 3<|.rtn) [] [some (.t (sC p)),l1,l2,l3,some (tS p.kind.s),l5,l6,l7,some (ti (max p.items.length (cnt 0 sp):Nat)),l9,l10,l11,l12,l13,l14] [some (.t (.list (sp.map cL))),some (.t (fH (p.attrs.lookup ah))),some (ti p.items.length),some (.t (.dict (dU p.attrs))),some (.t (.list (p.items.map dg)))] W:=by
 symm;rw[kI];refine aG (o:=p.kind.isL) (fun hk=>?_) (fun hk=>?_)
 ·
  rw[hk]at hr;symm;refine ng rfl (jd br) ?_;rw[tX];symm;exists AV (V:=fun b=>.t (cond b (lS fT) (sC p))) (fun ζ R hR=>?_) (fun ζ R hR=>?_) ?_
  ·exact hR
  ·symm;exact hR
  symm;refine hQ _ _ _ _ (.k [] rfl rfl (oV (ax g0)) ?_);rw[← hr]
  induction sp.isEmpty<;>rfl
 ·
  rw[hk]at hr;subst hr;symm;exists .rng1 (NC (by decide) (NB _)) (Int.ofNat_le.mpr (Np hc (by decide))) ?_;rw[bv];refine (?h:∀(l:List Nat) (ys:List T),(bN p.items.length sp).map (fun i:Nat=>lI i)=ys++(l.filter fun i=>!decide (some i∈sp)).map (fun i:Nat=>lI i)→bT _ _ (l.map fun i:Nat=>lI i) ys _ W) (Ou (max p.items.length (cnt 0 sp))) [] rfl;intro l
  induction l with
  | cons i l ih=>
   intro ys e;symm;refine .in_lst (v:=.int i) (ys:=sp.map Bj) (Nw (fun l=>some (T.list l)) (qj sp)) rfl (mX sp) ?_;rw[tG];by_cases w:some i∈sp
   ·rw[P0 (by rw[NF w];decide)]at e;rw[NF w];symm;exact ih _ (e.trans (Nw (· ++ _) (Nr ys).symm))
   ·rw[PZ (Nw _ (Ny w))]at e;rw[Ny w];symm;exact ih _ (e.trans (ND ..))
  | nil=>
   intro ys e;have e:=e.trans (Nr ys);rw[← e];symm;have x0:=N6 (dt g0);have gk:pk (W++[WO.l ((bN p.items.length sp).map fun i:Nat=>lI i)]) (.w W.length)=some (.list ((bN p.items.length sp).map fun i:Nat=>lI i)):=jd br;have g0:=ax (o:=.l ((bN p.items.length sp).map fun i:Nat=>lI i)) g0;generalize W.length=x at x0 gk ⊢;generalize W++[WO.l ((bN p.items.length sp).map fun i:Nat=>lI i)]=W at g0 gk ⊢;rw[show (dU p.attrs).map (fun p=>T.leaf (.str p.1))=p.attrs.map fun e=>T.leaf (.str e.1) from Oc ..];refine (?h2:∀(l acc:List (Str×Tx)),(∀e∈l,p.attrs.lookup e.1=some e.2)→p.attrs.foldl bP []=l.foldl bP acc→kR _ _ (l.map fun e=>T.leaf (.str e.1)) (dU acc) _ W) p.attrs [] (fun e h=>(hat.at_ e h).1) rfl;intro l
   induction l with
   | cons q l ih=>
    intro acc hq e;have hq2:=fun e h=>hq e (.tail _ h);symm;exists eU (fun w=>?_) fun w=>?_
    ·exists .dict rfl (by rw[lr,hq q (.head _)];rfl) ?_;rw[show F8 (dU acc) (some (q.1,sD q.2))=dU (aN acc q.1 q.2) from lx ..];refine ih _ hq2 (e.trans (Nw (Pm bP · l) ?_));unfold bP;rw[show decide (q.1=ah)=false from (Oi _).mp w];rfl
    ·symm;refine ih acc hq2 (e.trans (Nw (Pm bP · l) ?_));unfold bP;rw[show decide (q.1=ah)=true from (O7 _).mp w];rfl
   | nil=>
    intro acc _ e;subst e;symm;have j3:J3 N ((bN p.items.length sp).map fun i:Nat=>lI i) (p.attrs.foldl bP []) x W.length (W++[WO.d (dU (p.attrs.foldl bP []))]):=⟨ax g0,tI gk,br⟩;have y0:=N6 (dt g0);have y1:=N6 (zA gk);generalize W.length=y at j3 y0 y1 ⊢;generalize W++[WO.d (dU (p.attrs.foldl bP []))]=W at j3 ⊢;exists ET (J3 N ((bN p.items.length sp).map fun i:Nat=>lI i) (gX p.items.length sp p.attrs) x y) (fun e R hR=>?_) (fun e R hR=>?_) fun W j3=>?_
    ·unfold gX at hR;refine ay (o:=p.attrs.lookup ah) (fun hn=>?_) (fun ns hn=>?_)
     ·rw[hn]at e;exact (Nt e).elim
     ·
      rw[hn]at hR;have hR:=fun W (h:J3 N ((bN p.items.length sp).map fun i:Nat=>lI i) (aN (p.attrs.foldl bP []) ah ((bN p.items.length sp).map fun i=>(ns[i]?).getD kh)) x y W)=>hR W h;symm;refine (?_:au (frz _ (.w x)) _);rw[E0 j3.2];refine Eo (f:=fun i=>bz ((ns[i]?).getD kh)) (fun i kk h=>?_) ?_
      ·show TR _ _ _ _ _ _ _ _ _;symm;exists aC (fun w=>?_) fun w=>?_
       ·have hq:=NI (hnm ns hn▸Int.ofNat_lt.mp w);rw[hq]at h;exists fS rfl ((bM ..).trans (Nw (Os bz) hq)) ?_;exact h
       ·rw[Pi (hnm ns hn▸Pv fun h=>w (Int.ofNat_lt.mpr h))]at h;exact h
      have j4:=j3.fz x0 y1;generalize ar W x _=W at j4 ⊢;symm;refine .d0 ?_;rw[show (bN p.items.length sp).map (fun i=>bz ((ns[i]?).getD kh))=((bN p.items.length sp).map fun i=>(ns[i]?).getD kh).map bz by rw[Oc];rfl];generalize (bN p.items.length sp).map (fun i=>(ns[i]?).getD kh)=L at hR ⊢;symm;refine (?_:au (et [tS qR,.w W.length,.w (W++[WO.l (L.map bz)]).length] (W++[WO.l (L.map bz)]++[WO.d []])) _);rw[xg (ax br) br (N6 (dt br))];have k6:=J3.keepN (o:=.z (.dict [])) (j4.old (o:=.l (L.map bz))) (j4.keepN (o:=.z (.list (L.map bz))) ((j4.old (o:=.l (L.map bz))).old (o:=.d [])));generalize ar (ar (W++[WO.l (L.map bz)]++[WO.d []]) W.length _) _ _=W4 at k6 ⊢;symm;refine .d rfl k6.3 hat.del ?_;rw[show aN (dU (p.attrs.foldl bP [])) (No "names") _=dU (aN (p.attrs.foldl bP []) ah L) from lx ..];symm;exact hR _ ⟨ai y0.symm k6.1,tJ y1.symm k6.2,eo k6.3⟩
    ·unfold gX at hR;refine eQ (o:=p.attrs.lookup ah) (fun ζ hn=>?_) (fun hn=>?_)
     ·replace e:=(hn)▸e;exact NG e
     ·replace hR:=(hn)▸hR;exact hR _ j3
    symm;refine (?_:au (frz _ (.w x)) _);rw[E0 j3.2];refine Eo (f:=fun i=>dg ((p.items[i]?).getD .null)) (fun i kk h=>?_) ?_
    ·show TR _ _ _ _ _ _ _ _ _;symm;exists aC (fun w=>?_) fun w=>?_
     ·have hq:=NI (Int.ofNat_lt.mp w);rw[hq]at h;exists fS rfl ((bM ..).trans (Nw (Os dg) hq)) ?_;exact h
     ·rw[Pi (Pv fun h=>w (Int.ofNat_lt.mpr h))]at h;exact h
    have j4:=j3.fz x0 y1;generalize ar W x _=W at j4 ⊢;symm;refine (?_:au (et [tS p.kind.s,.w W.length,.w y] (W++[WO.l ((bN p.items.length sp).map fun i=>dg ((p.items[i]?).getD .null))])) _);rw[xg br (ax j4.3) (N1 (dt j4.3))];symm;refine hQ _ _ _ _ (.k [] rfl rfl (oV (ai y0.symm (ai (N1 (dt j4.1)) (ax j4.1)))) ?_);refine Nw (fun l=>Rq.r (.t (.tup [lS p.kind.s,.list l,.dict (dU (gX p.items.length sp p.attrs))])) [.l N]) ?_;exact Oc ..
end
end
section
theorem xr{n:Nat}{sp:List (Option Nat)}{M:Int}(h1:M∈(n:Int)::(sp.filterMap id).map fun i:Nat=>(i:Int)+1)(h2:∀a∈(n:Int)::(sp.filterMap id).map fun i:Nat=>(i:Int)+1,a≤M):M=(max n (cnt 0 sp):Nat):=by
 have hn:(n:Int)≤M:=h2 _ (.head _);obtain ⟨m,rfl⟩:=QT (NC (NB n) hn);refine Nw Int.ofNat (Sz ?_ (Nat.max_le.mpr ⟨Int.ofNat_le.mp hn,eO 0 (Ol _) fun j hj=>Int.ofNat_le.mp (h2 _ (.tail _ (List.mem_map.mpr ⟨j,List.mem_filterMap.mpr ⟨some j,hj,rfl⟩,rfl⟩)))⟩));refine (List.mem_cons.mp h1).elim (fun h=>?_) fun h=>?_
 ·exact Np (NL (Int.ofNat_inj.mp h)) (Rl ..)
 ·refine Nz (List.mem_map.mp h) fun j zz=>NO (fun hj h=>?_) (zz);refine Nz (List.mem_filterMap.mp hj) fun o zz=>NO (fun ho w=>?_) (zz);rw[show o=some j from w]at ho;exact Np (NL (Int.ofNat_inj.mp h).symm) (Np (gF sp 0 ho) (Qd ..))
theorem AI{W:UW}{kb:Bool→Prop}{xs:List T}{s:Str}(q:kb false):cF .Eq (.t (.tup xs)) (tS s) W kb:=pQ.ts rfl q
section
variable{c:Cx}{d:Nat}(P:PF c)
include P
theorem xZ{W:UW}{N:List T}{p:PV}{ix:Ix}{val:Option PV}(g0:af W 0=some (.l N))(op:bU 800 p)(oi:dI ix)(ow:∀p,val=some p→bU 800 p)(hN:N.length≤1000) :
  be c false (d+4) (lJ 1 (Eq (jc (N++f8 p val (eL p ix)) (eE p val (eL p ix))))) (.loc 0<|.unp 3<|.put 4<|.ptc 4<|.ptc 3<|.glo (.bi "len")<|.cel 4<|.cal 1<|.ptc 2<|.glo (.fn 132)<|.loc 0<|.cal 1<|.ptc 1<|.glo (.fn 122)<|.loc 1<|.cel 2<|.cel 1<|.cst (.bool true)<|.cal 4<|.put 5<|.glo (.bi "isinstance")<|.loc 5<|.glo (.ty "str")<|.cal 2<|.ite (.loc 5<|.rtn) (.fin)<|.loc 5<|.unp 2<|.ptc 0<|.put 6<|.glo (.bi "max")<|.cel 2<|.lst 1<|.cel 0<|.lcm 2 1 (.loc 1<|.cst .none<|.cmp .IsNot<|.ite (.loc 1<|.cst (.int 1)<|.bin .Add<|.fin) (.fin)<|.fin)<|.bin .Add<|.cal 1<|.put 8<|.loc 2<|.cst (.str "NULL")<|.cmp .Eq<|.ite (.loc 4<|.cst (.str "list")<|.cmp .NotEq<|.ite (.cel 0<|.lst 0<|.cmp .NotEq<|.ite (.cst (.str "replacement has length zero")<|.fin) (.loc 0<|.fin)<|.rtn) (.fin)<|.glo (.ty "range")<|.loc 8<|.cal 1<|.lcm 2 1 (.loc 1<|.cel 0<|.cmp .NotIn<|.ite (.loc 1<|.fin) (.fin)<|.fin)<|.put 9<|.cel 3<|.dcm 2 1 (.loc 1<|.cst (.str "names")<|.cmp .NotEq<|.ite (.loc 1<|.cel 3<|.loc 1<|.sub<|.fin) (.fin)<|.fin)<|.put 10<|.cel 1<|.cst .none<|.cmp .IsNot<|.ite (.cst (.str "character")<|.loc 9<|.lcm 2 1 (.loc 1<|.cel 2<|.cmp .Lt<|.ite (.cel 1<|.loc 1<|.sub<|.fin) (.cst (.str "")<|.fin)<|.fin)<|.dic 0<|.tpl 3<|.loc 10<|.cst (.str "names")<|.sit<|.fin) (.fin)<|.loc 4<|.loc 9<|.lcm 2 1 (.loc 1<|.cel 2<|.cmp .Lt<|.ite (.cel 4<|.loc 1<|.sub<|.fin) (.cst (.str "NULL")<|.fin)<|.fin)<|.loc 10<|.tpl 3<|.rtn) (.fin)<|.cst .none<|.cel 0<|.cmp .In<|.and (.glo (.bi "len")<|.loc 2<|.cst (.int 1)<|.sub<|.cal 1<|.cst (.int 1)<|.cmp .Gt<|.fin)<|.ite (.cst (.str "NAs are not allowed in subscripted assignments")<|.rtn) (.fin)<|.cel 0<|.lst 0<|.cmp .NotEq<|.and (.loc 2<|.cst (.int 1)<|.sub<|.lst 0<|.cmp .Eq<|.fin)<|.ite (.cst (.str "replacement has length zero")<|.rtn) (.fin)<|.glo (.fn 128)<|.cal 0<|.put 11<|.loc 11<|.glo (.bi "max")<|.loc 11<|.mth "index"<|.loc 4<|.cal 2<|.loc 11<|.mth "index"<|.loc 2<|.cst (.int 0)<|.sub<|.cal 2<|.cal 2<|.sub<|.put 12<|.glo (.fn 131)<|.loc 4<|.cel 4<|.loc 12<|.cal 3<|.ptc 4<|.cel 0<|.lst 0<|.cmp .Eq<|.ite (.loc 12<|.cel 4<|.cel 3<|.tpl 3<|.rtn) (.fin)<|.glo (.bi "len")<|.cel 0<|.cal 1<|.glo (.bi "len")<|.loc 2<|.cst (.int 1)<|.sub<|.cal 1<|.bin .Mod<|.cst (.int 0)<|.cmp .NotEq<|.ite (.loc 3<|.mth "append"<|.cst (.str "number of items to replace is not a multiple of replacement length")<|.cal 2<|.pop<|.fin) (.fin)<|.glo (.fn 131)<|.loc 2<|.cst (.int 0)<|.sub<|.loc 2<|.cst (.int 1)<|.sub<|.loc 12<|.cal 3<|.put 13<|.glo (.ty "dict")<|.cel 3<|.cal 1<|.ptc 3<|.loc 8<|.cel 2<|.cmp .Gt<|.ite (.cel 4<|.loc 12<|.cst (.str "list")<|.cmp .Eq<|.ite (.cst (.str "NULL")<|.fin) (.cst .none<|.fin)<|.lst 1<|.loc 8<|.cel 2<|.bin .Sub<|.bin .Mult<|.bin .Add<|.ptc 4<|.cel 1<|.cst .none<|.cmp .IsNot<|.or (.loc 6<|.cst .none<|.cmp .IsNot<|.fin)<|.ite (.cel 1<|.cst .none<|.cmp .Is<|.ite (.cst (.str "")<|.lst 1<|.cel 2<|.bin .Mult<|.fin) (.cel 1<|.fin)<|.loc 6<|.cst .none<|.cmp .Is<|.ite (.lst 0<|.fin) (.loc 6<|.fin)<|.bin .Add<|.put 14<|.cst (.str "character")<|.loc 14<|.cst (.str "")<|.lst 1<|.loc 8<|.glo (.bi "len")<|.loc 14<|.cal 1<|.bin .Sub<|.bin .Mult<|.bin .Add<|.dic 0<|.tpl 3<|.cel 3<|.cst (.str "names")<|.sit<|.fin) (.fin)<|.fin) (.fin)<|.glo (.ty "range")<|.glo (.bi "len")<|.cel 0<|.cal 1<|.cal 1<|.for 7 (.cel 0<|.loc 7<|.sub<|.cst .none<|.cmp .IsNot<|.ite (.loc 13<|.loc 7<|.glo (.bi "len")<|.loc 13<|.cal 1<|.bin .Mod<|.sub<|.cel 4<|.cel 0<|.loc 7<|.sub<|.sit<|.fin) (.fin)<|.fin)<|.loc 12<|.cel 4<|.cel 3<|.tpl 3<|.rtn) [] [some (.t (.tup [lS p.kind.s,.list (p.items.map dg),.dict (dU p.attrs)])),some (.t (fR ix)),some (.t (so val)),some (.w 0),none,none,none,none,none,none,none,none,none,none,none] [none,none,none,none,none] W:=by
 symm;exists .len rfl ?_;rw[Nq];exists .r [] rfl rfl rfl (HT P) ?_;have h122:=HX P (d:=d+2) oi (Np op.ln (by decide)) op.nm;unfold eL;cases e:dD ix p.items.length (p.attrs.lookup ah) with
 | err m=>
  replace h122:=(e)▸h122;exists .r [] rfl rfl rfl h122 ?_;exists .isS ?_;exact .k [] rfl rfl (oV (by rw[Nr,Nr];exact g0)) (Nw (jc · _) (Nr N))
 | ok sp ad=>
  rw[e]at h122;exists .r [] rfl rfl rfl h122 ?_;exists .isT rfl ?_;have g0:af (W++[]++[]) 0=some (.l N):=by rw[Nr,Nr];exact g0
  generalize W++[]++[]=W at g0 ⊢;refine (?h:∀(l:List (Option Nat)) (ys:List T),((sp.filterMap id).map fun i:Nat=>lI ((i:Int)+1))=ys++((l.filterMap id).map fun i:Nat=>lI ((i:Int)+1))→bT _ _ (l.map cL) ys _ (W++[WO.l [lI p.items.length]])) sp [] rfl;intro l
  induction l with
  | cons o l ih=>
   intro ys h
   induction o with
   | none=>
    symm;exact ih _ (h.trans (Nw (· ++ _) (Nr ys).symm))
   | some i=>
    symm;exact ih _ (h.trans (ND ..))
  | nil=>
   intro ys h;have h:=h.trans (Nr ys);rw[← h];have ok:=jG oi op.nm e;have h9:=Ob op.ln 100;symm;refine .addL (jd (ax br)) (jd br) ?_ ?_
   ·rw[Nq];exact Np (Oz (Np (QD ..) (Np ok.l h9)) 1) (by decide)
   symm;refine .max1 (is:=(p.items.length:Int)::(sp.filterMap id).map fun i:Nat=>(i:Int)+1) ?_ (PN _ _) (fun M h1 h2=>?_)
   ·refine (jd br).trans (Nw (fun l=>some (T.list (lI p.items.length::l))) ?_);rw[Oc];rfl
   obtain rfl:=xr h1 h2;symm;have hc:max p.items.length (cnt 0 sp)≤1000:=Nat.max_le.mpr ⟨Np op.ln (by decide),Np (eO 0 (Ol _) fun j hj=>N2 (ok.j j hj) h9) (by decide)⟩
   induction val with
   | none=>exact CK (ax (ax (ax g0))) hc op.at_ op.nm (fun v L C W h=>(by rw[Nr];exact h:gK 1 (Eq (jc (N++[]) _)) v W)) rfl
   | some w=>
    have ow:=ow w rfl;refine AI ?_;exact CJ P (ax (ax (ax g0))) op.it ow.it (Np ow.ln (by decide)) (Np ok.l (Np h9 (by decide:900≤1000))) hN hc op.nm (fun ns h=>Np (ok.a ns h) (by decide)) (NV (Np (NL (Nq _)) op.at_.len) (by decide)) rfl rfl
theorem HS{v:Option PV}{ix:Ix}{val:Option PV}{N:List T}(ov:∀p,v=some p→bU 800 p)(oi:dI ix)(ow:∀p,val=some p→bU 800 p)(hN:N.length≤1000):ag c (d+5) (A 133) [.t (so v),.t (fR ix),.t (so val),.w 0] [.l N] (jc (N++fE v ix val) (dh v ix val)):=by
 induction v using Option.casesOn with
 | some p=>
  exists ae P 133 (by ac_rfl) Cc rfl ?_;refine AI ?_;exact xZ P rfl (ov p rfl) oi ow hN
 | none=>
  exists ae P 133 (by ac_rfl) Cc rfl ?_
  induction val using Option.casesOn with
  | none=>
   symm;exact .k [] rfl rfl rfl (Nw (jc · _) (Nr N))
  | some w=>
   exists AI ?_;refine qE rfl rfl ?_;rw[tX];have e1:fE none ix (some w)=bif w.items.isEmpty then [] else f8 (ek w) (some w) (eL (ek w) ix):=rfl;have e2:dh none ix (some w)=bif w.items.isEmpty then .nul else eE (ek w) (some w) (eL (ek w) ix):=rfl;rw[e1,e2];refine yM (o:=w.items.isEmpty) ?_ ?_
   ·
    symm;exact .k [] rfl rfl rfl (Nw (jc · _) (Nr N))
   ·
    symm;refine .d0 ?_;exact xZ P (p:=ek w) rfl (pe w) oi ow hN
end
end
section
theorem Hl:aX 127=⟨[some 0,none],[],[],.try (.loc 0<|.cal 0<|.rtn)⟩:=by ac_rfl
theorem xz{q p:Pos}{v cd:Value}(l:List Value)(h:S5 l):PT q (l++[rawInt p.line,rawInt p.col,cd])=some v→PT q l=some v∨v=cd:=by
 fun_induction S5 l with
 | case1=>
  intro e;have e:(if _ then some cd else PT q [])=some v:=e;split at e
  ·exact .inr (Option.some.inj e).symm
  ·exact ac e
 | case2 a t b u x rest ih=>
  intro e;have e:(if _ then some x else PT q (rest++_))=some v:=e;show (if _ then some x else PT q rest)=some v∨_;split at e
  ·rw[if_pos ‹_›];exact .inl e
  ·rw[if_neg ‹_›];exact ih h e
 | case3=>exact h.elim
theorem sG{H:AH}{a b:Addr}{x y:O}(n:a≠b):upd (upd H a x) b y=upd (upd H b y) a x:=by
 funext z;unfold upd;by_cases h:z=a
 ·rw[if_pos h,if_neg fun w=>n (h.symm.trans w)];exact (if_pos h).symm
 ·rw[if_neg h];exact (if_neg h).symm
theorem xS{H:AH}{a b:Addr}{x:O}(h:H a=none)(n:b≠a):upd H b x a=none:=(am n.symm).trans h
noncomputable def kQ(C:UL)(k:KU):UQ
 | .ret v,_,C',W=>C'=C∧k v W
 | .exc m,_,C',W=>C'=C∧k (tS m) W
 | _,_,_,_=>False
section
variable{c:Cx}{d:Nat}(P:PF c)
include P
theorem yt{b:Nu}{sc:Scope}{p:Pos}{C:UL}{W:UW}{k:KU}{code:I}{n:Nat}(hc:cE n ⟨sc.names,LN,nE⟩ b .rtn=code)(s1:sc.kind=.function)(s2:sc.isCoroutine=false)(s3:sc.isGenerator=false)(s4:∀p∈sc.names,p.2≠.cell)(g0:af W 0=some (.p LQ))
  (h:TR c false d (kQ C k) code [] [] C W):lj c (d+2) b sc p (.v (.ref (A 127))) C W k:=by
 intro Γ w v Q E hL I hv q;obtain ⟨l,e,hC,ha,hq,hn⟩:=hL
 induction hv with | mk=>
 unfold z8;rw[e];obtain ⟨ps,nz,hp,ht,hf⟩:=I.ow 0 l.pool (.p LQ) (I.ex.p 0 l.pool ha) g0;have main:∀(w':Wd) (cd:Addr) cl',(∀n,(n,NameKind.free)∈sc.names→cl'.lookup n=Γ.cl.lookup n)→aV Γ w' C W→Ex w w'→w'.z cd=some (.code LQ)→bI (.lam l.qual b sc cl' cd) w'.h fun u H=>eg c (d+2) (.ref (A 127)) [u] H Q E:=fun w' cd cl' hcl I' E' hz f hf'=>by
  refine NO (fun I2 E2=>?_) (I'.tree (b:=.lam l.qual b sc cl' cd) hf' rfl);refine P.cN 127 (by ac_rfl) Hl rfl ?_;refine ⟨fun m H'=>m.isBi=false∧Q m H',?_,fun m L' H' h=>h⟩;refine ue (cl':=Γ.cl) P.gok (aj _ _ _) (hq▸updF (I'.zs _ _ hz).1 hf') s1 s2 s3 s4 hcl (n:=n) ?_;show ao c ⟨Gv,Γ.cl,none⟩ d (cE n ⟨sc.names,Γ.cl.map (·.1),nE⟩ b .rtn) _ [] [] _ _;rw[hn,hc];refine (lG P code).1 (m:=false) (Γ:=⟨Γ.o,Γ.cl,none⟩) (w:=⟨upd w'.z f _,upd w'.h f _,w'.A⟩) nofun h ⟨I2.1,I2.ex,I2.le,I2.fr,I2.zz,I2.cs,I2.cd,I2.cn⟩ .nil .nil ⟨fun r' r L' L C2 W2 w2 h I3 E3 l rr=>?_,fun m L C2 W2 w2 h I3 E3=>?_⟩
  ·induction r using Rz.casesOn with
   | ret v=>induction r' using Rs.casesOn with
    | ret v'=>
     obtain ⟨e,hk⟩:=h;subst e;exact q _ _ _ _ hk ⟨I3.1,I3.ex,I3.le,I3.fr,I3.zz,I3.cs,I3.cd,I3.cn⟩ (E'.trans (E2.trans E3)) rr
    | _=>exact rr.elim
   | exc=>induction r' using Rs.casesOn<;>exact rr.elim
   | _=>exact h.elim
  ·obtain ⟨e,hk⟩:=h;subst e;exact ⟨rfl,q _ _ _ _ hk ⟨I3.1,I3.ex,I3.le,I3.fr,I3.zz,I3.cs,I3.cd,I3.cn⟩ (E'.trans (E2.trans E3)) (.leaf rfl)⟩
 refine eQ (o:=PT p ps.toList) (fun v e2=>?_) (fun e2=>?_)
 ·
  obtain ⟨cd,e3,hz⟩:=hf p v e2;subst e3;refine ⟨hC,ps,hp,ht,fun cl' hcl=>.inl ⟨cd,e2,?_,main w cd cl' hcl I .refl hz⟩⟩;rw[hq];exact (I.zs _ _ hz).1
 ·
  refine ⟨hC,ps,hp,ht,fun cl' hcl=>.inr ⟨e2,fun cd hcd hne=>?_⟩⟩;refine NO (fun I1 E1=>?_) (I.tree (b:=.code l.qual) hcd rfl);have hto:(ps ++ #[rawInt p.line,rawInt p.col,.ref cd]).toList=ps.toList++[rawInt p.line,rawInt p.col,.ref cd]:=RG;have hf2:∀q v,PT q (ps ++ #[rawInt p.line,rawInt p.col,.ref cd]).toList=some v→∃cd',v=.ref cd'∧upd w.z cd (.code l.qual) cd'=some (.code LQ):=fun q v e=>by
   rw[hto]at e;rcases xz _ ht e with e | rfl
   ·refine Nz (hf q v e) fun cd' zz=>NO (fun e3 hz=>?_) (zz);exact ⟨cd',e3,E1.z _ _ hz⟩
   ·exact ⟨cd,rfl,hq▸aj _ _ _⟩
  obtain ⟨I2,E2⟩:=I1.set (a:=l.pool) (b:=.tab (ps ++ #[rawInt p.line,rawInt p.col,.ref cd])) (o:=.p LQ) (I.ex.p 0 l.pool ha) (xS nz hne) fun E2=>⟨_,xS nz hne,aj _ _ _,by rw[hto];exact TriplesOk_snoc _ _ _ _ ht,hf2⟩;rw[eZ g0]at I2;rw[sG hne.symm];exact main _ cd cl' hcl I2 (E1.trans E2) (hq▸aj _ _ _)
end
inductive Fz(W:UW):UV→T→Prop
 | t{t} : Fz W (.t t) t
 | z{j t}(h:af W j=some (.z t)):Fz W (.w j) t
section
variable{W W':UW}{x:UV}{t:T}{n i:Nat}{o o':WO}
theorem Fz.frz(h:Fz W x t):frz W x=some (t,W):=by
 induction h with
 | t=>rfl
 | z h=>
  rw[vC,h];show eK _ _=_;rw[sz,h];exact Nw (fun W=>some (_,W)) (eZ h)
theorem Fz.pk(h:Fz W x t):pk W x=some t:=by
 induction h with
 | t=>rfl
 | z h=>
  show N0 (af W _) mY=_;rw[h];rfl
theorem Fz.go(k:∀i t,af W i=some (.z t)→af W' i=some (.z t))(h:Fz W x t):Fz W' x t:=by
 induction h with
 | t=>exact .t
 | z h=>exact .z (k _ _ h)
inductive Ch(n:Nat)(o:WO)(W W':UW):Prop
 | mk(h:af W' n=some o)(k:∀i x,i≠n→af W i=some x→af W' i=some x)
theorem vB(g:af W n=some o)(hz:∀t,o≠.z t)(h:af W i=some (.z t)):i≠n:=fun e=>by
 rw[e,g]at h;exact hz _ (Option.some.inj h)
theorem mO(h:af W n=some (.l ts)):bX [n] [n] W=some [.l ts]:=by
 show N0 (af W n) _=_;rw[h];rfl
theorem tE(h:Fz W x t)(g:af W n=some (.l ts)):aS [n] [x,.w n] W=some ([.t t,.w 0],W):=by
 have e:qd [n] (.w n)=some (.w 0):=Nw (Os UV.w) (c5 n []);have e2:aS [n] [.w n] W=some ([.w 0],W):=by
  unfold aS;rw[e];rfl
 have hf:=h.frz;unfold aS
 induction h with
 | t=>show N0 (aS [n] [.w n] W) _=_;rw[e2];rfl
 | z hz=>
  rw[show qd [n] (.w _)=none from Nw (Os UV.w) ((aJ (vB g (fun ζ=>WO.noConfusion) hz).symm []).trans rfl)];show N0 (Mine.Internal.frz W _) _=_;rw[hf];show N0 (aS [n] [.w n] W) _=_;rw[e2];rfl
theorem qi{a b:T}(h:Fz W x t)(g:af W n=some (.l ts)):aS [n] [.t a,.t b,x,.w n] W=some ([.t a,.t b,.t t,.w 0],W):=by
 show N0 (N0 (aS [n] [x,.w n] W) _) _=_;rw[tE h g];rfl
theorem DZ{a:T}{j:Nat}{us:List T}(h:Fz W x t)(g:af W n=some (.l ts))(gj:af W j=some (.l us))(ne:n≠j):aS [n] [.t a,.w j,x,.w n] W=some ([.t a,.t (.list us),.t t,.w 0],ar W j (.z (.list us))):=by
 have e:aS [n] [.w j,x,.w n] W=some ([.t (.list us),.t t,.w 0],ar W j (.z (.list us))):=by
  unfold aS;rw[show qd [n] (.w j)=none from Nw (Os UV.w) ((aJ ne []).trans rfl)];show N0 (Mine.Internal.frz W _) _=_;rw[xf gj];show N0 (aS [n] [x,.w n] (ar W j (.z (.list us)))) _=_;rw[tE (h.go fun i t hz=>ai (vB gj (fun ζ=>WO.noConfusion) hz) hz) (ai ne g)];rfl
 show N0 (aS [n] [.w j,x,.w n] W) _=_;rw[e];rfl
end
noncomputable def kA:ip→T
 | .err m=>lS m
 | .nul=>nT CN aO
 | .vec p=>pT p
noncomputable def Ey:Nu:=(.Call (.Name "assign_vector" ⟨1049,33,1049,46⟩) [(.Name "v" ⟨1049,47,1049,48⟩),(.Name "ix" ⟨1049,50,1049,52⟩),(.Name "value" ⟨1049,54,1049,59⟩),(.Name "notes" ⟨1049,61,1049,66⟩)] [] ⟨1049,33,1049,67⟩)
noncomputable def Er:Scope:=⟨.function,[("ix",.free),("notes",.free),("v",.free),("value",.free),("assign_vector",.globalImplicit)],false,false,[]⟩
noncomputable def Eu:Pos:=⟨1049,25,1049,67⟩
noncomputable def Ew:Nu:=(.Call (.Name "assign_any" ⟨1053,39,1053,49⟩) [(.Name "v" ⟨1053,50,1053,51⟩),(.List [(.Name "ix" ⟨1053,54,1053,56⟩)] ⟨1053,53,1053,57⟩),(.Name "value" ⟨1053,59,1053,64⟩),(.Name "notes" ⟨1053,66,1053,71⟩)] [] ⟨1053,39,1053,72⟩)
noncomputable def Ep:Scope:=⟨.function,[("ix",.free),("notes",.free),("v",.free),("value",.free),("assign_any",.globalImplicit)],false,false,[]⟩
noncomputable def Et:Pos:=⟨1053,31,1053,72⟩
section
variable{c:Cx}{d:Nat}(P:PF c)
include P
theorem ED{v val:Option PV}{ix:Ix}{x:UV}{n:Nat}{ns:List T}{W:UW}{k:KU}(ov:∀p,v=some p→bU 800 p)(oi:dI ix)(ow:∀p,val=some p→bU 800 p)(hl:ns.length≤1000)(g0:af W 0=some (.p LQ))(gx:Fz W x (fA val))(gn:af W n=some (.l ns))(hk:∀W',Ch n (.l (ns++fE v ix val)) W W'→k (.t (kA (dh v ix val))) W') :
  lj c (d+20) Ey Er Eu (.v (.ref (A 127))) [some x,some (.t (fA v)),some (.w n),some (.t (fR ix))] W k:=by
 exists yt P (n:=100) (code:=.glo (.fn 109)<|.cel 1<|.cel 3<|.cel 0<|.cel 2<|.cal 4<|.rtn) (by ac_rfl) rfl rfl rfl (by decide) g0 ?_;have h:=C0 P (d:=d+1) ov oi ow hl;have hk:=hk (ar W n (.l (ns++fE v ix val))++[]) ⟨by rw[Nr];exact eo gn,fun i x e h=>by rw[Nr];exact ai e h⟩;cases e:dh v ix val with
 | err m=>
  rw[e]at h hk;refine .e [n] rfl (qi gx gn) (mO gn) h ?_;exact ⟨rfl,hk⟩
 | nul=>
  rw[e]at h hk;exists .r [n] rfl (qi gx gn) (mO gn) h ?_;exact ⟨rfl,hk⟩
 | vec p=>
  rw[e]at h hk;exists .r [n] rfl (qi gx gn) (mO gn) h ?_;exact ⟨rfl,hk⟩
theorem EC{v val:Option PV}{ix:Ix}{x:UV}{n:Nat}{ns:List T}{W:UW}{k:KU}(ov:∀p,v=some p→bU 800 p)(oi:dI ix)(ow:∀p,val=some p→bU 800 p)(hl:ns.length≤1000)(g0:af W 0=some (.p LQ))(gx:Fz W x (fA val))(gn:af W n=some (.l ns))(hk:∀W',Ch n (.l (ns++fE v ix val)) W W'→k (.t (kA (dh v ix val))) W') :
  lj c (d+20) Ew Ep Et (.v (.ref (A 127))) [some x,some (.t (fA v)),some (.w n),some (.t (fR ix))] W k:=by
 exists yt P (n:=100) (code:=.glo (.fn 113)<|.cel 1<|.cel 3<|.lst 1<|.cel 0<|.cel 2<|.cal 4<|.rtn) (by ac_rfl) rfl rfl rfl (by decide) g0 ?_;have h:=H4 P (d:=d) ov oi ow hl;have ne:=N1 (dt gn);have gn2:af (ar (W++[WO.l [fR ix]]) W.length (.z (.list [fR ix]))) n=some (.l ns):=ai ne (ax gn);have hk:=hk (ar (ar (W++[WO.l [fR ix]]) W.length (.z (.list [fR ix]))) n (.l (ns++fE v ix val))++[]) ⟨by rw[Nr];exact eo gn2,fun i x e h=>by rw[Nr];exact ai e (ai (N1 (dt h)) (ax h))⟩;have hp:=DZ (a:=fA v) (gx.go fun i t hz=>ax (o:=.l [fR ix]) hz) (ax gn) br ne;cases e:dh v ix val with
 | err m=>
  rw[e]at h hk;refine .e [n] rfl hp (mO gn2) h ?_;exact ⟨rfl,hk⟩
 | nul=>
  rw[e]at h hk;exists .r [n] rfl hp (mO gn2) h ?_;exact ⟨rfl,hk⟩
 | vec p=>
  rw[e]at h hk;exists .r [n] rfl hp (mO gn2) h ?_;exact ⟨rfl,hk⟩
end
end
section
theorem AM{M:Nat}(ts:Tx):∀{all:Tx},all.length≤M→(∀j,some j∈(bf all ts).1→j<M)→(bf all ts).2.length≤M:=by
 induction ts with
 | nil=>exact fun h ζ=>h
 | cons t ts ih=>
  intro all h hj;refine eQ (o:=t.bind (ft all)) (fun i e=>?_) (fun e=>?_)
  ·
   rw[Fw ts e]at hj ⊢;exact ih h fun j hh=>hj j (.tail _ hh)
  ·
   rw[Fw ts e]at hj ⊢;refine ih ?_ fun j hh=>hj j (.tail _ hh);rw[NH];exact hj _ (.head _)
theorem rK{ix:Ix}{n:Nat}{names:Option Tx}{sp ad}(hl:∀ts,names=some ts→ts.length=n)(h:dD ix n names=.ok sp (some ad)):n+ad.length≤max n (cnt 0 sp):=by
 have num:∀cs:List (Option Int),bp cs n=.ok sp (some ad)→False:=fun cs e=>by
  have:=tL (cs:=cs) (n:=n);replace this:=(e)▸this;exact NN _ this
 induction ix with
 | missing=>cases h
 | null=>cases h
 | vec k is=>
  induction k with
  | ls=>injection h
  | lg=>cases h
  | it=>exact (num _ h).elim
  | db=>exact (num _ h).elim
  | ch=>
   have nl:(bB n names).length=n:=by
    induction names with
    | none=>exact Od
    | some ts=>exact hl _ rfl
   injection h with h1 h2;rw[← h1];rw[← (Option.some.inj h2)];have hm:=AM (M:=max n (cnt 0 (bf (bB n names) (is.map gM)).1)) (is.map gM) (nl.symm▸Rl ..) fun j h=>N2 (gF _ 0 h) (Qd ..);rw[Uj];have:n≤max n (cnt 0 (bf (bB n names) (is.map gM)).1):=Rl ..;rw[O6,TY];exact Nat.max_le.mpr ⟨hm,this⟩
theorem tC{k:Kd}{g:List X}(hg:∀x∈g,ej k x)(h0:0<g.length)(sp:List (Option Nat)):∀{i its},(∀x∈its,ej k x)→(∀x∈cH g i its sp,ej k x)∧(cH g i its sp).length=its.length:=by
 induction sp with
 | nil=>exact fun h=>⟨h,rfl⟩
 | cons o sp ih=>
  intro i its h
  induction o with
  | none=>exact ih h
  | some j=>
   obtain ⟨a,b⟩:=ih (i:=i+1) (its:=its.set j ((g[i % g.length]?).getD .null)) fun x hx=>by
    rcases List.mem_or_eq_of_mem_set hx with hx | rfl
    ·exact h x hx
    ·rw[NI (R8 i h0)];exact hg _ (OZ _)
   exact ⟨a,b.trans Qi⟩
theorem w7(k:Kd):ej k (ie k):=by induction k<;>exact trivial
theorem wK{k:Kd}{its:List X}{n:Nat}(h:∀x∈its,ej k x):∀x∈fG k its n,ej k x:=fun x hx=>by
 refine (List.mem_append.mp hx).elim (fun hx=>?_) fun hx=>?_
 ·exact h x hx
 ·rw[SS hx];exact w7 k
theorem iL{as:List (Str×Tx)}(x:Tx)(h:b9 as):b9 (aN as ah x)∧(aN as ah x).lookup ah=some x:=by
 induction h with
 | z=>exact ⟨.n x,by ac_rfl⟩
 | n ts=>exact ⟨(by ac_rfl:aN [(ah,ts)] ah x=[(ah,x)])▸.n x,by ac_rfl⟩
 | u us=>exact ⟨(by ac_rfl:aN [(d9,us)] ah x=[(d9,us),(ah,x)])▸.un x us,by ac_rfl⟩
 | nu ts us=>exact ⟨(by ac_rfl:aN [(ah,ts),(d9,us)] ah x=[(ah,x),(d9,us)])▸.nu x us,by ac_rfl⟩
 | un ts us=>exact ⟨(by ac_rfl:aN [(d9,us),(ah,ts)] ah x=[(d9,us),(ah,x)])▸.un x us,by ac_rfl⟩
theorem xo{as:List (Str×Tx)}(h:b9 as):b9 (as.foldl bP [])∧(as.foldl bP []).lookup ah=none:=by
 induction h with
 | z=>exact ⟨.z,rfl⟩
 | n ts=>exact ⟨(by ac_rfl:Pm bP [] [(ah,ts)]=[])▸.z,by ac_rfl⟩
 | u us=>exact ⟨(by ac_rfl:Pm bP [] [(d9,us)]=[(d9,us)])▸.u us,by ac_rfl⟩
 | nu ts us=>exact ⟨(by ac_rfl:Pm bP [] [(ah,ts),(d9,us)]=[(d9,us)])▸.u us,by ac_rfl⟩
 | un ts us=>exact ⟨(by ac_rfl:Pm bP [] [(d9,us),(ah,ts)]=[(d9,us)])▸.u us,by ac_rfl⟩
theorem xp{N:Nat}{p:PV}{sp:List (Option Nat)}{ad:Option Tx}(o:bU N p)(k:Gl (p.items.length+100) sp ad)(hl:p.kind.isL=true):bU (N+100) (pA p sp):=by
 refine NO (fun d1 d2=>?_) (xo o.at_);refine ⟨?_,fun ns h=>?_,fun x hx=>?_,?_⟩
 ·show b9 (gX p.items.length sp p.attrs);unfold gX;refine vc (o:=p.attrs.lookup ah) ?_ (fun ns=>?_)
  ·exact d1
  ·exact (iL _ d1).1
 ·have h:(gX p.items.length sp p.attrs).lookup ah=some ns:=h;unfold gX at h;refine ay (o:=p.attrs.lookup ah) (fun e=>?_) (fun n2 e=>?_)
  ·replace h:=(e)▸h;exact (NN _ (h.symm.trans d2)).elim
  ·
   replace h:=(e)▸h;obtain rfl:=Option.some.inj ((iL _ d1).2.symm.trans h);exact (Nq _).trans (Nq _).symm
 ·obtain ⟨i,_,rfl⟩:=List.mem_map.mp hx;refine ay (o:=p.items[i]?) (fun e=>?_) (fun y e=>?_)
  ·rw[(show p.kind=.ls from by cases e:p.kind<;>first | rfl | (replace hl:=(e)▸hl;exact (Nt hl).elim))];exact trivial
  ·exact o.it y (OP e)
 ·refine Np (NL (Nq _)) (Np (List.length_filter_le ..) ?_);rw[OC];exact Nat.max_le.mpr ⟨Np o.ln (NS ..),Np (eO 0 (Ol _) k.j) (Ob o.ln 100)⟩
theorem rq{N M:Nat}{p w:PV}{sp:List (Option Nat)}{ad:Option Tx}(o:bU N p)(ow:bU M w)(k:Gl (p.items.length+100) sp ad)(ha:∀ts,ad=some ts→p.items.length+ts.length≤max p.items.length (cnt 0 sp))(hw:(!sp.isEmpty&&w.items.isEmpty)=false):bU (N+100) (aD p w sp ad):=by
 have hi:∀x∈p.items.map (aB p.kind (eA p.kind w.kind)),ej (eA p.kind w.kind) x:=fun x h=>by
  obtain ⟨y,hy,rfl⟩:=List.mem_map.mp h;exact ml (o.it y hy) (vI _ _)
 have hg:∀x∈w.items.map (aB w.kind (eA p.kind w.kind)),ej (eA p.kind w.kind) x:=fun x h=>by
  obtain ⟨y,hy,rfl⟩:=List.mem_map.mp h;exact ml (ow.it y hy) (vH _ _)
 have ln:=Nq (as:=p.items) (aB p.kind (eA p.kind w.kind));unfold aD;refine aw (o:=sp.isEmpty) (fun e=>?_) (fun e=>?_)
 ·exact ⟨o.at_,fun ns h=>(o.nm ns h).trans ln.symm,hi,Np (NL ln) (Np o.ln (NS ..))⟩
 ·
  replace hw:=(e)▸hw;have h0:0<(w.items.map (aB w.kind (eA p.kind w.kind))).length:=by
   rw[Nq];exact Pz fun w0=>by replace hw:=(List.length_eq_zero_iff.mp w0)▸hw;exact NG hw
  refine NO (fun a b=>?_) (tC hg h0 sp (i:=0) (wK (n:=cnt 0 sp) hi));rw[m6,ln]at b;generalize p.items.map (aB p.kind (eA p.kind w.kind))=its at a b ln ⊢;show bU (N+100) ⟨_,cH _ 0 _ sp,o8 its.length (cnt 0 sp) p.attrs ad⟩;rw[ln];refine ⟨?_,fun ns h=>?_,a,Np (NL b) (Nat.max_le.mpr ⟨Np o.ln (NS ..),Np (eO 0 (Ol _) k.j) (Ob o.ln 100)⟩)⟩
  ·show b9 (cond _ (cond _ _ _) _);refine dP (o:=Qx p.items.length (cnt 0 sp)) ?_ ?_
   ·exact o.at_
   ·refine dP (o:=(p.attrs.lookup ah).isNone&&ad.isNone) ?_ ?_
    ·exact (iL _ o.at_).1
    ·exact o.at_
  ·refine R0 ?_ b.symm;have h:OB ah (cond _ (cond _ _ _) _)=some ns:=h;refine aG (o:=Qx p.items.length (cnt 0 sp)) (fun e2=>?_) (fun e2=>?_)
   ·
    replace h:=(e2)▸h;rw[o.nm ns h];exact (Sy (Pv fun w=>by have e2:=(Qc w).symm.trans e2;exact NG e2)).symm
   ·
    replace h:=(e2)▸h;have lt:p.items.length<cnt 0 sp:=NJ e2;rw[(So (OI lt))]at ha ⊢;refine aw (o:=(p.attrs.lookup ah).isNone&&ad.isNone) (fun e3=>?_) (fun e3=>?_)
    ·
     replace h:=(e3)▸h;have:=(aa e3).1;replace this:=(show p.attrs.lookup ah=some ns from h)▸this;exact (Nt this).elim
    ·
     replace h:=(e3)▸h;obtain rfl:=Option.some.inj ((iL _ o.at_).2.symm.trans h);unfold bD;have nl:(bB p.items.length (p.attrs.lookup ah)).length=p.items.length:=by
      refine ay (o:=p.attrs.lookup ah) (fun e4=>?_) (fun ts e4=>?_)
      ·exact Od
      ·exact o.nm ts e4
     rw[NH,Od];refine PQ ?_;rw[NH,nl]
     induction ad with
     | none=>exact OI lt
     | some ts=>exact ha ts rfl
theorem qh{N M:Nat}{p q:PV}{val:Option PV}{ix:Ix}(o:bU N p)(oi:dI ix)(ow:∀w,val=some w→bU M w)(h:eE p val (eL p ix)=.vec q):bU (N+100) q:=by
 unfold eL at h;cases e:dD ix p.items.length (p.attrs.lookup ah) with
 | err m=>replace h:=(e)▸h;injection h
 | ok sp ad=>
  replace h:=(e)▸h;have k:=jG oi o.nm e
  induction val with
  | none=>
   have h:cond p.kind.isL (.vec (pA p sp)) (cond sp.isEmpty (.vec p) (.err fT))=ip.vec q:=h;refine aw (o:=p.kind.isL) (fun hl=>?_) (fun hl=>?_)
   ·
    replace h:=(hl)▸h;injection h with h;rw[← h];exact xp o k hl
   ·
    replace h:=(hl)▸h;refine aw (o:=sp.isEmpty) (fun he=>?_) (fun he=>?_)
    ·replace h:=(he)▸h;injection h with h;rw[← h];exact ⟨o.at_,o.nm,o.it,Np o.ln (NS ..)⟩
    ·replace h:=(he)▸h;injection h
  | some w=>
   have h:cf p w sp ad=ip.vec q:=h;unfold cf at h;refine aw (o:=decide (1<w.items.length)&&sp.any (·.isNone)) (fun e1=>?_) (fun e1=>?_)
   ·replace h:=(e1)▸h;injection h
   ·
    replace h:=(e1)▸h;refine aw (o:=!sp.isEmpty&&w.items.isEmpty) (fun e2=>?_) (fun e2=>?_)
    ·replace h:=(e2)▸h;injection h
    ·
     replace h:=(e2)▸h;injection h with h;rw[← h];exact rq o (ow w rfl) k (fun ts ht=>rK o.nm (ht▸e)) e2
theorem iM{N M:Nat}{v val:Option PV}{q:PV}{ix:Ix}(ov:∀p,v=some p→bU N p)(oi:dI ix)(ow:∀w,val=some w→bU M w)(h:dh v ix val=.vec q):bU (N+100) q:=by
 induction v with
 | some p=>exact qh (ov p rfl) oi ow h
 | none=>
  induction val with
  | none=>injection h
  | some w=>
   have h:cond w.items.isEmpty ip.nul (eE (ek w) (some w) (eL (ek w) ix))=.vec q:=h;refine aw (o:=w.items.isEmpty) (fun e=>?_) (fun e=>?_)
   ·replace h:=(e)▸h;injection h
   ·replace h:=(e)▸h;exact qh (pe w) oi ow h
end
section
theorem Cb:aX 134=⟨[some 0,none,none,none,none,none,none,none,none,none],[none,none,none,none],["ix","notes","v","value"],.glo (.fn 115)<|.loc 0<|.cal 1<|.put 1<|.glo (.fn 130)<|.loc 1<|.cal 1<|.ptc 1<|.glo (.ty "range")<|.cst (.int 1)<|.glo (.fn 116)<|.loc 1<|.cal 1<|.cst (.int 3)<|.bin .Mod<|.bin .Add<|.cal 1<|.for 2 (.glo (.fn 120)<|.loc 1<|.cal 1<|.ptc 3<|.glo (.fn 116)<|.loc 1<|.cal 1<|.cst (.int 6)<|.bin .Mod<|.put 3<|.glo (.cls 63)<|.cal 0<|.ptc 0<|.loc 3<|.cst (.int 5)<|.cmp .Lt<|.ite (.glo (.fn 129)<|.loc 1<|.glo (.fn 128)<|.cal 0<|.loc 3<|.sub<|.glo (.fn 116)<|.loc 1<|.cal 1<|.cst (.int 5)<|.bin .Mod<|.cal 3<|.ptc 0<|.fin) (.fin)<|.glo (.fn 126)<|.cel 1<|.cal 1<|.put 4<|.glo (.fn 126)<|.cel 0<|.cal 1<|.put 5<|.lst 0<|.put 6<|.glo (.fn 133)<|.loc 4<|.cel 3<|.loc 5<|.loc 6<|.cal 4<|.put 7<|.lst 0<|.ptc 2<|.glo (.fn 127)<|.lam Ey Er Eu<|.cal 1<|.put 8<|.glo (.fn 126)<|.loc 8<|.cal 1<|.loc 7<|.cmp .NotEq<|.or (.cel 2<|.loc 6<|.cmp .NotEq<|.or (.glo (.fn 126)<|.cel 1<|.cal 1<|.loc 4<|.cmp .NotEq<|.or (.glo (.fn 126)<|.cel 0<|.cal 1<|.loc 5<|.cmp .NotEq<|.fin)<|.fin)<|.fin)<|.ite (.cst (.bool false)<|.rtn) (.fin)<|.lst 0<|.ptc 2<|.glo (.fn 126)<|.glo (.fn 127)<|.lam Ew Ep Et<|.cal 1<|.cal 1<|.loc 7<|.cmp .NotEq<|.or (.cel 2<|.loc 6<|.cmp .NotEq<|.fin)<|.ite (.cst (.bool false)<|.rtn) (.fin)<|.glo (.bi "isinstance")<|.loc 8<|.glo (.ty "str")<|.cal 2<|.and (.loc 8<|.cst (.str "NULL")<|.cmp .NotEq<|.fin)<|.ite (.cnt) (.fin)<|.cel 1<|.att "kind"<|.cst (.str "NULL")<|.cmp .NotEq<|.and (.loc 8<|.att "kind"<|.cel 1<|.att "kind"<|.cmp .Eq<|.and (.cel 0<|.att "kind"<|.cst (.str "NULL")<|.cmp .NotEq<|.fin)<|.fin)<|.ite (.cel 1<|.mth "copy"<|.cal 1<|.put 9<|.cst (.bool true)<|.loc 9<|.sat "loose"<|.glo (.fn 109)<|.loc 9<|.cel 3<|.cel 0<|.lst 0<|.cal 4<|.pop<|.glo (.fn 126)<|.loc 9<|.cal 1<|.loc 7<|.cmp .NotEq<|.ite (.cst (.bool false)<|.rtn) (.fin)<|.fin) (.fin)<|.loc 8<|.ptc 1<|.fin)<|.cst (.bool true)<|.rtn⟩:=by ac_rfl
section
variable{c:Cx}{d:Nat}{m b:Bool}{x e g:I}{Q:UQ}{st:List UV}{L C:UL}{W:UW}
theorem IX(J:UL→UW→Prop)(h1:b=true→∀R:UQ,(∀C W,J C W→R (.nx st) L C W)→be c m d R x st L C W)(h2:b=false→∀R:UQ,(∀C W,J C W→R (.nx st) L C W)→be c m d R e st L C W)(hk:∀C W,J C W→be c m d Q g st L C W):fO b (be c m d (jU c m d Q g) x st L C W) (be c m d (jU c m d Q g) e st L C W):=by
 induction b using Bool.casesOn
 ·exact h2 rfl _ hk
 ·exact h1 rfl _ hk
variable{k:KU}{E:Str→UW→Prop}{a:Addr}{vs vs1:List UV}{r:List Int}
theorem dj{W r:UW}{i:Nat}{x:WO}(h:af W i=some x):af (W++r) i=some x:=by
 rw[aU]at h ⊢;rw[PK (List.getElem?_eq_some_iff.mp h).1];exact h
theorem EZ{W:UW}{a b:WO} : af (W++[a,b]) (W.length+1)=some b:=by
 have:=aM (W++[a]) b [];rw[Om,NH]at this;exact this
theorem Ch.nil{n:Nat}{o:WO}{W W':UW}(h:Ch n o W W'):Ch n o W (W'++[]):=by rw[Nr];exact h
theorem yK{n:Nat}{o o':WO}{W:UW}(h:af W n=some o):Ch n o' W (ar W n o'):=⟨eo h,fun ζ ζ e h=>ai e h⟩
theorem zd{n:Nat}(h:af W n=some (RW r)):bX [n] [n] W=some [RW r]:=mO h
theorem KT{gt:T→Prop}(g1:af W 1=some (RW r))(hp:aS [1] vs W=some (vs1,W))(h:de c d a vs1 [RW r] (Dr gt))(kr:∀t r' W',gt t→Ch 1 (RW r') W W'→k (.t t) W'):iH c d W k E a vs:=
 yG [1] rfl hp (zd g1) h fun t r' ht=>kr t r' _ ht (yK g1).nil
theorem px(P:PF c)(g1:af W 1=some (RW r))(hp:aS [1] vs W=some ([.w 0],W))(kr:∀i r' W',Ch 1 (RW r') W W'→k (ti i) W'):iH c (d+1) W k E (A 116) vs:=
 bn P [1] rfl hp (zd g1) fun i r'=>kr i r' _ (yK g1).nil
theorem Jp{kd:Kd}{n:Nat}(g1:af W 1=some (RW r))(hp:aS [1] vs W=some (vs1,W))(h:de c d a vs1 [RW r] (GX kd n))(kr:∀(is:List X) (r':List Int),is.length=n→(∀x∈is,ej kd x)→k (.w W.length) (ar W 1 (RW r')++[.v kd.s (.w (W.length+1)) (tv .none) false,.l (is.map xT)])):iH c d W k E a vs:=
 KR [1] rfl hp (zd g1) h fun is r' h1 h2=>kr is r' h1 h2
end
theorem bU.le{N M:Nat}{p:PV}(h:bU N p)(l:N≤M:=by decide):bU M p:=⟨h.at_,h.nm,h.it,Np h.ln l⟩
inductive Vv(W:UW):UV→Option PV→Prop
 | n:Vv W (.t (nT CN aO)) none
 | o{j:Nat}{k:Kd}{is:List X}(h:af W j=some (.v k.s (.w (j+1)) (tv .none) false))(h2:af W (j+1)=some (.l (is.map xT)))(ok:bU 9 ⟨k,is,[]⟩):Vv W (.w j) (some ⟨k,is,[]⟩)
theorem Vv.frz{W:UW}{x:UV}{val:Option PV}{r:List Int}(gv:Vv W x val)(g0:af W 0=some (.p LQ))(g1:af W 1=some (RW r)):∃W',aS [] [x] W=some ([.t (fA val)],W')∧Fz W' x (fA val)∧af W' 0=some (.p LQ)∧af W' 1=some (RW r):=by
 induction gv with
 | n=>exact ⟨W,rfl,.t,g0,g1⟩
 | @o j k is h h2 ok=>
  have n0:0≠j:=fun e=>by rw[← e,g0]at h;exact WO.noConfusion (Option.some.inj h)
  have n1:1≠j:=fun e=>by rw[← e,g1]at h;exact WO.noConfusion (Option.some.inj h)
  have n2:1≠j+1:=fun e=>n0 (Nat.succ.inj e);have hf:Mine.Internal.frz W (.w j)=some (vT k.s (.list (is.map xT)) lN false,ar (ar W (j+1) (.z (.list (is.map xT)))) j (.z (vT k.s (.list (is.map xT)) lN false))):=by
   rw[vC,h];show jB _ _ _ _ _ _=_;unfold jB;rw[sz,h2];rfl
  refine ⟨ar (ar W (j+1) (.z (.list (is.map xT)))) j (.z (vT k.s (.list (is.map xT)) lN false)),?_,.z (eo (ai (N1 (QY j)) h)),ai n0 (ai (Pu j).symm g0),ai n1 (ai n2 g1)⟩;show N0 (Mine.Internal.frz W (.w j)) _=_;rw[hf];rfl
section
variable{c:Cx}{d:Nat}(P:PF c)
include P
theorem qb{v:Option PV}(ok:∀p,v=some p→bU 800 p):ag c (d+2) (A 126) [.t (fA v)] [] (.r (.t (so v)) []):=by
 induction v using Option.casesOn with
 | none=>exact th P
 | some p=>exact te P (ok p rfl).at_ (ok p rfl).it
theorem x5{r:ip}(ok:∀p,r=.vec p→bU 900 p):ag c (d+2) (A 126) [.t (kA r)] [] (.r (.t (jb r)) []):=by
 induction r using ip.casesOn with
 | err m=>exact CQ P m
 | nul=>exact th P
 | vec p=>exact te P (ok p rfl).at_ (ok p rfl).it
theorem IJ{REST:I}{Q:UQ}{W:UW}{r:List Int}{l0 l2 l3 l4 l5 l6 l7 l8 l9 c0 c1 c2 c3:Option UV}(g0:af W 0=some (.p LQ))(g1:af W 1=some (RW r))(hk:∀ix val x l3 r' W',dI ix→(∀p,val=some p→bU 9 p)→af W' 0=some (.p LQ)→af W' 1=some (RW r')→Vv W' x val→be c true (d+20) Q REST [] [l0,some (.w 1),l2,l3,l4,l5,l6,l7,l8,l9] [some x,c1,c2,some (.t (fR ix))] W') :
  be c true (d+20) Q (.glo (.fn 120)<|.loc 1<|.cal 1<|.ptc 3<|.glo (.fn 116)<|.loc 1<|.cal 1<|.cst (.int 6)<|.bin .Mod<|.put 3<|.glo (.cls 63)<|.cal 0<|.ptc 0<|.loc 3<|.cst (.int 5)<|.cmp .Lt<|.ite (.glo (.fn 129)<|.loc 1<|.glo (.fn 128)<|.cal 0<|.loc 3<|.sub<|.glo (.fn 116)<|.loc 1<|.cal 1<|.cst (.int 5)<|.bin .Mod<|.cal 3<|.ptc 0<|.fin) (.fin)<|REST) [] [l0,some (.w 1),l2,l3,l4,l5,l6,l7,l8,l9] [c0,c1,c2,c3] W:=by
 symm;refine KT g1 rfl (HY P r) fun t r1 W h ch=>?_;obtain ⟨ix,oi,rfl⟩:=h;have g0:=ch.2 0 _ (by decide) g0;have g1:=ch.1;clear ch;symm;exists px P g1 rfl fun i r2 W ch=>?_;have g0:=ch.2 0 _ (by decide) g0;have g1:=ch.1;clear ch;refine ⟨by decide,?_⟩;refine gp i (m:=6) (by decide) fun m hm hm2=>?_;rw[hm];symm;exists .nl rfl ?_;exists IX (fun C W=>∃val x r',C=[some x,c1,c2,some (.t (fR ix))]∧(∀p,val=some p→bU 9 p)∧af W 0=some (.p LQ)∧af W 1=some (RW r')∧Vv W x val) (fun e R hR=>?_) (fun e R hR=>?_) fun C W h=>?_
 ·refine .r [] rfl rfl rfl (zl P) ?_;rw[show gm [] W.length [] W []=W from Nr W];symm;have hm5:m<vD.length:=Int.ofNat_lt.mp (Nx e);refine fS rfl (mZ (g:=fun k:Kd=>lS k.s) (xs:=vD) hm5) ?_;generalize vD[m]=kd;symm;exists px P g1 rfl fun i r3 W ch=>?_;have g0:=ch.2 0 _ (by decide) g0;have g1:=ch.1;refine ⟨by decide,?_⟩;refine gp i (m:=5) (by decide) fun n hn hn2=>?_;have hn9:n≤9:=OI (N2 (Int.ofNat_lt.mp hn2) (by decide));rw[hn];symm;exists Jp g1 rfl (CO P hn9 r3) fun is r4 hl hx=>?_;have ln:(ar W 1 (RW r4)).length=W.length:=cm;exact hR _ _ ⟨some ⟨kd,is,[]⟩,_,r4,rfl,fun p h=>by injection h with h;subst h;exact ⟨.z,fun ζ h=>ac h,hx,hl▸hn9⟩,dj (ai (by decide) g0),dj (eo g1),.o (ln▸aM _ _ _) (ln▸EZ) ⟨.z,fun ζ h=>ac h,hx,hl▸hn9⟩⟩
 ·exact hR _ _ ⟨none,_,_,rfl,fun ζ h=>ac h,g0,g1,.n⟩
 ·obtain ⟨val,x,r',rfl,h1,h2,h3,h4⟩:=h;exact hk _ _ _ _ _ _ oi h1 h2 h3 h4
theorem II{REST:I}{Q:UQ}{W:UW}{r:List Int}{v val:Option PV}{ix:Ix}{x:UV}{l0 l2 l3 l4 l5 l6 l7 l8 l9 c2:Option UV}(ov:∀p,v=some p→bU 800 p)(oi:dI ix)(ow:∀p,val=some p→bU 9 p)(g0:af W 0=some (.p LQ))(g1:af W 1=some (RW r))(gv:Vv W x val)(hk:∀du W',af W' 0=some (.p LQ)→af W' 1=some (RW r)→Fz W' x (fA val)→af W' du=some (.l (fE v ix val))→be c true (d+20) Q REST [] [l0,some (.w 1),l2,l3,some (.t (so v)),some (.t (so val)),some (.w du),some (.t (jb (dh v ix val))),l8,l9] [some x,some (.t (fA v)),c2,some (.t (fR ix))] W') :
  be c true (d+20) Q (.glo (.fn 126)<|.cel 1<|.cal 1<|.put 4<|.glo (.fn 126)<|.cel 0<|.cal 1<|.put 5<|.lst 0<|.put 6<|.glo (.fn 133)<|.loc 4<|.cel 3<|.loc 5<|.loc 6<|.cal 4<|.put 7<|REST) [] [l0,some (.w 1),l2,l3,l4,l5,l6,l7,l8,l9] [some x,some (.t (fA v)),c2,some (.t (fR ix))] W:=by
 symm;refine .r [] rfl rfl rfl (qb P ov) ?_;rw[show gm [] W.length [] W []=W from Nr W];symm;obtain ⟨W2,hp,gx,g0,g1⟩:=gv.frz g0 g1;refine .r [] rfl hp rfl (qb P fun p h=>(ow p h).le) ?_;rw[show gm [] W2.length [] W2 []=W2 from Nr W2];symm;exists .r [W2.length] rfl (qi .t br) (mO br) (HS P ov oi (fun p h=>(ow p h).le) (Ol _)) ?_;have g2:af (W2++[WO.l []]) W2.length=some (.l []):=br;exact hk _ _ (dj (ai (N1 (dt g0)) (ax g0))) (dj (ai (N1 (dt g1)) (ax g1))) (gx.go fun i t h=>dj (ai (N1 (dt h)) (ax h))) (dj (eo g2))
end
end
section
theorem ye(n:Nat)(s:Sc):b5 (n+2) (cY s)=true:=by induction s using Sc.casesOn<;>rfl
theorem H9(n:Nat)(x:X):b5 (n+4) (dg x)=true:=by
 induction x using X.casesOn with
 | sc s=>exact ye _ s
 | null=>rfl
 | sv k s=>
  show (true&&((([cY s].all (b5 (n+2)))&&true)))=true;show (true&&((b5 (n+2) (cY s)&&true)&&(true&&true)))=true;rw[ye];rfl
theorem Df(n:Nat)(ts:Tx):(ts.map bz).all (b5 (n+1))=true:=by
 rw[Qo];exact List.all_eq_true.mpr fun o ζ=>by induction o using Option.casesOn<;>rfl
theorem Ia(p:PV):b5 8 (sC p)=true:=by
 show (true&&((p.items.map dg).all (b5 6)&&((dU p.attrs).all (fun e=>b5 6 e.2)&&true)))=true;rw[show (p.items.map dg).all (b5 6)=true by rw[Qo];exact List.all_eq_true.mpr fun x ζ=>H9 2 x,show (dU p.attrs).all (fun e=>b5 6 e.2)=true by
  unfold dU;rw[Qo];refine List.all_eq_true.mpr fun e ζ=>?_;show (true&&((e.2.map bz).all (b5 4)&&(true&&true)))=true;rw[Df 3];rfl]
 rfl
theorem Im(s:Str){W:UW}{kb:Bool→Prop}(q:kb false):cF .NotEq (tS s) (tS s) W kb:=by
 show kb (!decide (s=s));rw[NF rfl];exact q
theorem Io(p:PV){W:UW}{kb:Bool→Prop}(q:kb false):cF .NotEq (.t (sC p)) (.t (sC p)) W kb:=pQ.same rfl rfl rfl (Ia p) q
theorem KH(v:Option PV){W:UW}{kb:Bool→Prop}(q:kb false):cF .NotEq (.t (so v)) (.t (so v)) W kb:=by
 induction v using Option.casesOn with
 | none=>exact Im _ q
 | some p=>exact Io p q
theorem KI(r:ip){W:UW}{kb:Bool→Prop}(q:kb false):cF .NotEq (.t (jb r)) (.t (jb r)) W kb:=by
 induction r using ip.casesOn with
 | err m=>exact Im _ q
 | nul=>exact Im _ q
 | vec p=>exact Io p q
theorem qg(v:Option PV)(ix:Ix)(val:Option PV):(fE v ix val).all (b5 7)=true:=by
 have hN:∀w sp,(bA w sp).all (b5 7)=true:=fun w sp=>by
  unfold bA dJ;cases sp.isEmpty
  ·refine dP (o:=sp.length % w.items.length==0) ?_ ?_<;>rfl
  ·rfl
 have hD:∀p val d,(f8 p val d).all (b5 7)=true:=fun p val d=>by
  induction d using pR.casesOn with
  | err=>rfl
  | ok sp ad=>
   induction val using Option.casesOn with
   | none=>rfl
   | some w=>
    show (fF p w sp).all (b5 7)=true;unfold fF;refine dP (o:=decide (1<w.items.length)&&sp.any (·.isNone)) ?_ ?_
    ·refine dP (o:=!sp.isEmpty&&w.items.isEmpty) ?_ ?_
     ·exact hN w sp
     ·rfl
    ·rfl
 induction v using Option.casesOn with
 | some p=>exact hD p val _
 | none=>
  induction val using Option.casesOn with
  | none=>rfl
  | some w=>
   show (cond w.items.isEmpty [] _).all (b5 7)=true;cases w.items.isEmpty
   ·exact hD (ek w) (some w) _
   ·rfl
theorem KJ{W:UW}{i j:Nat}{ts:List T}{kb:Bool→Prop}(h:af W i=some (.l ts))(h':af W j=some (.l ts))(r:ts.all (b5 7)=true)(q:kb false):cF .NotEq (.w i) (.w j) W kb:=pQ.same (jd h) (jd h') rfl r q
theorem D0{W:UW}{x:UV}{t:T}(h:Fz W x t):aS [] [x] W=some ([.t t],W):=by
 have hf:=h.frz
 induction h with
 | t=>rfl
 | z hz=>
  show N0 (Mine.Internal.frz W _) _=_;rw[hf];rfl
section
variable{c:Cx}{d:Nat}(P:PF c)
include P
theorem IH{REST:I}{Q:UQ}{W:UW}{r:List Int}{v val:Option PV}{ix:Ix}{x:UV}{du:Nat}{l0 l2 l3 l8 l9 c2:Option UV}(ov:∀p,v=some p→bU 800 p)(oi:dI ix)(ow:∀p,val=some p→bU 9 p)(g0:af W 0=some (.p LQ))(g1:af W 1=some (RW r))(gx:Fz W x (fA val))(gd:af W du=some (.l (fE v ix val)))(hk:∀c2 W',af W' 0=some (.p LQ)→af W' 1=some (RW r)→Fz W' x (fA val)→af W' du=some (.l (fE v ix val))→be c true (d+20) Q REST [] [l0,some (.w 1),l2,l3,some (.t (so v)),some (.t (so val)),some (.w du),some (.t (jb (dh v ix val))),some (.t (kA (dh v ix val))),l9] [some x,some (.t (fA v)),c2,some (.t (fR ix))] W') :
  be c true (d+20) Q (.lst 0<|.ptc 2<|.glo (.fn 127)<|.lam Ey Er Eu<|.cal 1<|.put 8<|.glo (.fn 126)<|.loc 8<|.cal 1<|.loc 7<|.cmp .NotEq<|.or (.cel 2<|.loc 6<|.cmp .NotEq<|.or (.glo (.fn 126)<|.cel 1<|.cal 1<|.loc 4<|.cmp .NotEq<|.or (.glo (.fn 126)<|.cel 0<|.cal 1<|.loc 5<|.cmp .NotEq<|.fin)<|.fin)<|.fin)<|.ite (.cst (.bool false)<|.rtn) (.fin)<|REST) [] [l0,some (.w 1),l2,l3,some (.t (so v)),some (.t (so val)),some (.w du),some (.t (jb (dh v ix val))),l8,l9] [some x,some (.t (fA v)),c2,some (.t (fR ix))] W:=by
 symm;refine (?_:lj c (d+20) Ey Er Eu (.v (.ref (A 127))) _ _ _);refine ED P ov oi (fun p h=>(ow p h).le) (Ol _) (ax g0) (gx.go fun i t h=>ax h) br fun W2 ch=>?_;have lt:=dt gd;have gx:=gx.go fun i t h=>ch.2 _ _ (N1 (dt h)) (ax h);have g0:=ch.2 _ _ (N1 (dt g0)) (ax g0);have g1:=ch.2 _ _ (N1 (dt g1)) (ax g1);have gd:=ch.2 _ _ (N1 lt) (ax gd);have gn:af W2 W.length=some (.l (fE v ix val)):=ch.1;generalize W.length=n at gn ⊢;clear ch lt;symm;refine .r [] rfl rfl rfl (x5 P fun p h=>iM ov oi ow h) ?_;rw[show gm [] W2.length [] W2 []=W2 from Nr W2];symm;exists KI _ ?_;exists KJ gn gd (qg ..) ?_;refine .r [] rfl rfl rfl (qb P ov) ?_;rw[show gm [] W2.length [] W2 []=W2 from Nr W2];symm;exists KH _ ?_;refine .r [] rfl (D0 gx) rfl (qb P fun p h=>(ow p h).le) ?_;rw[show gm [] W2.length [] W2 []=W2 from Nr W2];symm;exists KH _ ?_;exact hk _ _ g0 g1 gx gd
theorem IG{REST:I}{Q:UQ}{W:UW}{r:List Int}{v val:Option PV}{ix:Ix}{x:UV}{du:Nat}{l0 l2 l3 l4 l5 l8 l9 c2:Option UV}(ov:∀p,v=some p→bU 800 p)(oi:dI ix)(ow:∀p,val=some p→bU 9 p)(g0:af W 0=some (.p LQ))(g1:af W 1=some (RW r))(gx:Fz W x (fA val))(gd:af W du=some (.l (fE v ix val)))(hk:∀c2 W',af W' 0=some (.p LQ)→af W' 1=some (RW r)→Fz W' x (fA val)→be c true (d+20) Q REST [] [l0,some (.w 1),l2,l3,l4,l5,some (.w du),some (.t (jb (dh v ix val))),l8,l9] [some x,some (.t (fA v)),c2,some (.t (fR ix))] W') :
  be c true (d+20) Q (.lst 0<|.ptc 2<|.glo (.fn 126)<|.glo (.fn 127)<|.lam Ew Ep Et<|.cal 1<|.cal 1<|.loc 7<|.cmp .NotEq<|.or (.cel 2<|.loc 6<|.cmp .NotEq<|.fin)<|.ite (.cst (.bool false)<|.rtn) (.fin)<|REST) [] [l0,some (.w 1),l2,l3,l4,l5,some (.w du),some (.t (jb (dh v ix val))),l8,l9] [some x,some (.t (fA v)),c2,some (.t (fR ix))] W:=by
 symm;refine (?_:lj c (d+20) Ew Ep Et (.v (.ref (A 127))) _ _ _);refine EC P ov oi (fun p h=>(ow p h).le) (Ol _) (ax g0) (gx.go fun i t h=>ax h) br fun W2 ch=>?_;have lt:=dt gd;have gx:=gx.go fun i t h=>ch.2 _ _ (N1 (dt h)) (ax h);have g0:=ch.2 _ _ (N1 (dt g0)) (ax g0);have g1:=ch.2 _ _ (N1 (dt g1)) (ax g1);have gd:=ch.2 _ _ (N1 lt) (ax gd);have gn:af W2 W.length=some (.l (fE v ix val)):=ch.1;generalize W.length=n at gn ⊢;clear ch lt;symm;refine .r [] rfl rfl rfl (x5 P fun p h=>iM ov oi ow h) ?_;rw[show gm [] W2.length [] W2 []=W2 from Nr W2];symm;exists KI _ ?_;exists KJ gn gd (qg ..) ?_;exact hk _ _ g0 g1 gx
end
end
section
theorem qo{cs:List (Option Int)}{n:Nat}{m:Str}(h:bp cs n=.err m):m≠aO:=by
 unfold bp at h;refine aG (o:=cs.any c6) (fun e1=>?_) (fun e1=>?_)
 ·replace h:=(e1)▸h;injection h
 ·replace h:=(e1)▸h;refine aG (o:=cs.any (·.isNone)) (fun e2=>?_) (fun e2=>?_)
  ·replace h:=(e2)▸h;refine aG (o:=cs.any gA) (fun e3=>?_) (fun e3=>?_)
   ·replace h:=(e3)▸h;injection h
   ·replace h:=(e3)▸h;injection h with h;subst h;decide
  ·replace h:=(e2)▸h;injection h with h;subst h;decide
theorem xl{ix:Ix}{n:Nat}{names:Option Tx}{m:Str}(h:dD ix n names=.err m):m≠aO:=by
 induction ix with
 | missing=>injection h
 | null=>injection h
 | vec k is=>
  induction k with
  | ls=>injection h with h;subst h;decide
  | lg=>injection h
  | ch=>injection h
  | it=>exact qo h
  | db=>exact qo h
theorem mV{p:PV}{val:Option PV}{ix:Ix}{m:Str}(h:eE p val (eL p ix)=.err m):m≠aO:=by
 cases e:eL p ix with
 | err m'=>replace h:=(e)▸h;injection h with h;rw[← h];exact xl e
 | ok sp ad=>
  rw[e]at h
  induction val with
  | none=>
   have h:cond p.kind.isL (.vec (pA p sp)) (cond sp.isEmpty (.vec p) (.err fT))=ip.err m:=h;refine aG (o:=p.kind.isL) (fun hl=>?_) (fun hl=>?_)
   ·replace h:=(hl)▸h;refine aG (o:=sp.isEmpty) (fun he=>?_) (fun he=>?_)
    ·replace h:=(he)▸h;injection h with h;rw[← h];decide
    ·replace h:=(he)▸h;injection h
   ·replace h:=(hl)▸h;injection h
  | some w=>
   have h:cf p w sp ad=ip.err m:=h;unfold cf at h;refine aG (o:=decide (1<w.items.length)&&sp.any (·.isNone)) (fun e1=>?_) (fun e1=>?_)
   ·replace h:=(e1)▸h;refine aG (o:=!sp.isEmpty&&w.items.isEmpty) (fun e2=>?_) (fun e2=>?_)
    ·replace h:=(e2)▸h;injection h
    ·replace h:=(e2)▸h;injection h with h;rw[← h];decide
   ·replace h:=(e1)▸h;injection h with h;rw[← h];decide
theorem tB{v val:Option PV}{ix:Ix}{m:Str}(h:dh v ix val=.err m):m≠aO:=by
 induction v with
 | some p=>exact mV h
 | none=>
  induction val with
  | none=>injection h
  | some w=>
   have h:cond w.items.isEmpty ip.nul (eE (ek w) (some w) (eL (ek w) ix))=.err m:=h;refine aG (o:=w.items.isEmpty) (fun e=>?_) (fun e=>?_)
   ·replace h:=(e)▸h;exact mV (p:=ek w) (val:=some w) (ix:=ix) h
   ·replace h:=(e)▸h;injection h
theorem tD{p:PV}{val:Option PV}{ix:Ix}(h:eE p val (eL p ix)=.nul):False:=by
 cases e:eL p ix with
 | err m'=>replace h:=(e)▸h;injection h
 | ok sp ad=>
  replace h:=(e)▸h
  induction val with
  | none=>
   have h:cond p.kind.isL (.vec (pA p sp)) (cond sp.isEmpty (.vec p) (.err fT))=ip.nul:=h;refine aG (o:=p.kind.isL) (fun hl=>?_) (fun hl=>?_)
   ·replace h:=(hl)▸h;refine aG (o:=sp.isEmpty) (fun he=>?_) (fun he=>?_)<;>replace h:=(he)▸h<;>injection h
   ·replace h:=(hl)▸h;injection h
  | some w=>
   have h:cf p w sp ad=ip.nul:=h;unfold cf at h;refine aG (o:=decide (1<w.items.length)&&sp.any (·.isNone)) (fun e1=>?_) (fun e1=>?_)
   ·replace h:=(e1)▸h;refine aG (o:=!sp.isEmpty&&w.items.isEmpty) (fun e2=>?_) (fun e2=>?_)<;>replace h:=(e2)▸h<;>injection h
   ·replace h:=(e1)▸h;injection h
theorem tA{k k':Kd}(h:(k.rank==k'.rank)=true):k=k':=by cases k<;>cases k'<;>first | rfl | cases h
inductive xO(W:UW)(i:Nat)(q:PV)(lo:Bool):Prop
 | mk{a:Nat}{b:UV}(h:af W i=some (.v q.kind.s (.w a) b lo))(h1:af W a=some (.l (q.items.map xT)))(na:a≠i)(n1:a≠1)(h2:(q.attrs=[]∧b=tv .none)∨∃e,b=.w e∧e≠i∧e≠a∧e≠1∧af W e=some (.d (il q.attrs))∧q.attrs≠[])
theorem EY{W:UW}{a b c:WO} : af (W++[a,b,c]) (W.length+1)=some b:=by
 have:=aM (W++[a]) b [c];rw[Om,NH]at this;exact this
theorem Je{W:UW}{a b c:WO} : af (W++[a,b,c]) (W.length+2)=some c:=by
 have:=aM (W++[a,b]) c [];rw[Om,NH]at this;exact this
section
variable{c:Cx}{d:Nat}(P:PF c)
include P
theorem xK{W:UW}{x:UV}{k:Str}{it at_:T}{lo:Bool}{K:UV→Prop}(h:pk W x=some (vT k it at_ lo))(q:K (tS k)):ew c (No "kind") W K x:=.mk h (mH P (by decide)) (by ac_rfl) (by ac_rfl) q
theorem xN{W:UW}{x:UV}{k:Str}{K:UV→Prop}(h:pk W x=some (nT CN k))(q:K (tS k)):ew c (No "kind") W K x:=.mk h (fl P (.head _) (by decide)) (by ac_rfl) (by ac_rfl) q
omit P in
theorem AA{W:UW}{i:Nat}{q:PV}{lo:Bool}{r:List Int}(h:xO W i q lo)(g0:af W 0=some (.p LQ))(g1:af W 1=some (RW r)):∃W',aS [] [.w i] W=some ([.t (vT q.kind.s (.list (q.items.map xT)) (iG q.attrs) lo)],W')∧af W' 0=some (.p LQ)∧af W' 1=some (RW r):=by
 set_option tactic.hygienic true in obtain ⟨h,h1,na,n1,h2⟩:=h
 rename_i a b;have n0:0≠i:=fun e=>by rw[← e,g0]at h;exact WO.noConfusion (Option.some.inj h)
 have n0':1≠i:=fun e=>by rw[← e,g1]at h;exact WO.noConfusion (Option.some.inj h)
 have m0:0≠a:=fun e=>by rw[← e,g0]at h1;exact WO.noConfusion (Option.some.inj h1)
 have fin:∀{W' t},jB W i q.kind.s (.w a) b lo=some (t,W')→aS [] [.w i] W=some ([.t t],W'):=fun e=>by
  show N0 (Mine.Internal.frz W (.w i)) _=_;rw[vC,h];show N0 (jB W i q.kind.s (.w a) b lo) _=_;rw[e];rfl
 have e1:eK W (.w a)=some (.list (q.items.map xT),ar W a (.z (.list (q.items.map xT)))):=by
  rw[sz,h1];rfl
 rcases h2 with ⟨e,rfl⟩ | ⟨e2,rfl,n2,n3,n4,g,ne⟩
 ·refine ⟨_,fin (t:=vT q.kind.s (.list (q.items.map xT)) (iG q.attrs) lo) (W':=ar (ar W a (.z (.list (q.items.map xT)))) i (.z (vT q.kind.s (.list (q.items.map xT)) (iG q.attrs) lo))) ?_,ai n0 (ai m0 g0),ai n0' (ai n1.symm g1)⟩;unfold jB;rw[e1,e];rfl
 ·have m2:0≠e2:=fun e=>by rw[← e,g0]at g;exact WO.noConfusion (Option.some.inj g)
  refine ⟨_,fin (t:=vT q.kind.s (.list (q.items.map xT)) (iG q.attrs) lo) (W':=ar (ar (ar W a (.z (.list (q.items.map xT)))) e2 (.z (.dict (il q.attrs)))) i (.z (vT q.kind.s (.list (q.items.map xT)) (iG q.attrs) lo))) ?_,ai n0 (ai m2 (ai m0 g0)),ai n0' (ai n4.symm (ai n1.symm g1))⟩;unfold jB;rw[e1];show N0 (eK (ar W a (.z (.list (q.items.map xT)))) (.w e2)) _=_;rw[sz,ai n3 g,(show iG q.attrs=.dict (il q.attrs) from by cases e:q.attrs with | nil=>exact absurd e ne | cons=>rfl)];rfl
omit P in
theorem oU{ks r:List Nat}{j:Nat}{W Z:UW}{o o':WO}(h:af W j=some o)(e:yd ks o=some o')(t:bX ks r W=some Z):bX ks (j::r) W=some (o'::Z):=by
 show N0 (af W j) _=_;rw[h];show N0 (yd ks o) _=_;rw[e];show N0 (bX ks r W) _=_;rw[t];rfl
omit P in
theorem yf{js:List Nat}{W:UW}{i l:Nat}{u t:T}{x:UV}(ri:qd js (.w i)=some (.w 1))(rl:qd js (.w l)=some (.w 0))(hx:∀j t,af W j=some (.z t)→qd js (.w j)=none)(gx:Fz W x t):aS js [.w i,.t u,x,.w l] W=some ([.w 1,.t u,.t t,.w 0],W):=by
 have e2:aS js [.w l] W=some ([.w 0],W):=by
  unfold aS;rw[rl];rfl
 have e3:aS js [x,.w l] W=some ([.t t,.w 0],W):=by
  have hf:=gx.frz;unfold aS
  induction gx with
  | t=>show N0 (aS js [.w l] W) _=_;rw[e2];rfl
  | z hz=>
   rw[hx _ _ hz];show N0 (Mine.Internal.frz W _) _=_;rw[hf];show N0 (aS js [.w l] W) _=_;rw[e2];rfl
 have e4:aS js [.t u,x,.w l] W=some ([.t u,.t t,.w 0],W):=by
  show N0 (aS js [x,.w l] W) _=_;rw[e3];rfl
 unfold aS;rw[ri];show N0 (aS js [.t u,x,.w l] W) _=_;rw[e4];rfl
theorem xv{K:KU}{E:Str→UW→Prop}{W:UW}{i:Nat}{r:List Int}{x:UV}{p w:PV}{ix:Ix}{sp:List (Option Nat)}{ad:Option Tx}(ho:xO W i p true)(g0:af W 0=some (.p LQ))(g1:af W 1=some (RW r))(gx:Fz W x (pT w))(op:bU 800 p)(oi:dI ix)(ow:bU 9 w)(hq:dD ix p.items.length (p.attrs.lookup ah)=.ok sp ad)(hk:eA p.kind w.kind=p.kind)
  (e1:(decide (1<w.items.length)&&sp.any (·.isNone))=false) (e2:(!sp.isEmpty&&w.items.isEmpty)=false) (kr:∀v W',xO W' i (aD p w sp ad) true→af W' 0=some (.p LQ)→af W' 1=some (RW r)→K v W'):iH c (d+20) (W++[.l []]) K E (A 109) [.w i,.t (fR ix),x,.w W.length]:=by
 have h109:=CZ P (d:=d+3) (ns:=[]) op oi ow.le (Ol _) hq hk e1 e2
 set_option tactic.hygienic true in obtain ⟨h,h1,na,n1,h2⟩:=ho
 rename_i a b;have li:=N6 (dt h);have la:=N6 (dt h1);have l0:=N6 (dt g0);have l1:=N6 (dt g1);have i0:i≠0:=fun e=>by rw[e,g0]at h;exact WO.noConfusion (Option.some.inj h)
 have i1:i≠1:=fun e=>by rw[e,g1]at h;exact WO.noConfusion (Option.some.inj h)
 have a0:a≠0:=fun e=>by rw[e,g0]at h1;exact WO.noConfusion (Option.some.inj h1)
 have gl:af (W++[.l []]) W.length=some (.l []):=br;have h:=ax (o:=.l []) h;have h1:=ax (o:=.l []) h1;have gx:=gx.go fun i t h=>ax (o:=.l []) h;have g00:=g0;have g0:=ax (o:=.l []) g0;have g1:=ax (o:=.l []) g1;rcases h2 with ⟨ea,rfl⟩ | ⟨e,rfl,ei,ea,en,ge,ne⟩
 ·generalize hl:W.length=l at li la l0 l1 gl ⊢;clear hl g00;generalize W++[.l []]=W at h h1 gx g0 g1 gl ⊢;have iz:∀j t,af W j=some (.z t)→qd [l,i,a] (.w j)=none:=fun j t hz=>by
   show Os UV.w (bV [l,i,a] j)=none;rw[aJ (vB gl (fun ζ=>WO.noConfusion) hz).symm,aJ (vB h (fun ζ=>WO.noConfusion) hz).symm,aJ (vB h1 (fun ζ=>WO.noConfusion) hz).symm];rfl
  have hn:nk [l,i,a]=true:=by
   show ((bV [i,a] l).isNone&&((bV [a] i).isNone&&true))=true;rw[aJ li.symm,aJ la.symm,aJ na];rfl
  have hs:bX [l,i,a] [l,i,a] W=some (.l []::OV 1 p.kind p.items p.attrs true):=by
   have r1:yd [l,i,a] (.v p.kind.s (.w a) (tv .none) true)=some (.v p.kind.s (.w 2) (tv .none) true):=by
    show N0 (Os UV.w (bV [l,i,a] a)) _=_;rw[(show bV [l,i,a] a=some 2 from by rw[aJ la,aJ na.symm,c5];rfl)];rfl
   rw[ea,zD];exact oU gl rfl (oU h r1 (oU h1 rfl rfl))
  refine .r [l,i,a] hn (yf (Nw (Os UV.w) (show bV [l,i,a] i=some 1 from by rw[aJ li,c5];rfl)) (Nw (Os UV.w) (c5 ..)) iz gx) hs h109 ?_;refine nS (o:=(aD p w sp ad).attrs) (fun e3=>?_) (fun q r' e3=>?_)
  ·
   rw[zD];exact kr _ (ar (ar (ar W l (.l ([]++bA w sp))) i (.v (aD p w sp ad).kind.s (.w a) (tv .none) true)) a (.l ((aD p w sp ad).items.map xT))++[]) ⟨dj (ai na.symm (eo (ai li.symm h))),dj (eo (ai na (ai la.symm h1))),na,n1,.inl ⟨e3,rfl⟩⟩ (dj (ai a0.symm (ai i0.symm (ai l0.symm g0)))) (dj (ai n1.symm (ai i1.symm (ai l1.symm g1))))
  ·
   rw[wL];exact kr _ (ar (ar (ar W l (.l ([]++bA w sp))) i (.v (aD p w sp ad).kind.s (.w a) (.w (W.length+0)) true)) a (.l ((aD p w sp ad).items.map xT))++[.d (il (q::r'))]) ⟨dj (ai na.symm (eo (ai li.symm h))),dj (eo (ai na (ai la.symm h1))),na,n1,.inr ⟨_,rfl,N6 (dt h),N6 (dt h1),N6 (dt g1),by rw[e3];exact (Nw (af _) (cm.trans (cm.trans cm)).symm).trans (aM _ _ []),by rw[e3];exact PN _ _⟩⟩ (dj (ai a0.symm (ai i0.symm (ai l0.symm g0)))) (dj (ai n1.symm (ai i1.symm (ai l1.symm g1))))
 ·have le:=N6 (dt ge);have e0:e≠0:=fun w=>by rw[w,show af W 0=some (.p LQ) from g00]at ge;exact WO.noConfusion (Option.some.inj ge)
  have h2:=ax (o:=.l []) ge;generalize hl:W.length=l at li la l0 l1 gl le ⊢;clear hl;generalize W++[.l []]=W at h h1 h2 gx g0 g1 gl ⊢;have iz:∀j t,af W j=some (.z t)→qd [l,i,a,e] (.w j)=none:=fun j t hz=>by
   show Os UV.w (bV [l,i,a,e] j)=none;rw[aJ (vB gl (fun ζ=>WO.noConfusion) hz).symm,aJ (vB h (fun ζ=>WO.noConfusion) hz).symm,aJ (vB h1 (fun ζ=>WO.noConfusion) hz).symm,aJ (vB h2 (fun ζ=>WO.noConfusion) hz).symm];rfl
  have hn:nk [l,i,a,e]=true:=by
   show ((bV [i,a,e] l).isNone&&((bV [a,e] i).isNone&&((bV [e] a).isNone&&true)))=true;rw[aJ li.symm,aJ la.symm,aJ le.symm,aJ na,aJ ei,aJ ea];rfl
  have hs:bX [l,i,a,e] [l,i,a,e] W=some (.l []::OV 1 p.kind p.items p.attrs true):=by
   have r1:yd [l,i,a,e] (.v p.kind.s (.w a) (.w e) true)=some (.v p.kind.s (.w 2) (.w 3) true):=by
    show N0 (Os UV.w (bV [l,i,a,e] a)) (fun x=>N0 (Os UV.w (bV [l,i,a,e] e)) _)=_;rw[(show bV [l,i,a,e] a=some 2 from by rw[aJ la,aJ na.symm,c5];rfl),(show bV [l,i,a,e] e=some 3 from by rw[aJ le,aJ ei.symm,aJ ea.symm,c5];rfl)];rfl
   refine nS (o:=p.attrs) (fun e3=>?_) (fun q r' e3=>?_)
   ·exact absurd e3 ne
   ·
    rw[wL];rw[e3]at h2;exact oU gl rfl (oU h r1 (oU h1 rfl (oU h2 rfl rfl)))
  refine .r [l,i,a,e] hn (yf (Nw (Os UV.w) (show bV [l,i,a,e] i=some 1 from by rw[aJ li,c5];rfl)) (Nw (Os UV.w) (c5 ..)) iz gx) hs h109 ?_;refine nS (o:=(aD p w sp ad).attrs) (fun e3=>?_) (fun q r' e3=>?_)
  ·exact absurd (dH e3) ne
  ·
   rw[wL];exact kr _ (ar (ar (ar (ar W l (.l ([]++bA w sp))) i (.v (aD p w sp ad).kind.s (.w a) (.w e) true)) a (.l ((aD p w sp ad).items.map xT))) e (.d (il (q::r')))++[]) ⟨dj (ai ei.symm (ai na.symm (eo (ai li.symm h)))),dj (ai ea.symm (eo (ai na (ai la.symm h1)))),na,n1,.inr ⟨e,rfl,ei,ea,en,by rw[e3];exact dj (eo (ai ea (ai ei (ai le.symm h2)))),by rw[e3];exact PN _ _⟩⟩ (dj (ai e0.symm (ai a0.symm (ai i0.symm (ai l0.symm g0))))) (dj (ai en.symm (ai n1.symm (ai i1.symm (ai l1.symm g1)))))
theorem ID{Q:UQ}{W:UW}{r:List Int}{p w:PV}{ix:Ix}{x:UV}{q:PV}{l0 l2 l3 l4 l5 l6 l8 l9 c2:Option UV}(op:bU 800 p)(oi:dI ix)(ow:bU 9 w)(g0:af W 0=some (.p LQ))(g1:af W 1=some (RW r))(gx:Fz W x (pT w))(e:dh (some p) ix (some w)=.vec q)(hk:q.kind=p.kind)(hQ:∀l9 W',af W' 0=some (.p LQ)→af W' 1=some (RW r)→Q (.nx []) [l0,some (.w 1),l2,l3,l4,l5,l6,some (.t (sC q)),l8,some l9] [some x,some (.t (pT p)),c2,some (.t (fR ix))] W') :
  be c true (d+20) Q (.cel 1<|.mth "copy"<|.cal 1<|.put 9<|.cst (.bool true)<|.loc 9<|.sat "loose"<|.glo (.fn 109)<|.loc 9<|.cel 3<|.cel 0<|.lst 0<|.cal 4<|.pop<|.glo (.fn 126)<|.loc 9<|.cal 1<|.loc 7<|.cmp .NotEq<|.ite (.cst (.bool false)<|.rtn) (.fin)<|.fin) [] [l0,some (.w 1),l2,l3,l4,l5,l6,some (.t (sC q)),l8,l9] [some x,some (.t (pT p)),c2,some (.t (fR ix))] W:=by
 have oq:=iM (v:=some p) (N:=800) (fun p' h=>by injection h with h;subst h;exact op) oi (fun w' h=>by injection h with h;subst h;exact ow) e;cases hd:dD ix p.items.length (p.attrs.lookup ah) with
 | err m=>
  have e:eE p (some w) (dD ix p.items.length (p.attrs.lookup ah))=.vec q:=e;replace e:=(hd)▸e;injection e
 | ok sp ad=>
  have e:eE p (some w) (dD ix p.items.length (p.attrs.lookup ah))=.vec q:=e;replace e:=(hd)▸e;have e:cf p w sp ad=.vec q:=e;unfold cf at e;refine aw (o:=decide (1<w.items.length)&&sp.any (·.isNone)) (fun e1=>?_) (fun e1=>?_)
  ·rw[e1]at e;injection e
  ·
   replace e:=(e1)▸e;refine aw (o:=!sp.isEmpty&&w.items.isEmpty) (fun e2=>?_) (fun e2=>?_)
   ·rw[e2]at e;injection e
   ·
    rw[e2]at e;injection e with e;subst e;have hk2:eA p.kind w.kind=p.kind:=by
     refine R0 ?_ hk;unfold aD
     induction sp.isEmpty<;>rfl
    symm;exists .inst rfl (by ac_rfl) (KW P) ?_;refine .r [] rfl rfl rfl (ya P) ?_;have n0:=dt g0;have o1:xO (gm [] W.length [] W (OV 0 p.kind p.items p.attrs false)) (W.length+0) p false:=by
     refine nS (o:=p.attrs) (fun ea=>?_) (fun y r' ea=>?_)
     ·
      exact ⟨aM _ _ _,EZ,QW _,fun w=>N6 n0 (Nat.succ.inj w),.inl ⟨ea,rfl⟩⟩
     ·
      refine ⟨aM _ _ _,EY,QW _,fun w=>N6 n0 (Nat.succ.inj w),.inr ⟨W.length+2,rfl,?_,?_,?_,?_,?_⟩⟩
      ·exact N6 (S9 (by decide))
      ·exact QW _
      ·exact fun w=>absurd (Nat.succ.inj w) (Pu _)
      ·rw[ea];exact Je
      ·rw[ea];exact PN _ _
    have g0:af (gm [] W.length [] W (OV 0 p.kind p.items p.attrs false)) 0=some (.p LQ):=dj g0;have g1:af (gm [] W.length [] W (OV 0 p.kind p.items p.attrs false)) 1=some (RW r):=dj g1;have gx:=gx.go (W':=gm [] W.length [] W (OV 0 p.kind p.items p.attrs false)) fun i t h=>dj h;generalize gm [] W.length [] W (OV 0 p.kind p.items p.attrs false)=W1 at o1 g0 g1 gx ⊢;show be c true (d+20) Q _ [.w (W.length+0)] _ _ W1;generalize W.length+0=i at o1 ⊢;obtain ⟨h,h1,na,n1,h2⟩:=o1;rename_i a b;symm;exists .lo h (mH P (by decide)) ?_;exists xv P (⟨eo h,ai na h1,na,n1,h2.imp id fun ⟨e,h3,h4,h5,h6,h7,h8⟩=>⟨e,h3,h4,h5,h6,ai h4 h7,h8⟩⟩) (ai (fun w=>by rw[← w,g0]at h;exact WO.noConfusion (Option.some.inj h)) g0) (ai (fun w=>by rw[← w,g1]at h;exact WO.noConfusion (Option.some.inj h)) g1) (gx.go fun j t hz=>ai (o:=.v p.kind.s (.w a) b true) (vB h (fun ζ=>WO.noConfusion) hz) hz) op oi ow hd hk2 e1 e2 fun v W2 o3 g0 g1=>?_;refine Nz (AA o3 g0 g1) fun W3 zz=>NO (fun hp zz=>NO (fun g0 g1=>?_) (zz)) (zz);refine .r [] rfl hp rfl (te P oq.at_ oq.it) ?_;rw[show gm [] W3.length [] W3 []=W3 from Nr W3];symm;exists Io _ ?_;exact hQ _ _ g0 g1
theorem IE{Q:UQ}{N:Nat}{W:UW}{r:List Int}{v val:Option PV}{ix:Ix}{x:UV}{l0 l2 l3 l4 l5 l6 l9 c2:Option UV}(hN:N≤700)(ov:∀p,v=some p→bU N p)(oi:dI ix)(ow:∀p,val=some p→bU 9 p)(g0:af W 0=some (.p LQ))(g1:af W 1=some (RW r))(gx:Fz W x (fA val))(hQ:∀o l9 v' W',(o=.nx []∨o=.cnt)→(∀p,v'=some p→bU (N+100) p)→af W' 0=some (.p LQ)→af W' 1=some (RW r)→Q o [l0,some (.w 1),l2,l3,l4,l5,l6,some (.t (jb (dh v ix val))),some (.t (kA (dh v ix val))),l9] [some x,some (.t (fA v')),c2,some (.t (fR ix))] W') :
  be c true (d+20) Q (.glo (.bi "isinstance")<|.loc 8<|.glo (.ty "str")<|.cal 2<|.and (.loc 8<|.cst (.str "NULL")<|.cmp .NotEq<|.fin)<|.ite (.cnt) (.fin)<|.cel 1<|.att "kind"<|.cst (.str "NULL")<|.cmp .NotEq<|.and (.loc 8<|.att "kind"<|.cel 1<|.att "kind"<|.cmp .Eq<|.and (.cel 0<|.att "kind"<|.cst (.str "NULL")<|.cmp .NotEq<|.fin)<|.fin)<|.ite (.cel 1<|.mth "copy"<|.cal 1<|.put 9<|.cst (.bool true)<|.loc 9<|.sat "loose"<|.glo (.fn 109)<|.loc 9<|.cel 3<|.cel 0<|.lst 0<|.cal 4<|.pop<|.glo (.fn 126)<|.loc 9<|.cal 1<|.loc 7<|.cmp .NotEq<|.ite (.cst (.bool false)<|.rtn) (.fin)<|.fin) (.fin)<|.loc 8<|.ptc 1<|.fin) [] [l0,some (.w 1),l2,l3,l4,l5,l6,some (.t (jb (dh v ix val))),some (.t (kA (dh v ix val))),l9] [some x,some (.t (fA v)),c2,some (.t (fR ix))] W:=by
 cases e:dh v ix val with
 | err m=>
  replace hQ:=(e)▸hQ;symm;exists .isS ?_;exists eU (fun w=>?_) fun w=>?_
  ·exact hQ _ _ _ _ (.inr rfl) (fun p h=>(ov p h).le (NS ..)) g0 g1
  ·exact absurd (Nx ((O7 _).mp w)) (tB e)
 | nul=>
  replace hQ:=(e)▸hQ;symm;exists .isI rfl (zK P (.head _)).2 ?_
  induction v with
  | some p=>exact (tD e).elim
  | none=>
   exists nK P ?_;exact hQ (.nx []) _ none _ (.inl rfl) (fun p h=>ac h) g0 g1
 | vec q=>
  replace hQ:=(e)▸hQ;have oq:=iM ov oi ow e;symm;exists .isI rfl (zK P (.tail _ (.tail _ (.head _)))).2 ?_
  induction v with
  | none=>
   exists nK P ?_;exact hQ (.nx []) _ (some q) _ (.inl rfl) (fun p h=>by injection h with h;subst h;exact oq) g0 g1
  | some p=>
   exists aK P ?_;exists xA (Nw _ (nr _ (by ac_rfl))) ?_;exists aK P ?_;exists aK P ?_;rw[Ae];exists FK ((q.kind.rank==p.kind.rank)&&val.isSome) (fun w R hR=>?_) (fun w=>by rw[w];rfl) ?_
   ·replace hR:=(w)▸hR
    induction val with
    | none=>
     exists xN P gx.pk ?_;exact hR
    | some w=>
     exists xK P gx.pk ?_;rw[nr _ (by ac_rfl)];exact hR
   symm;refine aG (o:=(q.kind.rank==p.kind.rank)&&val.isSome) (fun hV=>?_) (fun hV=>?_)
   ·
    symm;exact hQ (.nx []) _ (some q) _ (.inl rfl) (fun p h=>by injection h with h;subst h;exact oq) g0 g1
   ·
    induction val with
    | none=>exact absurd (aa hV).2 Nt
    | some w=>
     refine ID P ((ov p rfl).le (Np hN (by decide))) oi (ow w rfl) g0 g1 gx e (tA (aa hV).1) fun l9 W' g0 g1=>?_;exact hQ (.nx []) _ (some q) _ (.inl rfl) (fun p h=>by injection h with h;subst h;exact oq) g0 g1
end
end
section
section
variable{c:Cx}{d:Nat}(P:PF c)
include P
theorem MN{R:UQ}{N:Nat}{W:UW}{r:List Int}{v:Option PV}{l0 l2 l3 l4 l5 l6 l7 l8 l9 c0 c2 c3:Option UV}(hN:N≤700)(ov:∀p,v=some p→bU N p)(g0:af W 0=some (.p LQ))(g1:af W 1=some (RW r))(hR:∀o l3 l4 l5 l6 l7 l8 l9 c0 c2 c3 v' r' W',(o=.nx []∨o=.cnt)→(∀p,v'=some p→bU (N+100) p)→af W' 0=some (.p LQ)→af W' 1=some (RW r')→R o [l0,some (.w 1),l2,l3,l4,l5,l6,l7,l8,l9] [c0,some (.t (fA v')),c2,c3] W') :
  be c true (d+20) R (.glo (.fn 120)<|.loc 1<|.cal 1<|.ptc 3<|.glo (.fn 116)<|.loc 1<|.cal 1<|.cst (.int 6)<|.bin .Mod<|.put 3<|.glo (.cls 63)<|.cal 0<|.ptc 0<|.loc 3<|.cst (.int 5)<|.cmp .Lt<|.ite (.glo (.fn 129)<|.loc 1<|.glo (.fn 128)<|.cal 0<|.loc 3<|.sub<|.glo (.fn 116)<|.loc 1<|.cal 1<|.cst (.int 5)<|.bin .Mod<|.cal 3<|.ptc 0<|.fin) (.fin)<|.glo (.fn 126)<|.cel 1<|.cal 1<|.put 4<|.glo (.fn 126)<|.cel 0<|.cal 1<|.put 5<|.lst 0<|.put 6<|.glo (.fn 133)<|.loc 4<|.cel 3<|.loc 5<|.loc 6<|.cal 4<|.put 7<|.lst 0<|.ptc 2<|.glo (.fn 127)<|.lam Ey Er Eu<|.cal 1<|.put 8<|.glo (.fn 126)<|.loc 8<|.cal 1<|.loc 7<|.cmp .NotEq<|.or (.cel 2<|.loc 6<|.cmp .NotEq<|.or (.glo (.fn 126)<|.cel 1<|.cal 1<|.loc 4<|.cmp .NotEq<|.or (.glo (.fn 126)<|.cel 0<|.cal 1<|.loc 5<|.cmp .NotEq<|.fin)<|.fin)<|.fin)<|.ite (.cst (.bool false)<|.rtn) (.fin)<|.lst 0<|.ptc 2<|.glo (.fn 126)<|.glo (.fn 127)<|.lam Ew Ep Et<|.cal 1<|.cal 1<|.loc 7<|.cmp .NotEq<|.or (.cel 2<|.loc 6<|.cmp .NotEq<|.fin)<|.ite (.cst (.bool false)<|.rtn) (.fin)<|.glo (.bi "isinstance")<|.loc 8<|.glo (.ty "str")<|.cal 2<|.and (.loc 8<|.cst (.str "NULL")<|.cmp .NotEq<|.fin)<|.ite (.cnt) (.fin)<|.cel 1<|.att "kind"<|.cst (.str "NULL")<|.cmp .NotEq<|.and (.loc 8<|.att "kind"<|.cel 1<|.att "kind"<|.cmp .Eq<|.and (.cel 0<|.att "kind"<|.cst (.str "NULL")<|.cmp .NotEq<|.fin)<|.fin)<|.ite (.cel 1<|.mth "copy"<|.cal 1<|.put 9<|.cst (.bool true)<|.loc 9<|.sat "loose"<|.glo (.fn 109)<|.loc 9<|.cel 3<|.cel 0<|.lst 0<|.cal 4<|.pop<|.glo (.fn 126)<|.loc 9<|.cal 1<|.loc 7<|.cmp .NotEq<|.ite (.cst (.bool false)<|.rtn) (.fin)<|.fin) (.fin)<|.loc 8<|.ptc 1<|.fin) [] [l0,some (.w 1),l2,l3,l4,l5,l6,l7,l8,l9] [c0,some (.t (fA v)),c2,c3] W:=by
 have ov8:∀p,v=some p→bU 800 p:=fun p h=>(ov p h).le (Np hN (by decide));refine IJ P g0 g1 fun ix val x l3 r' W oi ow g0 g1 gv=>?_;refine II P ov8 oi ow g0 g1 gv fun du W g0 g1 gx gd=>?_;refine IH P ov8 oi ow g0 g1 gx gd fun c2 W g0 g1 gx gd=>?_;refine IG P ov8 oi ow g0 g1 gx gd fun c2 W g0 g1 gx=>?_;exact IE P hN ov oi ow g0 g1 gx fun o l9 v' W ho ov' g0 g1=>hR _ _ _ _ _ _ _ _ _ _ _ _ _ _ ho ov' g0 g1
omit P in
theorem Co{W:UW}(h:af W 0=some (.p LQ)):bX (jX 1++[]) (jX 1++[]) W=some [.p LQ]:=by
 show N0 (af W 0) _=_;rw[h];rfl
theorem HR{xs:List Int}(h:c.argXs.toList.map er=xs.map .int)(hl:xs.length≤1000):defT c true (d+20) (aX 134) [.v (.ref c.argA)] [.p LQ] (lJ 1 (Eq (.r (tb true) [.p LQ]))):=by
 rw[Cb];symm;exists .r [] rfl rfl rfl (H3 P h hl) ?_;refine KT rfl rfl (HU P _) fun t r1 W ht ch=>?_;obtain ⟨v,ov,rfl⟩:=ht;have g0:=ch.2 0 _ (by decide) rfl;have g1:=ch.1;clear ch;symm;exists px P g1 rfl fun i r2 W ch=>?_;have g0:=ch.2 0 _ (by decide) g0;have g1:=ch.1;clear ch;refine ⟨by decide,?_⟩;refine gp i (m:=3) (by decide) fun m hm hm2=>?_;rw[hm];symm;exists .rng1 (NC (by decide) (Int.add_nonneg (by decide) (NB m))) (NC (Int.add_le_add_left (OM hm2) 1) (by decide)) ?_;have hlen:9+100*((aW 0 (1+m)).map T.leaf).length≤800:=by
  rw[Nq];unfold aW;rw[Nq,OC,Tk,Sg];exact Np (Oz (TK 100 (GE (k:=3) (Tz hm2))) 9) (by decide)
 generalize (aW 0 (1+m)).map T.leaf=l at hlen ⊢;refine (?h:∀(l:List T) N v r W l2 l3 l4 l5 l6 l7 l8 l9 c0 c2 c3,N+100*l.length≤800→(∀p,v=some p→bU N p)→af W 0=some (.p LQ)→af W 1=some (RW r)→cu _ _ _ l [_,some (.w 1),l2,l3,l4,l5,l6,l7,l8,l9] [c0,some (.t (fA v)),c2,c3] W) l 9 v r2 W _ _ _ _ _ _ _ _ _ _ _ hlen ov g0 g1;clear hlen ov g0 g1;intro l
 induction l with
 | nil=>
  intro N v r W l2 l3 l4 l5 l6 l7 l8 l9 c0 c2 c3 _ _ g0 _;symm;exact .k [] rfl rfl (Co g0) rfl
 | cons y l ih=>
  intro N v r W l2 l3 l4 l5 l6 l7 l8 l9 c0 c2 c3 hN ov g0 g1;rw[OY,Nat.mul_succ]at hN;refine uA fun R hR=>?_;exact MN P (Nat.le_of_add_le_add_right (b:=100) (Np (Oz (Rm _ _) _) hN)) ov g0 g1 fun o l3 l4 l5 l6 l7 l8 l9 c0 c2 c3 v' r' W' ho ov' g0 g1=>hR _ _ _ _ (by
   rcases ho with rfl | rfl
   ·exact ih _ _ _ _ _ _ _ _ _ _ _ _ _ _ _ (Np (NL (by rw[OU,O6 100])) hN) ov' g0 g1
   ·exact ih _ _ _ _ _ _ _ _ _ _ _ _ _ _ _ (Np (NL (by rw[OU,O6 100])) hN) ov' g0 g1)
end
end
section
section
variable{c:Cx}(P:PF c)
include P
theorem uc{xs:List Int}{H:AH}(hC:CodeHd c.h₀ 904 900)(h:c.argXs.toList.map er=xs.map .int)(hl:xs.length≤1000)(hT:H 900=some (.tab #[])){base:Heap}{s:Shared}{A':Around}(a1:A'.handled=none)(a2:A'.depth+10*21+20<R3)(a3:A'.units+60*21+200<cLine)(a4:A'.frames=some [])(R:aq c base [] H s) :
  Re c.M A' (.call (.ref 905) ⟨[.ref c.argA],[]⟩) (fun r s'=>∃v H',r=.ok (.ret v)∧aq c base [] H' s'∧(er v=.bool true∧Le [900] H H'∧∃t,H' 900=some (.tab t))) s:=by
 have I:Cr ⟨fun ζ=>none,H,[900]⟩ [.p LQ]:=⟨fun ζ ζ h=>ac h,SY _ _,rfl,fun j a o h1 h2=>by
  induction j using Pw with
  | zero=>
   cases Option.some.inj h1
   cases Option.some.inj h2
   exact ⟨#[],rfl,hT,trivial,fun p v h=>(NN _ (h.symm.trans rfl)).elim⟩
  | succ j=>exact ac h2⟩
 refine xq P.ri' (f:=905) (ps:=wJ 134) (args:=[.ref c.argA]) (extra:=[]) (d:=20) (n:=100) (G:=Gv) (gx:=nE) (lm:=some ⟨904,900,LQ⟩) (P.at_ (i:=134) rfl) (by ac_rfl) rfl (fun vs hvs=>⟨[],rfl,fun s oc od osl name kV doc pm an ct ζ hX=>?_⟩) P.gok (fun l e=>by injection e with e;subst e;exact ⟨by ac_rfl,rfl⟩) (Q:=fun v H'=>v=.bool true∧Le [900] H H'∧∃t,H' 900=some (.tab t)) ?_ rfl a1 a2 a3 a4 R
 ·induction vs using List.casesOn with
  | nil=>injection hvs
  | cons a vs=>
   induction vs using List.casesOn with
   | nil=>exact Um rfl
   | cons=>exact (Pu _ (Nat.succ.inj (Nw Tt hvs))).elim
 ·refine tj (w₀:=⟨fun ζ=>none,H,[900]⟩) (lm:=some ⟨904,900,LQ⟩) (w:=⟨fun ζ=>none,H,[900]⟩) (C:=[]) (W:=[.p LQ]) (cl:=[]) ⟨I,.refl,.refl,fun ζ h=>.inr h,fun ζ ζ h=>.inl h,I.inv.cs,I.inv.cd,rfl⟩ (.cons (show VR ⟨fun ζ=>none,H,[900]⟩ (.ref c.argA) (.v (.ref c.argA)) from VN.mk rfl) .nil) (HR P (d:=0) h hl) fun cl C w1 hTR hnm I1 hv1=>?_;refine (lG P (aX 134).body).1 (m:=true) (Γ:=⟨⟨fun ζ=>none,H,[900]⟩,cl,some ⟨904,900,LQ⟩⟩) (fun ζ=>⟨_,rfl,hC,rfl,rfl,hnm.trans (by rw[Cb];ac_rfl)⟩) hTR I1 (yx hv1 _) .nil ⟨fun r' r L' L C W2 w2 h I2 E2 l rr=>?_,fun m L C W2 w2 h I2 E2=>?_⟩
  ·have qr:∀v W' u w',Rq.r (tb true) [.p LQ]=.r v W'→aV ⟨⟨fun ζ=>none,H,[900]⟩,[],none⟩ w' [] W'→Ex ⟨fun ζ=>none,H,[900]⟩ w'→VR w' u v→u=V.bool true∧Le [900] H w'.h∧∃t,w'.h 900=some (.tab t):=fun v W' u w' e I E r=>by
    injection e with e zz;subst e;subst zz;obtain ⟨ps,_,h,_,_⟩:=I.ow 0 900 (.p LQ) (E.p 0 900 rfl) rfl;exact ⟨aP r,I.le,ps,h⟩
   induction r using Rz.casesOn with
   | nx=>cases r' with
    | nx=>exact qF (Q:=fun v H'=>v=V.bool true∧Le [900] H H'∧∃t,H' 900=some (.tab t)) (Γ:=⟨⟨fun ζ=>none,H,[900]⟩,cl,some ⟨904,900,LQ⟩⟩) 1 rfl I2 (v:=tv .none) (.leaf rfl) h qr
    | _=>exact rr.elim
   | ret=>cases r' with
    | ret=>exact qF (Q:=fun v H'=>v=V.bool true∧Le [900] H H'∧∃t,H' 900=some (.tab t)) (Γ:=⟨⟨fun ζ=>none,H,[900]⟩,cl,some ⟨904,900,LQ⟩⟩) 1 rfl I2 rr h qr
    | _=>exact rr.elim
   | exc=>cases r'<;>exact rr.elim
   | _=>exact h.elim
  ·obtain ⟨hn,s,hq⟩:=h;injection hq
end
end
section
noncomputable def me(h:Heap)(a:Addr):Heap:=⟨h.objs.modify a (fun o=>{ o with data:=.freed }),h.life⟩
theorem eH(h:Heap)(a b:Addr):(me h a).get? b=if b=a then none else h.get? b:=by
 unfold me Heap.get?;dsimp only;rw[Array.getElem?_modify];by_cases e:b=a
 ·subst e;rw[if_pos rfl,if_pos rfl];cases h.objs[b]? with
  | none=>rfl
  | some o=>rfl
 ·rw[if_neg (Pk e),if_neg e]
theorem gJ{h:Heap}{a N:Addr}{m:Str→Option Value}(ha:h.get? a=some (tabObj #[]))(n:h.Ns N m):(me h a).Ns N m:=by
 obtain ⟨o,es,ep,e1,e2,r⟩:=n;refine ⟨o,es,ep,?_,e2,r⟩;rw[eH,if_neg]
 ·exact e1
 ·rintro rfl;rw[ha]at e1;injection e1 with e1;subst e1;injection e2
theorem qT{P:Params}{h:Heap}(ns:List Int):∀{vs:List Value},WellAll P h vs (ofPys (ns.map PyData.int))→vs.map er=ns.map V.int:=by
 induction ns with
 | nil=>intro vs x;cases x;rfl
 | cons n r ih=>
  intro vs x;have x:WellAll P h vs (WData.int n::ofPys (r.map PyData.int)):=x;cases x with
  | cons hv ht=>
   cases hv
   rw[NT,NT,ih ht];rfl
theorem well_list{P:Params}{h:Heap}{a:Addr}{ns:List Int}(x:Well P h (.ref a) (ofPy (PyData.list (ns.map PyData.int)))):∃vs:List Value,h.get? a=some { cls:=.type "list",data:=.seq vs.toArray }∧vs.map er=ns.map V.int:=by
 have x:Well P h (.ref a) (WData.list (ofPys (ns.map PyData.int))):=x;cases x with
 | list g hall=>exact ⟨_,g,qT ns hall⟩
theorem law_done{prog:R6}{w:World}{K:Frag}{s₁:Shared}{mg mb:Str→Option Value}{mean:ExcName→Option Value}{p:R6}{loose:List Str}(X:K.In s₁.heap)(T:Top p loose mean mg mb s₁.heap)(hsm:∃mm,s₁.heap.Ns Q3 mm)(k:A9 K)
  (hT9:TabsAt [(904,900)] s₁.heap) (hg:s₁.gens=#[]) {a:Addr}{vs:List Value}{ns:List Int}(hw:s₁.heap.get? a=some { cls:=.type "list",data:=.seq vs.toArray }) (hI:vs.map er=ns.map .int) (hlen:ns.length≤63) :
  Re (model prog w) callerA (.call (.ref 905) ⟨[.ref a],[]⟩) (fun r s'=>r=.ok (.ret (.bool true))∧OldK s₁.heap s'.heap∧s'.os=s₁.os∧s'.gens=#[]) s₁:=by
 obtain ⟨hC,ht⟩:=hT9 _ (.head _);have keep:∀b o,s₁.heap.get? b=some o→o≠tabObj #[]→(me s₁.heap 900).get? b=some o:=fun b o e hne=>by
  rw[eH,if_neg]
  ·exact e
  ·rintro rfl;rw[ht]at e;injection e with e;subst e;exact hne rfl
 have keep9:∀b o,s₁.heap.get? b=some o→b≠900→(me s₁.heap 900).get? b=some o:=fun b o e hne=>by
  rw[eH,if_neg hne];exact e
 have hX:K.In (me s₁.heap 900):=fun b o e=>keep9 b o (X b o e) (by rintro rfl;rw[k.no]at e;injection e);obtain ⟨mc,L1,L2⟩:=T.nolimit;obtain ⟨mc2,D1,D2⟩:=T.nodigits;obtain ⟨mm,hsm2⟩:=hsm;let c:Cx:={
  prog:=prog
  w:=w
  h₀:=me s₁.heap 900
  mg:=mg
  mb:=mb
  K:=K
  os:=s₁.os
  X:=hX
  G:=gJ ht T.g
  B:=gJ ht T.b
  hb:=T.builtins
  nolimit:=⟨mc,gJ ht L1,L2⟩
  nodigits:=⟨mc2,gJ ht D1,D2⟩
  smods:=(by obtain ⟨o,_,_,e,_⟩:=gJ ht hsm2;exact ⟨o,e⟩)
  argA:=a
  argXs:=vs.toArray
  argN:=0
  argAt:=keep _ _ hw (by intro e;cases e)
  bmain:=(by
   obtain ⟨bm,ob,h1,h2,h3,h4,h5,h6⟩:=T.bmain;exact ⟨bm,ob,h1,h2,keep _ _ h3 (by intro e;rw[e]at h4;injection h4),h4,h5,h6⟩) }
 have hCc:CodeHd c.h₀ 904 900:=by
  obtain ⟨o,vs',file,tf,flags,tg,inF,text,tt,e1,r⟩:=hC;exact ⟨o,vs',file,tf,flags,tg,inF,text,tt,keep9 _ _ e1 (by decide),r⟩
 let H:AH:=fun x=>if x=900 then some (.tab #[]) else none;have R:aq c c.h₀ [] H s₁:=by
  refine .mk hg rfl (fun ζ=>0) ?_;refine ⟨fun b o e=>?_,fun ζ ζ e=>e,fun b o e=>?_,fun b o e i=>?_,fun b o b' o' e e' i=>?_,fun f hf=>(nomatch hf),Qt⟩
  ·have e:(me s₁.heap 900).get? b=some o:=e;rw[eH]at e;split at e
   ·injection e
   ·exact e
  ·have e:(if b=900 then some (O.tab #[]) else none)=some o:=e;split at e
   ·rename_i hb;subst hb;injection e with e;subst e;exact ⟨ht,by show (me s₁.heap 900).get? 900=none;rw[eH,if_pos rfl],fun f hf=>(nomatch hf)⟩
   ·injection e
  ·have e:(if b=900 then some (O.tab #[]) else none)=some o:=e;split at e
   ·injection e with e;subst e;exact (Nt i).elim
   ·injection e
  ·have e:(if b=900 then some (O.tab #[]) else none)=some o:=e;split at e
   ·injection e with e;subst e;exact (Nt i).elim
   ·injection e
 have hcall:=uc (c:=c) k (xs:=ns) (H:=H) hCc (by show vs.toArray.toList.map er=_;simpa using hI) (by omega) rfl (base:=c.h₀) (s:=s₁) (A':=callerA) rfl (by decide) (by decide) rfl R;refine SI hcall fun r s' h=>?_;obtain ⟨v,H',rfl,⟨g1,g2,D',R'⟩,hv,L,t,ht'⟩:=h;refine iR hv ?_;have ht2:s'.heap.get? 900=some (tabObj t):=(R'.objs _ _ ht').1;refine ⟨rfl,⟨fun b o e=>?_,fun b o e=>?_⟩,g2,g1⟩
 ·by_cases hb:b=900
  ·subst hb;rw[ht]at e;injection e with e;subst e;obtain ⟨o,vs',file,tf,flags,tg,inF,text,tt,e1,c1,c2,c3,_⟩:=hC;exact .inr (.inl ⟨⟨904,o,vs',e1,c1,c2,c3⟩,rfl,#[],t,rfl,by rw[ht2];simp⟩)
  ·exact .inl (R'.stays _ _ (keep9 _ _ e hb))
 ·by_cases hb:b=900
  ·subst hb;exact ⟨_,ht2⟩
  ·exact ⟨o,R'.stays _ _ (keep9 _ _ e hb)⟩
end
end Mine.Internal
end
namespace Mine.Internal.hdx
theorem tw10015003670460735822:True:=⟨⟩
theorem tw100182673691090019:True:=⟨⟩
theorem tw10020973970071717660:True:=⟨⟩
theorem tw10032404120549030199:True:=⟨⟩
theorem tw10038619964448122119:True:=⟨⟩
theorem tw10041426758275696691:True:=⟨⟩
theorem tw10086262908707414209:True:=⟨⟩
theorem tw1010292292997162753:True:=⟨⟩
theorem tw10128576308600119300:True:=⟨⟩
theorem tw10133064753311801952:True:=⟨⟩
theorem tw10160627459457230739:True:=⟨⟩
theorem tw10194995485580144697:True:=⟨⟩
theorem tw10215097951695565253:True:=⟨⟩
theorem tw10247211202818349162:True:=⟨⟩
theorem tw10254610846906818407:True:=⟨⟩
theorem tw10296553361767758061:True:=⟨⟩
theorem tw10314480456140823205:True:=⟨⟩
theorem tw10372197773756934383:True:=⟨⟩
theorem tw10466586149120773153:True:=⟨⟩
theorem tw10488012901111977876:True:=⟨⟩
theorem tw10508233615446333583:True:=⟨⟩
theorem tw1051930406550086392:True:=⟨⟩
theorem tw10560606323129153035:True:=⟨⟩
theorem tw10592318675411081528:True:=⟨⟩
theorem tw10605422281749131286:True:=⟨⟩
theorem tw10612085079940083449:True:=⟨⟩
theorem tw1063152500139916982:True:=⟨⟩
theorem tw10671680706073897212:True:=⟨⟩
theorem tw10690275588214279263:True:=⟨⟩
theorem tw10700211187320653944:True:=⟨⟩
theorem tw10700306259444736545:True:=⟨⟩
theorem tw10711433743070937855:True:=⟨⟩
theorem tw10713458455605331147:True:=⟨⟩
theorem tw10718046818062413918:True:=⟨⟩
theorem tw10759042527383895850:True:=⟨⟩
theorem tw10795103008929116442:True:=⟨⟩
theorem tw10795851550475266353:True:=⟨⟩
theorem tw10803353393510885689:True:=⟨⟩
theorem tw10805042229135559481:True:=⟨⟩
theorem tw10823629496963284724:True:=⟨⟩
theorem tw10854583513884759606:True:=⟨⟩
theorem tw10854774973226353020:True:=⟨⟩
theorem tw10892992112798250888:True:=⟨⟩
theorem tw10969100506955925327:True:=⟨⟩
theorem tw10978704647283005189:True:=⟨⟩
theorem tw11017818156200503509:True:=⟨⟩
theorem tw11019888532327668580:True:=⟨⟩
theorem tw1104200929868523357:True:=⟨⟩
theorem tw11054870701356822493:True:=⟨⟩
theorem tw1108873992864703217:True:=⟨⟩
theorem tw11092637271422472578:True:=⟨⟩
theorem tw11113081868916346095:True:=⟨⟩
theorem tw11124982439375860941:True:=⟨⟩
theorem tw11139651198883138286:True:=⟨⟩
theorem tw11156735525863902449:True:=⟨⟩
theorem tw11165476120259749976:True:=⟨⟩
theorem tw11211913087188897845:True:=⟨⟩
theorem tw11224870968274506770:True:=⟨⟩
theorem tw1122722640010090372:True:=⟨⟩
theorem tw11233479096949616671:True:=⟨⟩
theorem tw11282119160657361298:True:=⟨⟩
theorem tw11306180706604122338:True:=⟨⟩
theorem tw11315583888531606104:True:=⟨⟩
theorem tw11375708860938822770:True:=⟨⟩
theorem tw11383276465176185232:True:=⟨⟩
theorem tw11383302628721058336:True:=⟨⟩
theorem tw11405963850978155020:True:=⟨⟩
theorem tw11413908509252179865:True:=⟨⟩
theorem tw11422332492974497244:True:=⟨⟩
theorem tw11437954168467668553:True:=⟨⟩
theorem tw11456551903197148380:True:=⟨⟩
theorem tw11466878002685929041:True:=⟨⟩
theorem tw11474432980536849463:True:=⟨⟩
theorem tw11507861525368922610:True:=⟨⟩
theorem tw11513221135920193518:True:=⟨⟩
theorem tw11515113538651785065:True:=⟨⟩
theorem tw11536158557678658595:True:=⟨⟩
theorem tw11567940691542144087:True:=⟨⟩
theorem tw11584603978828453085:True:=⟨⟩
theorem tw11608237358362259814:True:=⟨⟩
theorem tw1161230813207155917:True:=⟨⟩
theorem tw11671456158549204812:True:=⟨⟩
theorem tw11703343027637185716:True:=⟨⟩
theorem tw11760022728587936610:True:=⟨⟩
theorem tw11770230085567150853:True:=⟨⟩
theorem tw11774642547569671035:True:=⟨⟩
theorem tw11788354193821510310:True:=⟨⟩
theorem tw11798520641138723260:True:=⟨⟩
theorem tw11907896148918582904:True:=⟨⟩
theorem tw11956698691442293427:True:=⟨⟩
theorem tw11974292433085027901:True:=⟨⟩
theorem tw1200902413800790175:True:=⟨⟩
theorem tw1203068987758061479:True:=⟨⟩
theorem tw12043734848702331515:True:=⟨⟩
theorem tw12052417171630352301:True:=⟨⟩
theorem tw12060642064506034108:True:=⟨⟩
theorem tw12106739542369003770:True:=⟨⟩
theorem tw12109690127118101107:True:=⟨⟩
theorem tw12121706819417923577:True:=⟨⟩
theorem tw12140086685361349644:True:=⟨⟩
theorem tw12163937392136553729:True:=⟨⟩
theorem tw1216892954468540582:True:=⟨⟩
theorem tw1217352653434185252:True:=⟨⟩
theorem tw12183319826796884295:True:=⟨⟩
theorem tw1218544210376720996:True:=⟨⟩
theorem tw12194770944550417140:True:=⟨⟩
theorem tw12222079349276568879:True:=⟨⟩
theorem tw12226535047994698056:True:=⟨⟩
theorem tw12227215079756236238:True:=⟨⟩
theorem tw12272697366368238555:True:=⟨⟩
theorem tw12275810831699955747:True:=⟨⟩
theorem tw12305174444059689347:True:=⟨⟩
theorem tw12307891096287462073:True:=⟨⟩
theorem tw12334161206198575579:True:=⟨⟩
theorem tw12373270693242014908:True:=⟨⟩
theorem tw12382262442546541223:True:=⟨⟩
theorem tw12388027949437553211:True:=⟨⟩
theorem tw12427102709144278587:True:=⟨⟩
theorem tw12451052637824909048:True:=⟨⟩
theorem tw12462818504938817654:True:=⟨⟩
theorem tw12471437923654492132:True:=⟨⟩
theorem tw12474388865586154908:True:=⟨⟩
theorem tw12482862307704297089:True:=⟨⟩
theorem tw12550775044054134088:True:=⟨⟩
theorem tw12583160446477153654:True:=⟨⟩
theorem tw12599342764657017692:True:=⟨⟩
theorem tw12615732370118705181:True:=⟨⟩
theorem tw12638899441420695801:True:=⟨⟩
theorem tw12670080335183220685:True:=⟨⟩
theorem tw12716662702174218963:True:=⟨⟩
theorem tw12735746147508822712:True:=⟨⟩
theorem tw12817544329535867820:True:=⟨⟩
theorem tw12848222174841231261:True:=⟨⟩
theorem tw12891395633027918051:True:=⟨⟩
theorem tw12977698649683087109:True:=⟨⟩
theorem tw12987185451647131254:True:=⟨⟩
theorem tw13006251591627175119:True:=⟨⟩
theorem tw13010166965956177682:True:=⟨⟩
theorem tw13011476584935867646:True:=⟨⟩
theorem tw13014231141088059044:True:=⟨⟩
theorem tw13031780470031280716:True:=⟨⟩
theorem tw13095623141679846865:True:=⟨⟩
theorem tw13117780292422713163:True:=⟨⟩
theorem tw13129358061809325594:True:=⟨⟩
theorem tw13161514304306278305:True:=⟨⟩
theorem tw13162824547046443817:True:=⟨⟩
theorem tw13164126584427838566:True:=⟨⟩
theorem tw13164261827073992368:True:=⟨⟩
theorem tw13185091629407905306:True:=⟨⟩
theorem tw13211177206068446890:True:=⟨⟩
theorem tw1321185004358143348:True:=⟨⟩
theorem tw13225464497959843366:True:=⟨⟩
theorem tw13241169930905860537:True:=⟨⟩
theorem tw13251082198672845480:True:=⟨⟩
theorem tw13263805841929004988:True:=⟨⟩
theorem tw13290557832345893463:True:=⟨⟩
theorem tw13306635834478844934:True:=⟨⟩
theorem tw13306742215810755904:True:=⟨⟩
theorem tw13315423886541810435:True:=⟨⟩
theorem tw1332791529371154540:True:=⟨⟩
theorem tw13406220262614343868:True:=⟨⟩
theorem tw13407534551946975694:True:=⟨⟩
theorem tw13429881405806494529:True:=⟨⟩
theorem tw13436000607105875171:True:=⟨⟩
theorem tw13436627045941745620:True:=⟨⟩
theorem tw13453360536489032173:True:=⟨⟩
theorem tw13464766457110501676:True:=⟨⟩
theorem tw1347329175500107106:True:=⟨⟩
theorem tw13479693948460614849:True:=⟨⟩
theorem tw13509278592255773643:True:=⟨⟩
theorem tw13510101146374381784:True:=⟨⟩
theorem tw1353203317599571040:True:=⟨⟩
theorem tw13535541721286717955:True:=⟨⟩
theorem tw13566839909745568255:True:=⟨⟩
theorem tw13579273574037860830:True:=⟨⟩
theorem tw13594028603236570875:True:=⟨⟩
theorem tw13614433598428204281:True:=⟨⟩
theorem tw13640429486266009135:True:=⟨⟩
theorem tw13661523606169900714:True:=⟨⟩
theorem tw13724196470812164448:True:=⟨⟩
theorem tw13727385115165418792:True:=⟨⟩
theorem tw1374739811728911144:True:=⟨⟩
theorem tw13758590058646852995:True:=⟨⟩
theorem tw13844972437816396622:True:=⟨⟩
theorem tw1385947603019044352:True:=⟨⟩
theorem tw13867544131316445259:True:=⟨⟩
theorem tw1386818660748654923:True:=⟨⟩
theorem tw13872588564596549396:True:=⟨⟩
theorem tw13899402173887197659:True:=⟨⟩
theorem tw13911742214497510153:True:=⟨⟩
theorem tw13930262058725885584:True:=⟨⟩
theorem tw13933638251607873835:True:=⟨⟩
theorem tw13963516312020170827:True:=⟨⟩
theorem tw13977394657150523733:True:=⟨⟩
theorem tw13978976428324584254:True:=⟨⟩
theorem tw13984254219820110996:True:=⟨⟩
theorem tw14060698465368150370:True:=⟨⟩
theorem tw14083153616930937047:True:=⟨⟩
theorem tw14138681574275788033:True:=⟨⟩
theorem tw14142126131229616407:True:=⟨⟩
theorem tw14200649419870512619:True:=⟨⟩
theorem tw14219341572004425528:True:=⟨⟩
theorem tw14223484569582057473:True:=⟨⟩
theorem tw14235510894136784743:True:=⟨⟩
theorem tw1424381325689287059:True:=⟨⟩
theorem tw14273314223562008047:True:=⟨⟩
theorem tw14357706082421556070:True:=⟨⟩
theorem tw14368651131658402598:True:=⟨⟩
theorem tw14391280479374367187:True:=⟨⟩
theorem tw1443820032386919211:True:=⟨⟩
theorem tw14453344408763877102:True:=⟨⟩
theorem tw14460026994905596392:True:=⟨⟩
theorem tw14471316420371930843:True:=⟨⟩
theorem tw14471663614636118384:True:=⟨⟩
theorem tw14500724371281203629:True:=⟨⟩
theorem tw14536634254090234732:True:=⟨⟩
theorem tw14543420940639379021:True:=⟨⟩
theorem tw14543461135589045859:True:=⟨⟩
theorem tw14559881016237991280:True:=⟨⟩
theorem tw14620684873051508640:True:=⟨⟩
theorem tw14627442577186676158:True:=⟨⟩
theorem tw14644808800426643752:True:=⟨⟩
theorem tw14716693859273730534:True:=⟨⟩
theorem tw14746983382394814699:True:=⟨⟩
theorem tw14771726603962096984:True:=⟨⟩
theorem tw14773291283232970708:True:=⟨⟩
theorem tw14785728436281759823:True:=⟨⟩
theorem tw14790018423458792436:True:=⟨⟩
theorem tw14829276019683374532:True:=⟨⟩
theorem tw1483292327416022679:True:=⟨⟩
theorem tw14843930747928878649:True:=⟨⟩
theorem tw14859731394638169927:True:=⟨⟩
theorem tw14860056074666757421:True:=⟨⟩
theorem tw14866110309410194704:True:=⟨⟩
theorem tw14880970255935267364:True:=⟨⟩
theorem tw14881103735421413962:True:=⟨⟩
theorem tw14881903713225221644:True:=⟨⟩
theorem tw14915353414643711616:True:=⟨⟩
theorem tw14934231937765997540:True:=⟨⟩
theorem tw14937905161328601655:True:=⟨⟩
theorem tw14947575603790578594:True:=⟨⟩
theorem tw14951100645887272355:True:=⟨⟩
theorem tw14955057989559967651:True:=⟨⟩
theorem tw14956114549337757701:True:=⟨⟩
theorem tw14961150254991749642:True:=⟨⟩
theorem tw149700697967213796:True:=⟨⟩
theorem tw1500019513706083886:True:=⟨⟩
theorem tw15058893564527280875:True:=⟨⟩
theorem tw1506822033749443459:True:=⟨⟩
theorem tw15096488768599485170:True:=⟨⟩
theorem tw15122076842584091470:True:=⟨⟩
theorem tw15126111553953797458:True:=⟨⟩
theorem tw15140641136289623432:True:=⟨⟩
theorem tw1517874592680251922:True:=⟨⟩
theorem tw15251997615321825118:True:=⟨⟩
theorem tw15283784728777405043:True:=⟨⟩
theorem tw15295696297651559251:True:=⟨⟩
theorem tw15297907455846334333:True:=⟨⟩
theorem tw15301687877422653487:True:=⟨⟩
theorem tw15320258465727649133:True:=⟨⟩
theorem tw15330213200358075902:True:=⟨⟩
theorem tw15332714655196786577:True:=⟨⟩
theorem tw15338879424879764394:True:=⟨⟩
theorem tw15349314928228599000:True:=⟨⟩
theorem tw15353582741679597966:True:=⟨⟩
theorem tw15360492453388564661:True:=⟨⟩
theorem tw1536486653097214562:True:=⟨⟩
theorem tw15365627066614537620:True:=⟨⟩
theorem tw15375994978534387781:True:=⟨⟩
theorem tw15381586276931493207:True:=⟨⟩
theorem tw1542892810939040576:True:=⟨⟩
theorem tw15436298758064267667:True:=⟨⟩
theorem tw15461408330160641042:True:=⟨⟩
theorem tw15502855118989981608:True:=⟨⟩
theorem tw15503718981708140829:True:=⟨⟩
theorem tw15504965212663224022:True:=⟨⟩
theorem tw15526725939929165552:True:=⟨⟩
theorem tw15533437005393891760:True:=⟨⟩
theorem tw15544691299645877925:True:=⟨⟩
theorem tw1555355906916643999:True:=⟨⟩
theorem tw1555472860439366086:True:=⟨⟩
theorem tw15571045878191700493:True:=⟨⟩
theorem tw15572624512194230462:True:=⟨⟩
theorem tw15572705322959670940:True:=⟨⟩
theorem tw15595091993156566270:True:=⟨⟩
theorem tw15597902938000104613:True:=⟨⟩
theorem tw15620689757510881203:True:=⟨⟩
theorem tw15621892971043766700:True:=⟨⟩
theorem tw15638658365938774853:True:=⟨⟩
theorem tw15721722207071993564:True:=⟨⟩
theorem tw15745546626438499248:True:=⟨⟩
theorem tw15755231964940609929:True:=⟨⟩
theorem tw15770848136981482583:True:=⟨⟩
theorem tw15772396295809162765:True:=⟨⟩
theorem tw15784379130901941702:True:=⟨⟩
theorem tw15804498651170269913:True:=⟨⟩
theorem tw15843034958341930836:True:=⟨⟩
theorem tw1584608818383633037:True:=⟨⟩
theorem tw1588595664785264154:True:=⟨⟩
theorem tw15913314369945066615:True:=⟨⟩
theorem tw15925985925740200047:True:=⟨⟩
theorem tw15961549315439701661:True:=⟨⟩
theorem tw15968974054435566945:True:=⟨⟩
theorem tw1598302826278047888:True:=⟨⟩
theorem tw1602935600801138330:True:=⟨⟩
theorem tw16048570131568530433:True:=⟨⟩
theorem tw1606349087556881984:True:=⟨⟩
theorem tw16080588933471579966:True:=⟨⟩
theorem tw16105559904780975772:True:=⟨⟩
theorem tw16109399187615812847:True:=⟨⟩
theorem tw1612864302932698243:True:=⟨⟩
theorem tw16143031284921499455:True:=⟨⟩
theorem tw16200514755842630163:True:=⟨⟩
theorem tw1620054488489014263:True:=⟨⟩
theorem tw16254896862223600973:True:=⟨⟩
theorem tw16260005081866126677:True:=⟨⟩
theorem tw16306591125410267830:True:=⟨⟩
theorem tw16363445966661269288:True:=⟨⟩
theorem tw16377043814830393088:True:=⟨⟩
theorem tw16401474816021528700:True:=⟨⟩
theorem tw16402850199688173712:True:=⟨⟩
theorem tw16404352236524807011:True:=⟨⟩
theorem tw16425028776377799825:True:=⟨⟩
theorem tw16476630034217546384:True:=⟨⟩
theorem tw16497890404685633232:True:=⟨⟩
theorem tw16516680083461901756:True:=⟨⟩
theorem tw16530512046980413430:True:=⟨⟩
theorem tw16537054627187453419:True:=⟨⟩
theorem tw16543108273604241244:True:=⟨⟩
theorem tw16561186064477555371:True:=⟨⟩
theorem tw16576268383958306030:True:=⟨⟩
theorem tw16598440494755641674:True:=⟨⟩
theorem tw16628370136451412910:True:=⟨⟩
theorem tw16644816302425821208:True:=⟨⟩
theorem tw16668697349249708512:True:=⟨⟩
theorem tw16673168357859707765:True:=⟨⟩
theorem tw16683707701878727214:True:=⟨⟩
theorem tw1669377832769956756:True:=⟨⟩
theorem tw16701330042030522375:True:=⟨⟩
theorem tw16743441196366929562:True:=⟨⟩
theorem tw1677280543689358961:True:=⟨⟩
theorem tw1677457553283463027:True:=⟨⟩
theorem tw16775816516265268034:True:=⟨⟩
theorem tw16777583938740735306:True:=⟨⟩
theorem tw16800434835345741253:True:=⟨⟩
theorem tw16808406219580364298:True:=⟨⟩
theorem tw16808580661196073517:True:=⟨⟩
theorem tw16826077790802114865:True:=⟨⟩
theorem tw16877948042621797496:True:=⟨⟩
theorem tw16901596106849514359:True:=⟨⟩
theorem tw16905860078947718414:True:=⟨⟩
theorem tw16933067856907858136:True:=⟨⟩
theorem tw16938023932312282667:True:=⟨⟩
theorem tw16943695428933277438:True:=⟨⟩
theorem tw16958479262587181178:True:=⟨⟩
theorem tw170032533963022386:True:=⟨⟩
theorem tw17012510592956401200:True:=⟨⟩
theorem tw17033668433538746340:True:=⟨⟩
theorem tw17070465227570706166:True:=⟨⟩
theorem tw17070615617463634999:True:=⟨⟩
theorem tw17084837472532438540:True:=⟨⟩
theorem tw17145725055951438900:True:=⟨⟩
theorem tw17162428859401215850:True:=⟨⟩
theorem tw17197971483535508168:True:=⟨⟩
theorem tw17208685361617403559:True:=⟨⟩
theorem tw17209591687800266715:True:=⟨⟩
theorem tw17224081305438083338:True:=⟨⟩
theorem tw17244280163620186959:True:=⟨⟩
theorem tw17248023117606471589:True:=⟨⟩
theorem tw17262956293082092916:True:=⟨⟩
theorem tw17278375182702268209:True:=⟨⟩
theorem tw17302243730094972406:True:=⟨⟩
theorem tw17310007715303355136:True:=⟨⟩
theorem tw17328029330900598054:True:=⟨⟩
theorem tw17361666520244003026:True:=⟨⟩
theorem tw17419369369808092546:True:=⟨⟩
theorem tw17422697086886756476:True:=⟨⟩
theorem tw1743070450284114683:True:=⟨⟩
theorem tw17442084855359179239:True:=⟨⟩
theorem tw1745096389724941363:True:=⟨⟩
theorem tw17517100506644513946:True:=⟨⟩
theorem tw17525430738778486857:True:=⟨⟩
theorem tw17530569734601809833:True:=⟨⟩
theorem tw17543007034676720103:True:=⟨⟩
theorem tw17581882568448540790:True:=⟨⟩
theorem tw17587582298232226840:True:=⟨⟩
theorem tw17595487075222050424:True:=⟨⟩
theorem tw17625302267371951650:True:=⟨⟩
theorem tw17655664511046927051:True:=⟨⟩
theorem tw17666827892494472761:True:=⟨⟩
theorem tw17683681063471150948:True:=⟨⟩
theorem tw17698025196205542294:True:=⟨⟩
theorem tw17701954182652508824:True:=⟨⟩
theorem tw17719856334151533215:True:=⟨⟩
theorem tw17731222363735471801:True:=⟨⟩
theorem tw17738134150441582900:True:=⟨⟩
theorem tw17754256544599412386:True:=⟨⟩
theorem tw17795145208859252856:True:=⟨⟩
theorem tw1782566424663680026:True:=⟨⟩
theorem tw17843727233756786262:True:=⟨⟩
theorem tw17851927751720507054:True:=⟨⟩
theorem tw17909465107694932090:True:=⟨⟩
theorem tw17940301620503427105:True:=⟨⟩
theorem tw1795425822069053046:True:=⟨⟩
theorem tw1799043699718812537:True:=⟨⟩
theorem tw17998972806793200985:True:=⟨⟩
theorem tw18014986975155567234:True:=⟨⟩
theorem tw18034750712914308316:True:=⟨⟩
theorem tw18044241412117118779:True:=⟨⟩
theorem tw18057191445332015869:True:=⟨⟩
theorem tw1806736678189611260:True:=⟨⟩
theorem tw18070334452288703724:True:=⟨⟩
theorem tw18071455922063890164:True:=⟨⟩
theorem tw18080685608948224337:True:=⟨⟩
theorem tw18084627121068955000:True:=⟨⟩
theorem tw18110102085542115056:True:=⟨⟩
theorem tw1811467286867281090:True:=⟨⟩
theorem tw18117444686109942277:True:=⟨⟩
theorem tw18122358395977687220:True:=⟨⟩
theorem tw18134014515398008890:True:=⟨⟩
theorem tw18166175050324559434:True:=⟨⟩
theorem tw18181694245138842295:True:=⟨⟩
theorem tw18197868392568539231:True:=⟨⟩
theorem tw18240171146650198969:True:=⟨⟩
theorem tw18261523781552863075:True:=⟨⟩
theorem tw18261537915160621157:True:=⟨⟩
theorem tw18275148861623555890:True:=⟨⟩
theorem tw18287858618038403720:True:=⟨⟩
theorem tw18382494020860764166:True:=⟨⟩
theorem tw18391480464614181231:True:=⟨⟩
theorem tw18407793075487899430:True:=⟨⟩
theorem tw18439302109175064355:True:=⟨⟩
theorem tw1929476786061172005:True:=⟨⟩
theorem tw193472621946239263:True:=⟨⟩
theorem tw1946992698595739968:True:=⟨⟩
theorem tw1967546706815222593:True:=⟨⟩
theorem tw1981772144257411040:True:=⟨⟩
theorem tw1989428314017434449:True:=⟨⟩
theorem tw2067201159510575603:True:=⟨⟩
theorem tw208923044418638497:True:=⟨⟩
theorem tw2109170333985231751:True:=⟨⟩
theorem tw212946686733453069:True:=⟨⟩
theorem tw2133853731883581925:True:=⟨⟩
theorem tw2162229746051303986:True:=⟨⟩
theorem tw2177448097533056822:True:=⟨⟩
theorem tw2200332962862764212:True:=⟨⟩
theorem tw2226949317045785070:True:=⟨⟩
theorem tw223373835606300121:True:=⟨⟩
theorem tw2308407203543811511:True:=⟨⟩
theorem tw2309362339342785319:True:=⟨⟩
theorem tw2312204149857038109:True:=⟨⟩
theorem tw2327560718607674042:True:=⟨⟩
theorem tw2451894427335623413:True:=⟨⟩
theorem tw247244243206678077:True:=⟨⟩
theorem tw2492709322619177834:True:=⟨⟩
theorem tw250228179981869109:True:=⟨⟩
theorem tw2511084438264383413:True:=⟨⟩
theorem tw2513083655780708209:True:=⟨⟩
theorem tw2529656964837192545:True:=⟨⟩
theorem tw2538008349949530934:True:=⟨⟩
theorem tw2538757555344355228:True:=⟨⟩
theorem tw2541859303540851999:True:=⟨⟩
theorem tw255682192775747334:True:=⟨⟩
theorem tw2601640508668708886:True:=⟨⟩
theorem tw2636073003267754550:True:=⟨⟩
theorem tw2642293990402466403:True:=⟨⟩
theorem tw2657846281434997309:True:=⟨⟩
theorem tw2667793957877349333:True:=⟨⟩
theorem tw2678468773292026440:True:=⟨⟩
theorem tw2710469912776541600:True:=⟨⟩
theorem tw2727451362304152781:True:=⟨⟩
theorem tw2729473619504444507:True:=⟨⟩
theorem tw275831104429240826:True:=⟨⟩
theorem tw2858578293465269231:True:=⟨⟩
theorem tw2862711546733485822:True:=⟨⟩
theorem tw2875669443310051366:True:=⟨⟩
theorem tw2944737497887995353:True:=⟨⟩
theorem tw2946145170846574532:True:=⟨⟩
theorem tw2981714754790526274:True:=⟨⟩
theorem tw2995137464781366291:True:=⟨⟩
theorem tw3002027175971632882:True:=⟨⟩
theorem tw3004159657728688444:True:=⟨⟩
theorem tw3045163689198302531:True:=⟨⟩
theorem tw3060524257970477038:True:=⟨⟩
theorem tw3070059406943223939:True:=⟨⟩
theorem tw3095419320914763421:True:=⟨⟩
theorem tw3117437158559029673:True:=⟨⟩
theorem tw3136570029688758596:True:=⟨⟩
theorem tw3152718122344018458:True:=⟨⟩
theorem tw3157615448509608030:True:=⟨⟩
theorem tw3172189263066215376:True:=⟨⟩
theorem tw3174802566065235766:True:=⟨⟩
theorem tw318238045079013109:True:=⟨⟩
theorem tw3193664763655773377:True:=⟨⟩
theorem tw3197790838036692113:True:=⟨⟩
theorem tw3213995759758252580:True:=⟨⟩
theorem tw3219235072139015768:True:=⟨⟩
theorem tw3247889902232623157:True:=⟨⟩
theorem tw3253605758012291884:True:=⟨⟩
theorem tw3277015201073875285:True:=⟨⟩
theorem tw3311824898178291486:True:=⟨⟩
theorem tw3316332654423833211:True:=⟨⟩
theorem tw3340439384060555183:True:=⟨⟩
theorem tw3371434419767153850:True:=⟨⟩
theorem tw3393607086669838509:True:=⟨⟩
theorem tw3402695893033682440:True:=⟨⟩
theorem tw3408232777993622564:True:=⟨⟩
theorem tw3500072854082113250:True:=⟨⟩
theorem tw3545863624501988576:True:=⟨⟩
theorem tw3577040867362417970:True:=⟨⟩
theorem tw3581170634583204313:True:=⟨⟩
theorem tw3595562503884110970:True:=⟨⟩
theorem tw3630686620276930136:True:=⟨⟩
theorem tw364550232907642325:True:=⟨⟩
theorem tw3686232319056427506:True:=⟨⟩
theorem tw3708501010736293175:True:=⟨⟩
theorem tw3713221201549511754:True:=⟨⟩
theorem tw3720845310829559891:True:=⟨⟩
theorem tw3761223516750179965:True:=⟨⟩
theorem tw3779161320233861384:True:=⟨⟩
theorem tw3807533820410826566:True:=⟨⟩
theorem tw3809080311232200369:True:=⟨⟩
theorem tw3827219513456413063:True:=⟨⟩
theorem tw383960453983761279:True:=⟨⟩
theorem tw39438108099305244:True:=⟨⟩
theorem tw3960507954344195723:True:=⟨⟩
theorem tw3972552202329624323:True:=⟨⟩
theorem tw3981249485581175300:True:=⟨⟩
theorem tw4027141860435946399:True:=⟨⟩
theorem tw4076763765309612574:True:=⟨⟩
theorem tw4078927803179267210:True:=⟨⟩
theorem tw413899549613914393:True:=⟨⟩
theorem tw4159322043670556168:True:=⟨⟩
theorem tw4164420919205816473:True:=⟨⟩
theorem tw4174978444831492055:True:=⟨⟩
theorem tw4206058289043614788:True:=⟨⟩
theorem tw4209515667219013195:True:=⟨⟩
theorem tw4217027465931835588:True:=⟨⟩
theorem tw4262463389382620673:True:=⟨⟩
theorem tw4284405597841375739:True:=⟨⟩
theorem tw4303691021183170092:True:=⟨⟩
theorem tw4321824054006794265:True:=⟨⟩
theorem tw4351355315616383483:True:=⟨⟩
theorem tw4352165524834742118:True:=⟨⟩
theorem tw4375059748008041225:True:=⟨⟩
theorem tw4437364874889368988:True:=⟨⟩
theorem tw4467985764511206112:True:=⟨⟩
theorem tw4489098670554347821:True:=⟨⟩
theorem tw4535353032893128952:True:=⟨⟩
theorem tw4553877819945418641:True:=⟨⟩
theorem tw456928737715028233:True:=⟨⟩
theorem tw4602412006765438652:True:=⟨⟩
theorem tw4613754789556269692:True:=⟨⟩
theorem tw461637627933445563:True:=⟨⟩
theorem tw462350939564017517:True:=⟨⟩
theorem tw4624884145267858228:True:=⟨⟩
theorem tw4634504811502095793:True:=⟨⟩
theorem tw4637918591174521019:True:=⟨⟩
theorem tw4655409302726698161:True:=⟨⟩
theorem tw4659088518521774939:True:=⟨⟩
theorem tw4697826838197552253:True:=⟨⟩
theorem tw4702861861317187708:True:=⟨⟩
theorem tw4735525796363948665:True:=⟨⟩
theorem tw4739241961168752232:True:=⟨⟩
theorem tw4750831422383895030:True:=⟨⟩
theorem tw4777867851205538072:True:=⟨⟩
theorem tw4802261997804673811:True:=⟨⟩
theorem tw4804882033246071775:True:=⟨⟩
theorem tw4838327617276470279:True:=⟨⟩
theorem tw4870801893547618172:True:=⟨⟩
theorem tw4903271649168783664:True:=⟨⟩
theorem tw4932428774545237010:True:=⟨⟩
theorem tw4938468908188823520:True:=⟨⟩
theorem tw4943898579605887371:True:=⟨⟩
theorem tw4968565759195937971:True:=⟨⟩
theorem tw4999153406623890240:True:=⟨⟩
theorem tw5013080079239491737:True:=⟨⟩
theorem tw5029444909655372945:True:=⟨⟩
theorem tw503632583159300174:True:=⟨⟩
theorem tw5094662163998812182:True:=⟨⟩
theorem tw5094665466297758908:True:=⟨⟩
theorem tw5110170977750775260:True:=⟨⟩
theorem tw5126848701694972678:True:=⟨⟩
theorem tw5129135889227527676:True:=⟨⟩
theorem tw5141839337528550600:True:=⟨⟩
theorem tw520080481582432939:True:=⟨⟩
theorem tw5207029012145528111:True:=⟨⟩
theorem tw5224082556586729210:True:=⟨⟩
theorem tw5272213719884071623:True:=⟨⟩
theorem tw5285516889355985357:True:=⟨⟩
theorem tw5341367285424555912:True:=⟨⟩
theorem tw5342145459835768067:True:=⟨⟩
theorem tw5368724152899929045:True:=⟨⟩
theorem tw5372747819990134557:True:=⟨⟩
theorem tw5390255871506885741:True:=⟨⟩
theorem tw5402561070717083566:True:=⟨⟩
theorem tw5442003226929816691:True:=⟨⟩
theorem tw546493926091416657:True:=⟨⟩
theorem tw5466902193650510461:True:=⟨⟩
theorem tw5485294367070057162:True:=⟨⟩
theorem tw5488784278945423910:True:=⟨⟩
theorem tw5496780513871112381:True:=⟨⟩
theorem tw5522984682592740761:True:=⟨⟩
theorem tw5542698100864750302:True:=⟨⟩
theorem tw557280832335667998:True:=⟨⟩
theorem tw5598408382190296880:True:=⟨⟩
theorem tw563174287436095776:True:=⟨⟩
theorem tw5652480427194480187:True:=⟨⟩
theorem tw5661992266544343815:True:=⟨⟩
theorem tw567798670872727574:True:=⟨⟩
theorem tw5685404364624214899:True:=⟨⟩
theorem tw5686109927513953375:True:=⟨⟩
theorem tw5686431445589682357:True:=⟨⟩
theorem tw5690784514501426934:True:=⟨⟩
theorem tw5709395795081968539:True:=⟨⟩
theorem tw5755591170948814262:True:=⟨⟩
theorem tw5807108912527551338:True:=⟨⟩
theorem tw5851282634154522225:True:=⟨⟩
theorem tw5868474791206132998:True:=⟨⟩
theorem tw5877214598391639503:True:=⟨⟩
theorem tw589057117584225103:True:=⟨⟩
theorem tw5902628660164081182:True:=⟨⟩
theorem tw5907644488601205775:True:=⟨⟩
theorem tw5909308180818662189:True:=⟨⟩
theorem tw5915796444764354356:True:=⟨⟩
theorem tw597148473860136199:True:=⟨⟩
theorem tw5977206890007589274:True:=⟨⟩
theorem tw5992086286423440530:True:=⟨⟩
theorem tw6026764114608214674:True:=⟨⟩
theorem tw60696777383728351:True:=⟨⟩
theorem tw6071543459926305106:True:=⟨⟩
theorem tw6077632713634267720:True:=⟨⟩
theorem tw6085943747815331237:True:=⟨⟩
theorem tw6088016541371459365:True:=⟨⟩
theorem tw6096381941687758818:True:=⟨⟩
theorem tw6110938824380037763:True:=⟨⟩
theorem tw6150612427539984083:True:=⟨⟩
theorem tw6176159278648916767:True:=⟨⟩
theorem tw6207923935808031253:True:=⟨⟩
theorem tw6232989147151838352:True:=⟨⟩
theorem tw6242992652770689189:True:=⟨⟩
theorem tw6262074226191432593:True:=⟨⟩
theorem tw6267043944729866882:True:=⟨⟩
theorem tw6273099926951368211:True:=⟨⟩
theorem tw6312603435770963145:True:=⟨⟩
theorem tw6329211672047429528:True:=⟨⟩
theorem tw6383378855171516598:True:=⟨⟩
theorem tw6393134184848996214:True:=⟨⟩
theorem tw6414230019423262257:True:=⟨⟩
theorem tw6445763522221781063:True:=⟨⟩
theorem tw6456880844405146059:True:=⟨⟩
theorem tw646193960731026765:True:=⟨⟩
theorem tw6470987678205612326:True:=⟨⟩
theorem tw6475071218847199599:True:=⟨⟩
theorem tw6475838014330188753:True:=⟨⟩
theorem tw6512315517755687035:True:=⟨⟩
theorem tw6522458575888294961:True:=⟨⟩
theorem tw6546933397019562373:True:=⟨⟩
theorem tw6548196837009534948:True:=⟨⟩
theorem tw6593369322874157724:True:=⟨⟩
theorem tw6607429067228428852:True:=⟨⟩
theorem tw6609974293054861012:True:=⟨⟩
theorem tw6628084537255723342:True:=⟨⟩
theorem tw6628438265975981627:True:=⟨⟩
theorem tw6631139444182846445:True:=⟨⟩
theorem tw6634899524401206965:True:=⟨⟩
theorem tw6650033997713812410:True:=⟨⟩
theorem tw6679874274541514758:True:=⟨⟩
theorem tw6681537859922146740:True:=⟨⟩
theorem tw6712829595968537283:True:=⟨⟩
theorem tw6758685008160979260:True:=⟨⟩
theorem tw6772224255732974209:True:=⟨⟩
theorem tw6786824999726349776:True:=⟨⟩
theorem tw679977844725725937:True:=⟨⟩
theorem tw6809881470807656971:True:=⟨⟩
theorem tw6849314236323342505:True:=⟨⟩
theorem tw6854904848046271987:True:=⟨⟩
theorem tw6856734978734939522:True:=⟨⟩
theorem tw6868351177750298120:True:=⟨⟩
theorem tw6877434846074128300:True:=⟨⟩
theorem tw6878503082909329998:True:=⟨⟩
theorem tw6911127529287208160:True:=⟨⟩
theorem tw6918133857580501804:True:=⟨⟩
theorem tw6941946064466422682:True:=⟨⟩
theorem tw6948310933197708007:True:=⟨⟩
theorem tw6965860564057742060:True:=⟨⟩
theorem tw7051255557680507931:True:=⟨⟩
theorem tw706074715916372670:True:=⟨⟩
theorem tw709578544955746886:True:=⟨⟩
theorem tw7159367847692711230:True:=⟨⟩
theorem tw7173082645784135756:True:=⟨⟩
theorem tw7179931532155715535:True:=⟨⟩
theorem tw7180885720741186335:True:=⟨⟩
theorem tw7186052759385959896:True:=⟨⟩
theorem tw7251065762980742064:True:=⟨⟩
theorem tw725835173254718213:True:=⟨⟩
theorem tw727889206675139732:True:=⟨⟩
theorem tw7339746229977284413:True:=⟨⟩
theorem tw7420358822896499234:True:=⟨⟩
theorem tw7433263550109161401:True:=⟨⟩
theorem tw7447259564044746067:True:=⟨⟩
theorem tw7447926028470612227:True:=⟨⟩
theorem tw7492717235693739824:True:=⟨⟩
theorem tw7542895613349077686:True:=⟨⟩
theorem tw7580765361956814910:True:=⟨⟩
theorem tw7603462446685064309:True:=⟨⟩
theorem tw7659727224318201422:True:=⟨⟩
theorem tw7676904369767878316:True:=⟨⟩
theorem tw7719551140824804143:True:=⟨⟩
theorem tw7748684247556444894:True:=⟨⟩
theorem tw776480906819024705:True:=⟨⟩
theorem tw7833402612078313187:True:=⟨⟩
theorem tw7843205557549799520:True:=⟨⟩
theorem tw7853934128270483598:True:=⟨⟩
theorem tw7913954705149670936:True:=⟨⟩
theorem tw792543726835523587:True:=⟨⟩
theorem tw7925852041108915270:True:=⟨⟩
theorem tw7928365111886275299:True:=⟨⟩
theorem tw7998309604829418623:True:=⟨⟩
theorem tw8028539112192136317:True:=⟨⟩
theorem tw8033809570927275675:True:=⟨⟩
theorem tw8051491857392654287:True:=⟨⟩
theorem tw8069082195627826774:True:=⟨⟩
theorem tw8072285175110193518:True:=⟨⟩
theorem tw8093683027091740367:True:=⟨⟩
theorem tw8099489650405598433:True:=⟨⟩
theorem tw8133197698156407358:True:=⟨⟩
theorem tw8150298600976761273:True:=⟨⟩
theorem tw8150542678662307397:True:=⟨⟩
theorem tw8170858551985656606:True:=⟨⟩
theorem tw8172314339507062679:True:=⟨⟩
theorem tw8180051203045044873:True:=⟨⟩
theorem tw8183999008391189623:True:=⟨⟩
theorem tw8233624985517421014:True:=⟨⟩
theorem tw8247886057586437694:True:=⟨⟩
theorem tw8261142945446417043:True:=⟨⟩
theorem tw8275206449486507050:True:=⟨⟩
theorem tw8286873606328282955:True:=⟨⟩
theorem tw8296166622492377443:True:=⟨⟩
theorem tw8360593061722274964:True:=⟨⟩
theorem tw8378017519292407246:True:=⟨⟩
theorem tw8414239795289681288:True:=⟨⟩
theorem tw8417227089665605743:True:=⟨⟩
theorem tw8454588907312147301:True:=⟨⟩
theorem tw8471285152471583083:True:=⟨⟩
theorem tw8508650870383039475:True:=⟨⟩
theorem tw851212057330165168:True:=⟨⟩
theorem tw853629373860396971:True:=⟨⟩
theorem tw8547839352648233345:True:=⟨⟩
theorem tw8548430607246042208:True:=⟨⟩
theorem tw8551597459611105960:True:=⟨⟩
theorem tw8554443123093124761:True:=⟨⟩
theorem tw8555723267418560533:True:=⟨⟩
theorem tw859312232412014909:True:=⟨⟩
theorem tw859422413312896445:True:=⟨⟩
theorem tw8599544613005513267:True:=⟨⟩
theorem tw8599608180248496810:True:=⟨⟩
theorem tw860097043345894265:True:=⟨⟩
theorem tw8610588251438356104:True:=⟨⟩
theorem tw8653278294068659877:True:=⟨⟩
theorem tw8688294308623903633:True:=⟨⟩
theorem tw8696541181321790092:True:=⟨⟩
theorem tw8750654650633647462:True:=⟨⟩
theorem tw8783383803986940713:True:=⟨⟩
theorem tw8814357457592193088:True:=⟨⟩
theorem tw8842861274674989657:True:=⟨⟩
theorem tw8849733347749896294:True:=⟨⟩
theorem tw8865765123402150895:True:=⟨⟩
theorem tw8895016347973091193:True:=⟨⟩
theorem tw8921787647941613294:True:=⟨⟩
theorem tw8948331412587081437:True:=⟨⟩
theorem tw8951017468814830378:True:=⟨⟩
theorem tw8956861099016259991:True:=⟨⟩
theorem tw8970158604645340770:True:=⟨⟩
theorem tw9000441521828199105:True:=⟨⟩
theorem tw9036905149301215061:True:=⟨⟩
theorem tw9044421127419057740:True:=⟨⟩
theorem tw906141055719659516:True:=⟨⟩
theorem tw9083564009727951435:True:=⟨⟩
theorem tw909210597136280275:True:=⟨⟩
theorem tw9097500603746907924:True:=⟨⟩
theorem tw9119688334344637335:True:=⟨⟩
theorem tw9144010917175172000:True:=⟨⟩
theorem tw9160537580875258626:True:=⟨⟩
theorem tw9172286451140267843:True:=⟨⟩
theorem tw9177269945180521843:True:=⟨⟩
theorem tw9208012000756906654:True:=⟨⟩
theorem tw9210607043773755358:True:=⟨⟩
theorem tw9213374006419872245:True:=⟨⟩
theorem tw9221522956076137912:True:=⟨⟩
theorem tw9244026679476199971:True:=⟨⟩
theorem tw9306266497886531396:True:=⟨⟩
theorem tw9307034311683314970:True:=⟨⟩
theorem tw9322095702249265749:True:=⟨⟩
theorem tw9342232964545533204:True:=⟨⟩
theorem tw9342952686307042216:True:=⟨⟩
theorem tw9370884759752551227:True:=⟨⟩
theorem tw9384811421425579941:True:=⟨⟩
theorem tw9399884375302212035:True:=⟨⟩
theorem tw9436132096856965421:True:=⟨⟩
theorem tw9441041066595903391:True:=⟨⟩
theorem tw9449284607304610563:True:=⟨⟩
theorem tw9480382582786919296:True:=⟨⟩
theorem tw9532105990442452019:True:=⟨⟩
theorem tw9548939620108887063:True:=⟨⟩
theorem tw9571151392784361186:True:=⟨⟩
theorem tw9584734481838951370:True:=⟨⟩
theorem tw9604360390316771674:True:=⟨⟩
theorem tw9620434140048812243:True:=⟨⟩
theorem tw9625864356921510094:True:=⟨⟩
theorem tw9634221690098867786:True:=⟨⟩
theorem tw9634890535345519653:True:=⟨⟩
theorem tw9640879468738561554:True:=⟨⟩
theorem tw9678507192849923797:True:=⟨⟩
theorem tw9694099063846426178:True:=⟨⟩
theorem tw9712154567567863465:True:=⟨⟩
theorem tw974698952539816555:True:=⟨⟩
theorem tw9789829991732394289:True:=⟨⟩
theorem tw9807382405262909650:True:=⟨⟩
theorem tw9867993317991839615:True:=⟨⟩
theorem tw9869473684299924297:True:=⟨⟩
theorem tw9891933699072253842:True:=⟨⟩
theorem tw9894729019593289932:True:=⟨⟩
theorem tw9935974442019784420:True:=⟨⟩
theorem tw998130063384337107:True:=⟨⟩
theorem tw9995364570781692499:True:=⟨⟩
theorem tw9995437462204382616:True:=⟨⟩
end Mine.Internal.hdx
set_option tactic.hygienic true
set_option Elab.async true
open PySem PySem.W PyProof.Rows
set_option maxHeartbeats 8000000 in
theorem Mine.Internal.hdx : PySem.Challenge.rw_pq1443_01.Holds := by
 w_on
 o_law
 k_head
 (case hw => w_witness2)
 w_strict (
  k_fill
  intro w s₀ s₁ mg mb G Y fa o pm cd doc dV kV ho hd hcd hD hmg hg args vals as hpre hlay hrd hwl hlo
  have KX := km_in_of Y
  km_tabs Y
  have X := (Ground.X G).1
  have V := (Ground.X G).2
  refine Ground.open G ?_
  intro T B D TE TW
  try (refine guard_noD D (by decide +kernel) ?_; clear D)
  km_lay T hmg ho hd cd
  wrow_args hpre hlay hrd hwl hlo
  refine enter_call ?_
  rename_i ns hs hlay0 hLa hra hl2 x1 x2 a vs x3 hL ra w1 r0 hI hrr hc1 hc2
  obtain ⟨us, hw1, hw2⟩ := Mine.Internal.well_list w1
  have hfa := mg_of KX T.g (n := Str.ofString "law") (v := .ref 905) (by kernel_rfl)
  have hfa2 : fa = 905 := by
   have := hmg.symm.trans hfa
   cases this; rfl
  subst hfa2
  have hsmods : ∃ mm, s₁.heap.Ns sysModules mm := by
   obtain ⟨mm, hmm, _⟩ := (T.seer (by kernel_rfl)).mods
   exact ⟨mm, hmm⟩
  refine codeAny_mono (Mine.Internal.law_done KX T hsmods ?kokA hT9 hg hw1 hw2 (by omega)) ?_
  case kokA =>
   refine ⟨by kernel_rfl, by kernel_rfl, by kernel_rfl, by kernel_rfl, by kernel_rfl, by kernel_rfl, by kernel_rfl, by kernel_rfl, by kernel_rfl, by kernel_rfl, by kernel_rfl, by kernel_rfl, by kernel_rfl, by kernel_rfl, by kernel_rfl, by kernel_rfl, by kernel_rfl, by kernel_rfl, by kernel_rfl, by kernel_rfl, by kernel_rfl, by kernel_rfl, by kernel_rfl, by kernel_rfl, by kernel_rfl⟩
  intro r s' h
  obtain ⟨rfl, hO, hos, hgens⟩ := h
  exact ⟨.inl ⟨.bool true, .bool true, [], rfl, fun cls => by rfl, .bool _, (by first | kernel_rfl | (simp [PySem.Challenge.rw_pq1443_01]; done) | exact rfl), fun _ => ⟨List.nodup_nil, by simp⟩⟩, hO, hos, .of_eq hgens⟩)
theorem PySem.Challenge.cw_pq1443_01_holds : PySem.Challenge.rw_pq1443_01.Holds :=
  Mine.Internal.hdx
