import PyProof.Rows.All
import Wide.All
import OpenK.AllK
import KE.KRevIter
import PyProof.ExcBaseAll.Exception
import OpenK.ZHead
import KE.KTreeB
import Lean
import PySem.Challenge.RW_no0283_01
set_option Elab.async false
set_option maxRecDepth 100000
set_option maxHeartbeats 4000000
set_option linter.all false
set_option genSizeOf false
set_option genSizeOfSpec false
set_option genInjectivity false
set_option genCtorIdx false
set_option bootstrap.genMatcherCode false
set_option compiler.extract_closed false
set_option tactic.hygienic false
namespace F77Law
open Option renaming some→J,none→U,casesOn→Qm,bind_eq_some_iff→Q7,isSome_iff_exists→Rm,map_eq_some_iff→SV,isNone_iff_eq_none→Tq,bind_some→Tu,map_some→Uv
open Option.some renaming inj→Qj,injEq→Tb
open PySem renaming Value→Qk,Shared→Ql,wpAny_bind→Qn,Addr→Qo,Expr→Qy,Str→QA,NameKind→QF,Program→QG,DictEntry→QI,ClassData→QJ,wpAny_pure→QM,Around→QN,model→QO,wpAny→QQ,FuncData→QR,Operator→QS,World→QV,wpAny_holding→Q4,CmpOp→Q5,Result→Q8,Heap→Q9,wpAny_standAt→Rf,Scope→Ri,Params→Rt,wpAny_loadPart_at→RP,Stmt→RU,wpAny_mono→Sg,Pos→Si,Env→Sj,OsState→Sk,tupleKind→Sy,mainGlobals→SH,wpAny_isSubtype_exc→SN,starEach→SW,wpAny_execs_nil→SX,excClassObj→S4,wpAny_truthy_bool→S6,wpAny_execs_cons→Td,assignEach→Te,sizeLine→Tl,Obj→Tp,treeTable→Tt,eval→TD,call→TE,wpAny_items_cons→TR,checkBuiltinCall→TS,wpAny_call→TX,ExcBaseFacts→TY,sizeLine_eq→T6,backTo→T7,assign→T8,codeAny→Ub,callerA→Uc,wpAny_Assign_stores→Ul,methodCallPos→Ut,cameBackBy→Uy,slot_list_getitem→UC,holding→UD,foldedSetIterable→UE,evalEach→UF,pairTrees→UL,opaqueClassAbove→UM,merged→UN,compareOp→UO,keywordEach→UV,interactive→UW,atKey→UX,wpAny_items_nil→U3,letOwnedTupleGo→U4,importedModules→U5,wpAny_loadPart→Vi,stored→Vj,methodCallForm→Vk,constantsAlone→Vl,call_meets→Vm,binaryOp→Vn,IsTupleKey→Vt,wpAny_release→VG,wpAny_comprehension_free→VH,swappedStores→VI,foldedForSure→VJ,behindInMarks→VK,Flow→VP,Comprehension→VQ,storeName→VX,getMethod→VY,cLine→VZ,wpAny_noteFrame_againW→V6,wpAny_getItem_list_neg→V7,pyIter→V8,eqBool→V9,call_meetsIn→Wa,Keyword→Wg,wpAny_storeName_local→Wr,wpAny_pyIter_revIter→WB,wpAny_field→WC,evalArgs→WD,codeAny_call_builtin→WE,backToKw→WF,arm_assign_Attribute→WG,Sem→WJ
open Bool renaming true→Qp,false→Qq,casesOn→Qz,and_eq_true_iff→QC,false_eq_true→Rd,and_eq_true→Ry,false_ne_true→R6,or_true→Ui,or_eq_false_iff→VF,not_eq_true'→Wq,eq_iff_iff→WO
open List renaming length_append→Qr,length_cons→Qw,mem_of_getElem?→QB,getElem?_eq_some_iff→QE,casesOn→QH,length_map→QL,append_assoc→QW,mem_cons→QX,nodup_cons→QZ,replicate→Q6,size_toArray→Ra,getElem?_map→Rb,all_eq_true→Rc,getElem?_eq_getElem→Rh,mem_singleton→Rk,mem_append→Ro,map_append→Rp,nodup_nil→Rq,map_cons→Rv,length_nil→Rw,lookup_cons→Rx,mem_map→RH,append_nil→RI,getElem?_replicate→RL,getD_eq_getElem?_getD→RN,length_singleton→RQ,any_eq_true→R1,range→R4,getElem?_append_right→R5,getElem?_eq_none→R8,findIdx?_eq_some_iff_getElem→Sc,getElem?_eq_none_iff→Se,nodup_append→Sh,contains_cons→Sq,reverse_cons→Sv,cons_eq_cons→Sw,isEmpty_iff→Sz,getElem?_append_left→SD,length_reverse→SG,mem_filterMap→SK,range'→SQ,range'_succ→S5,foldl_cons→Tc,map_eq_nil_iff→Ti,map_congr_left→Tj,length_eq_zero_iff→Tz,isEmpty→TC,length_set→TK,find?_cons→TL,mem_iff_getElem?→TQ,length→TW,filterMap_cons→T0,any_cons→T2,zip_cons_cons→T5,length_range→Uh,drop→Uw,cons_append→Ux,mem_filter→UA,drop_eq_getElem_cons→UU,mem_of_mem_eraseIdx→U0,filterMap_cons_some→U1,map_set→Vf,drop_eq_nil_of_le→Vg,dropLast_eq_take→Vu,range_eq_range'→VB,getElem?_set_ne→VC,dropLast_concat→VD,replicate_succ→VU,getElem?_range→VV,foldl→V4,getElem?_set→Wk,findIdx_cons→Wl,ext_getElem?→Wm,any_eq_false→Wn,nodup_range→Ww,mem_toArray→Wx,length_take→Wy,length_drop→Wz,filter_cons→WA,nil_append→WL,forIn_cons→WM
open Nat renaming le_refl→Qu,le_trans→Qv,le_add_right→QU,mul_le_mul_right→QY,le_succ→Q1,casesOn→Rn,ne_of_lt→RA,zero_add→RJ,zero_le→RO,le_of_eq→RT,le_succ_of_le→RW,succ_mul→R0,succ_le_succ→R3,not_lt_zero→Ss,lt_of_lt_of_le→SP,lt_of_succ_lt_succ→S2,le_of_succ_le→S3,lt_succ_self→S7,add_assoc→S8,succ→S9,add_le_add_right→Ta,lt_of_le_of_lt→Tr,succ_lt_succ→TA,lt_trans→TH,le_of_lt→TJ,succ_pos→Up,add_comm→Uq,lt_of_add_lt_add_right→US,add_le_add→UT,lt_irrefl→Vb,mul_le_mul_left→V3,sub_le→Wi,not_lt→Wj
open Int renaming le_refl→QK,tdiv_eq_ediv_of_nonneg→Rr,toNat_natCast→RE,tdiv→RM,toNat_of_nonneg→Sm,zero_add→SE,ofNat→SF,not_lt→SS,le_trans→Tm,le_of_lt→Tn,add_zero→To,mul_nonneg→Ts,sub_zero→TM,ofNat_lt→TN,ofNat_le→TO,natCast_nonneg→T9,lt_of_le_of_lt→Ua,lt_trans→Ur,lt_or_le→Us,mul_add→UB,neg_one_mul→UH,ediv_nonneg→UI,mul_assoc→Vc,eq_ofNat_of_zero_le→Vh,zero_mul→Vv,mul_comm→Vw,neg_neg→VW,toNat_of_nonpos→V5,not_le→Wo,neg_tdiv_neg→WN
open PySem.Heap renaming get?_push_of_some→QT,get?_push_size→Rg,lt_size→Rs,SameBut→Sp,get?_update_self→Su,get?_update_other→Vd,get?_none_of_le→Vz,ExtBut→VA,get?_update_ne→VO,HeldW→V0,get?_push_at→Wh
open PySem.NameKind renaming free→Q2,cell→RD,casesOn→S1
open PySem.W renaming Frag→Q3,boot_drawn→R2,instObj→R7,findIn→Sb,boot_heap→SY,keepIn→Tf,emptyDict→Th,dictOf→TF,of_hideAll→TU,looks_findIn→T1,takerIn→T3,TopRead→T4,plainGet→U6,piecesOf→U7,plainGet_of→Vo,looks_clsIn→Vp,hideAll_get→Vq,callWith_of→Vr,hideAll→Vx,Looks→VL,plainOver→Wb,hasDictIn→Wc,InstAt→We,putL→WH,isFn→WI
open Eq renaming symm→Rj
open PySem.Expr renaming casesOn→Rl
open PySem.Challenge renaming rw_no0283_01→Ru
open PySem.W.Fast renaming tw14364793385576792824→RC,te14364793385576792824→RS,tw10110043849684766642→Um,te10110043849684766642→Un
open Prod renaming casesOn→RG,snd→Uf,fst→Ug
open PySem.Heap.SameBut renaming update→RK,refl→UP
open PyProof.Rows renaming St→RR,subscriptTail→RV,tail_any→RX,unpackItems_tuple→SJ,IsTup→TB,markedEach_of_false→TP,Subscript_→Uo,append_at→Uu,dl→U9
open Ne renaming symm→RY
open PySem.Value renaming casesOn→RZ,ref→Sr,str→UY
open List.cons renaming inj→Sd,injEq→VE
open Sum.inl renaming inj→Sl
open PySem.SeqAt renaming EqAt→So,RcNeAt→U8,RcAt→VM
open PySem.Str renaming ofString→SA,ofString_eq_toList→Vs
open PySem.Env renaming kindOf→SO
open PySem.PyData renaming keyHash→SU
open Classical renaming byContradiction→Tk,em→Wp
open PySem.Obj renaming mapFields→Tv,data_mapDictKeys→VN,data_mapFields→Wf
open PySem.W.Looks renaming of_pure→Tw
open PySem.Builtin.ObjectAttr renaming storeInDict→Tx,storeTaker?→Wt,newKeyGuard→Wu
open PySem.Calls renaming evalArgs_plain→TV,Name_function_global→UG,loadGlobal_builtin→UR,loadGlobal_global→UZ
open HAdd renaming hAdd→TZ
open PySem.Stmt renaming casesOn→Ud
open PySem.Builtin.Range renaming rangeSize→Ue
open Sum renaming inr→Uj,inl→Uk
open Int.ofNat renaming inj→Uz
open Array renaming getElem?_eq_some_iff→UJ
open Nat.succ renaming inj→UK
open PySem.Const renaming casesOn→UQ
open Sum.inr renaming inj→U2
open Prod.mk renaming inj→Va
open PySem.Data renaming casesOn→Ve
open PySem.Operator renaming casesOn→Vy
open PySem.Builtin.BaseException renaming bexcPut→VS
open PUnit renaming unit→VT
open PySem.Code renaming quiet_builtin→V2
open PySem.F renaming excBase_Exception→Ws,slot_dict_update→WK
open PySem.BindsTo renaming of_eq→Wv
open PySem PySem.W PySem.Calls PyProof.Rows
noncomputable section
local macro_rules | `(‹$e›) => `((by exact $e))
local macro_rules | `(tb_g%) => `((by kernel_rfl))
local macro_rules | `(tactic| lk) => `(tactic| repeat tb_rel)
abbrev Qs:=@if_neg
abbrev Qt:=@if_pos
abbrev Qx:=@decide_eq_false
abbrev QD:=@decide_eq_true
abbrev QP:=@congrArg
abbrev Q0:=@beq_eq_false_iff_ne
abbrev Re:=@of_decide_eq_true
abbrev Rz:=@absurd
abbrev R9:=@beq_self_eq_true
abbrev Sn:=@beq_iff_eq
abbrev Sx:=@if_false
abbrev SI:=@decide_eq_decide
theorem bE{a:Prop}(c:∀b:Prop,(a→b)→b):a:=c a id
theorem ar{a b:Prop}{c:Prop}(d:a∧b)(e:a→b→c):c:=by obtain⟨f,g⟩:=d;exact e f g
theorem bf{a b c:Prop}{d:Prop}(e:a∧b∧c)(f:a→b→c→d):d:=by obtain⟨g,h,i⟩:=e;exact f g h i
theorem cY{a b c d:Prop}{e:Prop}(f:a∧b∧c∧d)(g:a→b→c→d→e):e:=by obtain⟨h,i,j,k⟩:=f;exact g h i j k
theorem kU{a b c d e:Prop}{f:Prop}(g:a∧b∧c∧d∧e)(h:a→b→c→d→e→f):f:=by obtain⟨i,j,k,l,m⟩:=g;exact h i j k l m
theorem sx{a b c d e f:Prop}{g:Prop}(h:a∧b∧c∧d∧e∧f)(i:a→b→c→d→e→f→g):g:=by obtain⟨j,k,l,m,n,o⟩:=h;exact i j k l m n o
theorem fO{a b c d e f g:Prop}{h:Prop}(i:a∧b∧c∧d∧e∧f∧g)(j:a→b→c→d→e→f→g→h):h:=by obtain⟨k,l,m,n,o,p,q⟩:=i;exact j k l m n o p q
theorem sy{a b c d e f g h:Prop}{i:Prop}(j:a∧b∧c∧d∧e∧f∧g∧h)(k:a→b→c→d→e→f→g→h→i):i:=by obtain⟨l,m,n,o,p,q,r,s⟩:=j;exact k l m n o p q r s
theorem bY{b:Type}{c:b→Prop}{d:Prop}(e:∃a,c a)(f:∀(a:b),c a→d):d:=by obtain⟨a,g⟩:=e;exact f a g
theorem ae{b:Type}{c d:b→Prop}{e:Prop}(f:∃a,c a∧d a)(g:∀(a:b),c a→d a→e):e:=by obtain⟨a,h,i⟩:=f;exact g a h i
theorem bk{b:Type}{c d e:b→Prop}{f:Prop}(g:∃a,c a∧d a∧e a)(h:∀(a:b),c a→d a→e a→f):f:=by obtain⟨a,i,j,k⟩:=g;exact h a i j k
theorem ft{b:Type}{c d e f:b→Prop}{g:Prop}(h:∃a,c a∧d a∧e a∧f a)(i:∀(a:b),c a→d a→e a→f a→g):g:=by obtain⟨a,j,k,l,m⟩:=h;exact i a j k l m
theorem pt{b:Type}{c d e f g:b→Prop}{h:Prop}(i:∃a,c a∧d a∧e a∧f a∧g a)(j:∀(a:b),c a→d a→e a→f a→g a→h):h:=by obtain⟨a,k,l,m,n,o⟩:=i;exact j a k l m n o
theorem zr{b:Type}{c d e f g h:b→Prop}{i:Prop}(j:∃a,c a∧d a∧e a∧f a∧g a∧h a)(k:∀(a:b),c a→d a→e a→f a→g a→h a→i):i:=by obtain⟨a,l,m,n,o,p,q⟩:=j;exact k a l m n o p q
theorem sz{b:Type}{c d e f g h i:b→Prop}{j:Prop}(k:∃a,c a∧d a∧e a∧f a∧g a∧h a∧i a)(l:∀(a:b),c a→d a→e a→f a→g a→h a→i a→j):j:=by obtain⟨a,m,n,o,p,q,r,s⟩:=k;exact l a m n o p q r s
theorem zs{b:Type}{c d e f g h i j k:b→Prop}{l:Prop}(m:∃a,c a∧d a∧e a∧f a∧g a∧h a∧i a∧j a∧k a)(n:∀(a:b),c a→d a→e a→f a→g a→h a→i a→j a→k a→l):l:=by obtain⟨a,o,p,q,r,s,t,u,v,w⟩:=m;exact n a o p q r s t u v w
theorem j0{c:Type}{d:Type}{e:c→d→Prop}{f:Prop}(g:∃a b,e a b)(h:∀(a:c) (b:d),e a b→f):f:=by obtain⟨a,b,i⟩:=g;exact h a b i
theorem dY{c:Type}{d:Type}{e f:c→d→Prop}{g:Prop}(h:∃a b,e a b∧f a b)(i:∀(a:c) (b:d),e a b→f a b→g):g:=by obtain⟨a,b,j,k⟩:=h;exact i a b j k
theorem bQ{c:Type}{d:Type}{e f g:c→d→Prop}{h:Prop}(i:∃a b,e a b∧f a b∧g a b)(j:∀(a:c) (b:d),e a b→f a b→g a b→h):h:=by obtain⟨a,b,k,l,m⟩:=i;exact j a b k l m
theorem hC{c:Type}{d:Type}{e f g h:c→d→Prop}{i:Prop}(j:∃a b,e a b∧f a b∧g a b∧h a b)(k:∀(a:c) (b:d),e a b→f a b→g a b→h a b→i):i:=by obtain⟨a,b,l,m,n,o⟩:=j;exact k a b l m n o
theorem fc{c:Type}{d:Type}{e f g h i:c→d→Prop}{j:Prop}(k:∃a b,e a b∧f a b∧g a b∧h a b∧i a b)(l:∀(a:c) (b:d),e a b→f a b→g a b→h a b→i a b→j):j:=by obtain⟨a,b,m,n,o,p,q⟩:=k;exact l a b m n o p q
theorem sA{c:Type}{d:Type}{e f g h i j:c→d→Prop}{k:Prop}(l:∃a b,e a b∧f a b∧g a b∧h a b∧i a b∧j a b)(m:∀(a:c) (b:d),e a b→f a b→g a b→h a b→i a b→j a b→k):k:=by obtain⟨a,b,n,o,p,q,r,s⟩:=l;exact m a b n o p q r s
theorem sB{c:Type}{d:Type}{e f g h i j k l m:c→d→Prop}{n:Prop}(o:∃a b,e a b∧f a b∧g a b∧h a b∧i a b∧j a b∧k a b∧l a b∧m a b)(p:∀(a:c) (b:d),e a b→f a b→g a b→h a b→i a b→j a b→k a b→l a b→m a b→n):n:=by obtain⟨a,b,q,r,s,t,u,v,w,x,y⟩:=o;exact p a b q r s t u v w x y
theorem sC{d:Type}{e:Type}{f:Type}{g:d→e→f→Prop}{h:Prop}(i:∃a b c,g a b c)(j:∀(a:d) (b:e) (c:f),g a b c→h):h:=by obtain⟨a,b,c,k⟩:=i;exact j a b c k
theorem lT{d:Type}{e:Type}{f:Type}{g h:d→e→f→Prop}{i:Prop}(j:∃a b c,g a b c∧h a b c)(k:∀(a:d) (b:e) (c:f),g a b c→h a b c→i):i:=by obtain⟨a,b,c,l,m⟩:=j;exact k a b c l m
theorem iA{d:Type}{e:Type}{f:Type}{g h i:d→e→f→Prop}{j:Prop}(k:∃a b c,g a b c∧h a b c∧i a b c)(l:∀(a:d) (b:e) (c:f),g a b c→h a b c→i a b c→j):j:=by obtain⟨a,b,c,m,n,o⟩:=k;exact l a b c m n o
theorem iB{d:Type}{e:Type}{f:Type}{g h i j:d→e→f→Prop}{k:Prop}(l:∃a b c,g a b c∧h a b c∧i a b c∧j a b c)(m:∀(a:d) (b:e) (c:f),g a b c→h a b c→i a b c→j a b c→k):k:=by obtain⟨a,b,c,n,o,p,q⟩:=l;exact m a b c n o p q
theorem iC{d:Type}{e:Type}{f:Type}{g h i j k:d→e→f→Prop}{l:Prop}(m:∃a b c,g a b c∧h a b c∧i a b c∧j a b c∧k a b c)(n:∀(a:d) (b:e) (c:f),g a b c→h a b c→i a b c→j a b c→k a b c→l):l:=by obtain⟨a,b,c,o,p,q,r,s⟩:=m;exact n a b c o p q r s
theorem m8{d:Type}{e:Type}{f:Type}{g h i j k l:d→e→f→Prop}{m:Prop}(n:∃a b c,g a b c∧h a b c∧i a b c∧j a b c∧k a b c∧l a b c)(o:∀(a:d) (b:e) (c:f),g a b c→h a b c→i a b c→j a b c→k a b c→l a b c→m):m:=by obtain⟨a,b,c,p,q,r,s,t,u⟩:=n;exact o a b c p q r s t u
theorem sD{d:Type}{e:Type}{f:Type}{g h i j k l m n:d→e→f→Prop}{o:Prop}(p:∃a b c,g a b c∧h a b c∧i a b c∧j a b c∧k a b c∧l a b c∧m a b c∧n a b c)(q:∀(a:d) (b:e) (c:f),g a b c→h a b c→i a b c→j a b c→k a b c→l a b c→m a b c→n a b c→o):o:=by obtain⟨a,b,c,r,s,t,u,v,w,x,y⟩:=p;exact q a b c r s t u v w x y
theorem zt{d:Type}{e:Type}{f:Type}{g h i j k l m n o:d→e→f→Prop}{p:Prop}(q:∃a b c,g a b c∧h a b c∧i a b c∧j a b c∧k a b c∧l a b c∧m a b c∧n a b c∧o a b c)(r:∀(a:d) (b:e) (c:f),g a b c→h a b c→i a b c→j a b c→k a b c→l a b c→m a b c→n a b c→o a b c→p):p:=by obtain⟨a,b,c,s,t,u,v,w,x,y,z,A⟩:=q;exact r a b c s t u v w x y z A
theorem pu{e:Type}{f:Type}{g:Type}{h:Type}{i:e→f→g→h→Prop}{j:Prop}(k:∃a b c d,i a b c d)(l:∀(a:e) (b:f) (c:g) (d:h),i a b c d→j):j:=by obtain⟨a,b,c,d,m⟩:=k;exact l a b c d m
theorem zu{e:Type}{f:Type}{g:Type}{h:Type}{i j:e→f→g→h→Prop}{k:Prop}(l:∃a b c d,i a b c d∧j a b c d)(m:∀(a:e) (b:f) (c:g) (d:h),i a b c d→j a b c d→k):k:=by obtain⟨a,b,c,d,n,o⟩:=l;exact m a b c d n o
theorem kV{e:Type}{f:Type}{g:Type}{h:Type}{i j k:e→f→g→h→Prop}{l:Prop}(m:∃a b c d,i a b c d∧j a b c d∧k a b c d)(n:∀(a:e) (b:f) (c:g) (d:h),i a b c d→j a b c d→k a b c d→l):l:=by obtain⟨a,b,c,d,o,p,q⟩:=m;exact n a b c d o p q
theorem j1{e:Type}{f:Type}{g:Type}{h:Type}{i j k l:e→f→g→h→Prop}{m:Prop}(n:∃a b c d,i a b c d∧j a b c d∧k a b c d∧l a b c d)(o:∀(a:e) (b:f) (c:g) (d:h),i a b c d→j a b c d→k a b c d→l a b c d→m):m:=by obtain⟨a,b,c,d,p,q,r,s⟩:=n;exact o a b c d p q r s
theorem kW{e:Type}{f:Type}{g:Type}{h:Type}{i j k l m:e→f→g→h→Prop}{n:Prop}(o:∃a b c d,i a b c d∧j a b c d∧k a b c d∧l a b c d∧m a b c d)(p:∀(a:e) (b:f) (c:g) (d:h),i a b c d→j a b c d→k a b c d→l a b c d→m a b c d→n):n:=by obtain⟨a,b,c,d,q,r,s,t,u⟩:=o;exact p a b c d q r s t u
theorem zv{e:Type}{f:Type}{g:Type}{h:Type}{i j k l m n o p:e→f→g→h→Prop}{q:Prop}(r:∃a b c d,i a b c d∧j a b c d∧k a b c d∧l a b c d∧m a b c d∧n a b c d∧o a b c d∧p a b c d)(s:∀(a:e) (b:f) (c:g) (d:h),i a b c d→j a b c d→k a b c d→l a b c d→m a b c d→n a b c d→o a b c d→p a b c d→q):q:=by obtain⟨a,b,c,d,t,u,v,w,x,y,z,A⟩:=r;exact s a b c d t u v w x y z A
theorem zw{f:Type}{g:Type}{h:Type}{i:Type}{j:Type}{k:f→g→h→i→j→Prop}{l:Prop}(m:∃a b c d e,k a b c d e)(n:∀(a:f) (b:g) (c:h) (d:i) (e:j),k a b c d e→l):l:=by obtain⟨a,b,c,d,e,o⟩:=m;exact n a b c d e o
theorem zx{f:Type}{g:Type}{h:Type}{i:Type}{j:Type}{k l m n o:f→g→h→i→j→Prop}{p:Prop}(q:∃a b c d e,k a b c d e∧l a b c d e∧m a b c d e∧n a b c d e∧o a b c d e)(r:∀(a:f) (b:g) (c:h) (d:i) (e:j),k a b c d e→l a b c d e→m a b c d e→n a b c d e→o a b c d e→p):p:=by obtain⟨a,b,c,d,e,s,t,u,v,w⟩:=q;exact r a b c d e s t u v w
theorem sE{f:Type}{g:Type}{h:Type}{i:Type}{j:Type}{k l m n o p q r s:f→g→h→i→j→Prop}{t:Prop}(u:∃a b c d e,k a b c d e∧l a b c d e∧m a b c d e∧n a b c d e∧o a b c d e∧p a b c d e∧q a b c d e∧r a b c d e∧s a b c d e)(v:∀(a:f) (b:g) (c:h) (d:i) (e:j),k a b c d e→l a b c d e→m a b c d e→n a b c d e→o a b c d e→p a b c d e→q a b c d e→r a b c d e→s a b c d e→t):t:=by obtain⟨a,b,c,d,e,w,x,y,z,A,B,C,D,E⟩:=u;exact v a b c d e w x y z A B C D E
theorem bw{a b c:Prop}(d:a)(e:b)(f:c):a∧b∧c:=⟨d,e,f⟩
theorem gf{a b c d:Prop}(e:a)(f:b)(g:c)(h:d):a∧b∧c∧d:=⟨e,f,g,h⟩
theorem sF{a b c d e:Prop}(f:a)(g:b)(h:c)(i:d)(j:e):a∧b∧c∧d∧e:=⟨f,g,h,i,j⟩
theorem zy{a b c d e f g h:Prop}(i:a)(j:b)(k:c)(l:d)(m:e)(n:f)(o:g)(p:h):a∧b∧c∧d∧e∧f∧g∧h:=⟨i,j,k,l,m,n,o,p⟩
theorem aU{b:Type}{c d:b→Prop}(a:b)(e:c a)(f:d a):∃a,c a∧d a:=⟨a,e,f⟩
theorem fd{b:Type}{c d e:b→Prop}(a:b)(f:c a)(g:d a)(h:e a):∃a,c a∧d a∧e a:=⟨a,f,g,h⟩
theorem m9{b:Type}{c d e f:b→Prop}(a:b)(g:c a)(h:d a)(i:e a)(j:f a):∃a,c a∧d a∧e a∧f a:=⟨a,g,h,i,j⟩
theorem j2{c d:Type}{e:c→d→Prop}(a:c)(b:d)(f:e a b):∃a b,e a b:=⟨a,b,f⟩
theorem gg{c d:Type}{e f:c→d→Prop}(a:c)(b:d)(g:e a b)(h:f a b):∃a b,e a b∧f a b:=⟨a,b,g,h⟩
theorem ee{c d:Type}{e f g:c→d→Prop}(a:c)(b:d)(h:e a b)(i:f a b)(j:g a b):∃a b,e a b∧f a b∧g a b:=⟨a,b,h,i,j⟩
theorem ji{c d:Type}{e f g h:c→d→Prop}(a:c)(b:d)(i:e a b)(j:f a b)(k:g a b)(l:h a b):∃a b,e a b∧f a b∧g a b∧h a b:=⟨a,b,i,j,k,l⟩
theorem kX{c d:Type}{e f g h i:c→d→Prop}(a:c)(b:d)(j:e a b)(k:f a b)(l:g a b)(m:h a b)(n:i a b):∃a b,e a b∧f a b∧g a b∧h a b∧i a b:=⟨a,b,j,k,l,m,n⟩
theorem sG{d e f:Type}{g:d→e→f→Prop}(a:d)(b:e)(c:f)(h:g a b c):∃a b c,g a b c:=⟨a,b,c,h⟩
theorem zA{d e f:Type}{g h i j:d→e→f→Prop}(a:d)(b:e)(c:f)(k:g a b c)(l:h a b c)(m:i a b c)(n:j a b c):∃a b c,g a b c∧h a b c∧i a b c∧j a b c:=⟨a,b,c,k,l,m,n⟩
theorem na{d e f:Type}{g h i j k:d→e→f→Prop}(a:d)(b:e)(c:f)(l:g a b c)(m:h a b c)(n:i a b c)(o:j a b c)(p:k a b c):∃a b c,g a b c∧h a b c∧i a b c∧j a b c∧k a b c:=⟨a,b,c,l,m,n,o,p⟩
theorem zB{d e f:Type}{g h i j k l m n:d→e→f→Prop}(a:d)(b:e)(c:f)(o:g a b c)(p:h a b c)(q:i a b c)(r:j a b c)(s:k a b c)(t:l a b c)(u:m a b c)(v:n a b c):∃a b c,g a b c∧h a b c∧i a b c∧j a b c∧k a b c∧l a b c∧m a b c∧n a b c:=⟨a,b,c,o,p,q,r,s,t,u,v⟩
theorem zC{e f g h:Type}{i:e→f→g→h→Prop}(a:e)(b:f)(c:g)(d:h)(j:i a b c d):∃a b c d,i a b c d:=⟨a,b,c,d,j⟩
theorem sH{e f g h:Type}{i j k:e→f→g→h→Prop}(a:e)(b:f)(c:g)(d:h)(l:i a b c d)(m:j a b c d)(n:k a b c d):∃a b c d,i a b c d∧j a b c d∧k a b c d:=⟨a,b,c,d,l,m,n⟩
theorem lU{e f g h:Type}{i j k l:e→f→g→h→Prop}(a:e)(b:f)(c:g)(d:h)(m:i a b c d)(n:j a b c d)(o:k a b c d)(p:l a b c d):∃a b c d,i a b c d∧j a b c d∧k a b c d∧l a b c d:=⟨a,b,c,d,m,n,o,p⟩
theorem sI{e f g h:Type}{i j k l m:e→f→g→h→Prop}(a:e)(b:f)(c:g)(d:h)(n:i a b c d)(o:j a b c d)(p:k a b c d)(q:l a b c d)(r:m a b c d):∃a b c d,i a b c d∧j a b c d∧k a b c d∧l a b c d∧m a b c d:=⟨a,b,c,d,n,o,p,q,r⟩
theorem zD{f g h i j:Type}{k l m n o p q r s:f→g→h→i→j→Prop}(a:f)(b:g)(c:h)(d:i)(e:j)(t:k a b c d e)(u:l a b c d e)(v:m a b c d e)(w:n a b c d e)(x:o a b c d e)(y:p a b c d e)(z:q a b c d e)(A:r a b c d e)(B:s a b c d e):∃a b c d e,k a b c d e∧l a b c d e∧m a b c d e∧n a b c d e∧o a b c d e∧p a b c d e∧q a b c d e∧r a b c d e∧s a b c d e:=⟨a,b,c,d,e,t,u,v,w,x,y,z,A,B⟩
theorem zE{h i j k l m n:Type}{o:h→i→j→k→l→m→n→Prop}(a:h)(b:i)(c:j)(d:k)(e:l)(f:m)(g:n)(p:o a b c d e f g):∃a b c d e f g,o a b c d e f g:=⟨a,b,c,d,e,f,g,p⟩
theorem zF{k l m n o p q r s t:Type}{u v:k→l→m→n→o→p→q→r→s→t→Prop}(a:k)(b:l)(c:m)(d:n)(e:o)(f:p)(g:q)(h:r)(i:s)(j:t)(w:u a b c d e f g h i j)(x:v a b c d e f g h i j):∃a b c d e f g h i j,u a b c d e f g h i j∧v a b c d e f g h i j:=⟨a,b,c,d,e,f,g,h,i,j,w,x⟩
theorem zG{q r s t u v w x y z A B C D E F:Type}{G H:q→r→s→t→u→v→w→x→y→z→A→B→C→D→E→F→Prop}(a:q)(b:r)(c:s)(d:t)(e:u)(f:v)(g:w)(h:x)(i:y)(j:z)(k:A)(l:B)(m:C)(n:D)(o:E)(p:F)(I:G a b c d e f g h i j k l m n o p)(K:H a b c d e f g h i j k l m n o p):∃a b c d e f g h i j k l m n o p,G a b c d e f g h i j k l m n o p∧H a b c d e f g h i j k l m n o p:=⟨a,b,c,d,e,f,g,h,i,j,k,l,m,n,o,p,I,K⟩
theorem sJ{i:Type}{j:Type}{k:Type}{l:Type}{m:Type}{n:Type}{o:Type}{p:Type}{q r s:i→j→k→l→m→n→o→p→Prop}{t:Prop}(u:∃a b c d e f g h,q a b c d e f g h∧r a b c d e f g h∧s a b c d e f g h)(v:∀(a:i) (b:j) (c:k) (d:l) (e:m) (f:n) (g:o) (h:p),q a b c d e f g h→r a b c d e f g h→s a b c d e f g h→t):t:=by obtain⟨a,b,c,d,e,f,g,h,w,x,y⟩:=u;exact v a b c d e f g h w x y
@[elab_as_elim] theorem Q{α:Sort c}{motive:α→Prop}{a b:α}(h:a=b)(m:motive b):motive a:=by rw [h];exact m
theorem nb{a:Type}{b:a→Prop}:∀c∈([]:List a),b c:=λe d=>nomatch d
theorem eo{a:Type}{b:a→Prop}{d:a}{e:List a}(f:b d)(g:∀c∈e,b c):∀c∈d::e,b c:=List.forall_mem_cons.mpr ⟨f,g⟩
theorem ag{a:Type}{b:a}{c:Prop}(d:(U:Option a)=J b):c:=nomatch d
theorem sK{a:Nat→Prop}(b:a 0)(c:a 1)(d:a 2)(e:a 3)(f:a 4)(g:a 5){i:Nat}(h:i<6):a i:=by
 rcases i with _|_|_|_|_|_|i
 ·exact b
 ·exact c
 ·exact d
 ·exact e
 ·exact f
 ·exact g
 ·exact(Ss i (US (n:=6) h)).elim
theorem fu{a:Type}{b:a}{c:Prop}(d:b∈([]:List a)):c:=nomatch d
theorem bG{a:Prop}(b:Qp=Qq):a:=nomatch b
inductive dZ where
 |v (i:Nat)|n (k:Nat)|A (a b:dZ)|S (a:dZ) (k:Nat)|D (a b:dZ)|M (k:Nat) (a:dZ)|R (a:dZ) (k:Nat)|G (a:dZ)|Pf (a:dZ)
inductive dA where
 |L (a b:dZ)|K (a b:dZ)|E (a b:dZ)|l (a b:dZ)|k (a b:dZ)|e (a b:dZ)|N (p:dA)|W (p q:dA)|O (p q:dA)|OV (p q:dA)|F
noncomputable def hD{a:Type}(b:a):List a→Nat→a
 |[],_=>b
 |x::_,0=>x
 |_::c,d+1=>hD b c d
noncomputable def gh(c:List Nat):dZ→Nat
 |.v d=>hD 0 c d
 |.n a=>a
 |.A b e=>gh c b+gh c e
 |.S b a=>gh c b+a
 |.M a b=>a*gh c b
 |.R b a=>gh c b*a
 |_=>0
noncomputable def fv(b:List Nat)(c:List Int):dZ→Int
 |.v f=>hD 0 c f
 |.n d=>(d:Int)
 |.A a e=>fv b c a+fv b c e
 |.S a d=>fv b c a+(d:Int)
 |.D a e=>fv b c a-fv b c e
 |.M d a=>(d:Int)*fv b c a
 |.R a d=>fv b c a*(d:Int)
 |.G a=> -fv b c a
 |.Pf a=>(gh b a:Int)
noncomputable def b3(a:List Nat)(b:List Int):dA→Prop
 |.L c d=>gh a c≤gh a d
 |.K c d=>gh a c<gh a d
 |.E c d=>gh a c=gh a d
 |.l c d=>fv a b c≤fv a b d
 |.k c d=>fv a b c<fv a b d
 |.e c d=>fv a b c=fv a b d
 |.N e=>¬b3 a b e
 |.W e f=>b3 a b e∧b3 a b f
 |.O e f=>b3 a b e∨b3 a b f
 |.OV e f=>b3 a b e→b3 a b f
 |.F=>False
abbrev bz:=Int×List Int
noncomputable def cM:List Int→List Int→Int
 |c::bR,a::b=>c*a+cM bR b
 |_,_=>0
noncomputable def bL(b:List Int)(a:bz):Int:=a.1+cM a.2 b
noncomputable def lV:List Int→List Int→List Int
 |[],b=>b
 |a,[]=>a
 |x::a,c::b=>(x+c)::lV a b
noncomputable def lW(a:Int):List Int→List Int
 |[]=>[]
 |x::b=>a*x::lW a b
noncomputable def hE(a b:bz):bz:=(a.1+b.1,lV a.2 b.2)
noncomputable def hF(a:Int)(b:bz):bz:=(a*b.1,lW a b.2)
theorem j3:∀a,cM [] a=0
 |[]=>rfl
 |_::_=>rfl
theorem zH:∀bR,cM bR []=0
 |[]=>rfl
 |_::_=>rfl
theorem sL:∀(b c a:List Int),cM (lV b c) a=cM b a+cM c a
 |[],c,a=>by rw [j3,SE];rfl
 |x::b,[],a=>by rw [j3,To];rfl
 |x::b,d::c,[]=>rfl
 |x::b,d::c,aj::a=>by
  show(x+d)*aj+cM (lV b c) a=(x*aj+cM b a)+(d*aj+cM c a);rw [sL b c a,Int.add_mul];ac_rfl
theorem sM(b:Int):∀(c a:List Int),cM (lW b c) a=b*cM c a
 |[],a=>by rw [j3,Int.mul_zero];exact j3 a
 |x::c,[]=>(Int.mul_zero b).symm
 |x::c,aj::a=>by
  show b*x*aj+cM (lW b c) a=b*(x*aj+cM c a);rw [sM b c a,UB,Vc]
theorem hG(a:List Int)(b c:bz):bL a (hE b c)=bL a b+bL a c:=by
 show(b.1+c.1)+cM (lV b.2 c.2) a=(b.1+cM b.2 a)+(c.1+cM c.2 a);rw [sL];ac_rfl
theorem iD(c:List Int)(b:Int)(a:bz):bL c (hF b a)=b*bL c a:=by
 show b*a.1+cM (lW b a.2) c=b*(a.1+cM a.2 c);rw [sM,UB]
noncomputable def dj(a:bz):Int:=match a.2 with
 |[]=>0
 |x::_=>x
noncomputable def hH(a:bz):bz:=(a.1,match a.2 with
 |[]=>[]
 |_::b=>b)
theorem sN(a:Int)(b:List Int)(c:bz):bL (a::b) c=dj c*a+bL b (hH c):=by
 obtain⟨d,e⟩:=c;induction e using QH with
 |nil=>show d+0=0*a+(d+cM [] b);rw [j3,Vv,SE]
 |cons f e=>show d+(f*a+cM e b)=f*a+(d+cM e b);ac_rfl
noncomputable def sO(a b:bz):bz:=hE (hF (-dj b) (hH a)) (hF (dj a) (hH b))
theorem zI{d:Int}{c:List Int}{a b:bz}(h:0<dj a)(i:dj b<0)(e:0≤bL (d::c) a)(f:0≤bL (d::c) b):0≤bL c (sO a b):=by
 rw [sN]at e f;show 0≤bL c (hE _ _);rw [hG,iD,iD];have j:=Ts (Tn (Int.neg_pos_of_neg i)) e;have k:=Ts (Tn h) f;have g:=Int.add_nonneg j k;have l: -dj b*(dj a*d+bL c (hH a))+dj a*(dj b*d+bL c (hH b))= -dj b*bL c (hH a)+dj a*bL c (hH b):=by
  rw [UB,UB];have aj: -dj b*(dj a*d)+dj a*(dj b*d)=0:=by
   rw [Int.neg_mul,←Vc,←Vc,Vw (dj b) (dj a)];exact Int.add_left_neg _
  rw [←SE (-dj b*bL c (hH a)+dj a*bL c (hH b)),←aj];ac_rfl
 rw [l]at g;exact g
noncomputable def pv(b:bz)(a:List bz)(c:List bz):List bz:=match a with
 |[]=>c
 |q::a=>sO b q::pv b a c
noncomputable def pw(a b:List bz)(c:List bz):List bz:=match a with
 |[]=>c
 |d::a=>pv d b (pw a b c)
noncomputable def kY:List bz→List bz→List bz→List bz→List bz
 |[],aB,a,b=>pw aB a b
 |c::bR,aB,a,b=>match dj c with
  |.ofNat 0=>kY bR aB a (hH c::b)
  |.ofNat (_+1)=>kY bR (c::aB) a b
  |.negSucc _=>kY bR aB (c::a) b
noncomputable def nc:Nat→List bz→Bool
 |0,bR=>bR.any λa=>decide (a.1<0)
 |k+1,bR=>nc k (kY bR [] [] [])
noncomputable def fP(a:List Int)(b:List bz):Prop:=∀c∈b,0≤bL a c
theorem jj{a:List Int}{c:bz}{d:List bz}(e:0≤bL a c)(f:fP a d):fP a (c::d):=λg b=>by
 cases b with
 |head=>exact e
 |tail _ b=>exact f g b
theorem sP{g:Int}{b:List Int}{d:bz}(h:0<dj d)(i:0≤bL (g::b) d):∀(c a:List bz),(∀q∈c,dj q<0∧0≤bL (g::b) q)→fP b a→fP b (pv d c a)
 |[],a,_,e=>e
 |q::c,a,f,e=>jj (zI h (f q (.head _)).1 i (f q (.head _)).2) (sP h i c a (λq j=>f q (.tail _ j)) e)
theorem sQ{h:Int}{d:List Int}:∀(aB a b:List bz),(∀c∈aB,0<dj c∧0≤bL (h::d) c)→(∀e∈a,dj e<0∧0≤bL (h::d) e)→fP d b→fP d (pw aB a b)
 |[],a,b,_,_,f=>f
 |c::aB,a,b,g,i,f=>sP (g c (.head _)).1 (g c (.head _)).2 a _ i (sQ aB a b (λe j=>g e (.tail _ j)) i f)
set_option tactic.hygienic true in
theorem nd{f:Int}{g:List Int}:∀(bR aB b c:List bz),fP (f::g) bR→(∀l∈aB,0<dj l∧0≤bL (f::g) l)→(∀a∈b,dj a<0∧0≤bL (f::g) a)→fP g c→fP g (kY bR aB b c)
 |[],aB,b,c,_,h,d,i=>sQ aB b c h d i
 |l::bR,aB,b,c,o,h,d,i=>by
  have j:=o l (.head _);have m:fP (f::g) bR:=λa d=>o a (.tail _ d);unfold kY;split
  ·next k=>exact nd bR aB b _ m h d (jj (by rw [sN,k]at j;rw [show SF 0*f=0 from Vv f,SE]at j;exact j) i)
  ·next n k=>exact nd bR _ b c m (λa e=>by
    cases e with
    |head=>exact⟨by rw [k];exact Int.ofNat_succ_pos n,j⟩
    |tail _ e=>exact h a e) d i
  ·next n k=>exact nd bR aB _ c m h (λa e=>by
    cases e with
    |head=>exact⟨by rw [k];exact Int.negSucc_lt_zero n,j⟩
    |tail _ e=>exact d a e) i
theorem sR:∀(c:List Int) (bR:List bz),nc c.length bR=Qp→¬fP c bR
 |[],bR,a,d=>by
  refine ae (R1.mp a) λb f g=>?_;have:=d b f;have h:bL [] b=b.1:=by
   show b.1+cM b.2 []=b.1;rw [zH,To]
  rw [h]at this;exact Rz this (Wo.mpr (Re g))
 |x::c,bR,a,d=>sR c _ a (nd bR [] [] [] d (λe a=>nomatch a) (λe a=>nomatch a) λe a=>nomatch a)
noncomputable def iE:Nat→List Int
 |0=>[1]
 |i+1=>0::iE i
noncomputable def gi(c:Nat):dZ→bz
 |.v d=>if d<c then(0,iE d)else(0,[])
 |.n a=>((a:Int),[])
 |.A b e=>hE (gi c b) (gi c e)
 |.S b a=>hE (gi c b) ((a:Int),[])
 |.M a b=>hF a (gi c b)
 |.R b a=>hF a (gi c b)
 |_=>(0,[])
noncomputable def a9(b:Nat):dZ→bz
 |.v e=>(0,iE (b+e))
 |.n c=>((c:Int),[])
 |.A a d=>hE (a9 b a) (a9 b d)
 |.S a c=>hE (a9 b a) ((c:Int),[])
 |.D a d=>hE (a9 b a) (hF (-1) (a9 b d))
 |.M c a=>hF c (a9 b a)
 |.R a c=>hF c (a9 b a)
 |.G a=>hF (-1) (a9 b a)
 |.Pf a=>gi b a
noncomputable def g7:List Nat→List Int→List Int
 |[],a=>a
 |x::b,a=>(x:Int)::g7 b a
theorem zJ(a:List Int)(c:Int)(b:List Int):cM (0::b) (c::a)=cM b a:=by
 show 0*c+cM b a=_;rw [Vv,SE]
theorem ne:∀(i:Nat) (a:List Int),cM (iE i) a=hD 0 a i
 |0,[]=>rfl
 |i+1,[]=>rfl
 |0,b::a=>by show 1*b+cM [] a=b;rw [j3,Int.one_mul,To]
 |i+1,b::a=>(zJ a b (iE i)).trans (ne i a)
theorem px(d:List Int):∀(a:List Nat) (b:Nat),b<a.length→hD 0 (g7 a d) b=((hD 0 a b:Nat):Int)
 |[],b,c=>Rz c (Ss _)
 |x::a,0,_=>rfl
 |x::a,b+1,c=>px d a b (S2 c)
theorem sS:∀(a:List Nat) (b:Nat),¬b<a.length→hD 0 a b=0
 |[],0,_=>rfl
 |[],b+1,_=>rfl
 |x::a,0,c=>Rz (Nat.zero_lt_succ _) c
 |x::a,b+1,c=>sS a b λd=>c (TA d)
theorem sT(c:List Int):∀(b:List Nat) (a:Nat),hD 0 (g7 b c) (b.length+a)=hD 0 c a
 |[],a=>by rw [show([]:List Nat).length+a=a from RJ a];rfl
 |x::b,a=>by rw [show(x::b).length+a=(b.length+a)+1 from Nat.succ_add _ _];exact sT c b a
theorem er(b:List Int)(a:Int):bL b (a,[])=a:=by
 show a+cM [] b=a;rw [j3,To]
theorem eG(a:List Nat)(c:List Int):∀g:dZ,bL (g7 a c) (gi a.length g)=((gh a g:Nat):Int)
 |.v d=>by
  show bL _ (if d<a.length then _ else _)=_;by_cases f:d<a.length
  ·rw [Qt f];show 0+cM (iE d) _=_;rw [SE,ne];exact px c a d f
  ·rw [Qs f,er];exact QP SF (sS a d f).symm
 |.n e=>er _ _
 |.A b h=>(hG _ _ _).trans ((congr (QP TZ (eG a c b)) (eG a c h)).trans rfl)
 |.S b e=>(hG _ _ _).trans ((congr (QP TZ (eG a c b)) (er _ _)).trans rfl)
 |.M e b=>(iD _ _ _).trans (QP ((e:Int)*·) (eG a c b))
 |.R b e=>(iD _ _ _).trans ((QP ((e:Int)*·) (eG a c b)).trans (Vw _ _))
 |.D b h=>er _ _
 |.G b=>er _ _
 |.Pf b=>er _ _
theorem ef(a:List Nat)(c:List Int):∀f:dZ,bL (g7 a c) (a9 a.length f)=fv a c f
 |.v g=>by
  show 0+cM (iE (a.length+g)) _=_;rw [SE,ne];exact sT c a g
 |.n d=>er _ _
 |.A b e=>(hG _ _ _).trans (congr (QP TZ (ef a c b)) (ef a c e))
 |.S b d=>(hG _ _ _).trans (congr (QP TZ (ef a c b)) (er _ _))
 |.D b e=>(hG _ _ _).trans ((congr (QP TZ (ef a c b)) ((iD _ _ _).trans ((QP ((-1:Int)*·) (ef a c e)).trans (UH _)))).trans Int.sub_eq_add_neg.symm)
 |.M d b=>(iD _ _ _).trans (QP ((d:Int)*·) (ef a c b))
 |.R b d=>(iD _ _ _).trans ((QP ((d:Int)*·) (ef a c b)).trans (Vw _ _))
 |.G b=>(iD _ _ _).trans ((QP ((-1:Int)*·) (ef a c b)).trans (UH _))
 |.Pf b=>eG a c b
noncomputable def j4(a b:bz)(c:Int):bz:=hE b (hE (hF (-1) a) (c,[]))
theorem kZ(a:List Int)(c b:bz)(d:Int):bL a (j4 c b d)=bL a b+(-bL a c+d):=
 (hG _ _ _).trans (QP (bL a b+·) ((hG _ _ _).trans (congr (QP TZ ((iD _ _ _).trans (UH _))) (er _ _))))
noncomputable def nf(a b:List (List bz)):List (List bz):=a.flatMap λc=>b.map (c++·)
noncomputable def rel(d:Bool)(a:Int)(b c:bz):List (List bz):=match d with
 |true=>[[j4 b c a]]
 |false=>[[j4 c b (-1-a)]]
noncomputable def ng(c:Bool)(a b:bz):List (List bz):=match c with
 |true=>[[j4 a b 0,j4 b a 0]]
 |false=>[[j4 a b (-1)],[j4 b a (-1)]]
noncomputable def fe(a:Nat):dA→Bool→List (List bz)
 |.L c d,b=>rel b 0 (gi a c) (gi a d)
 |.K c d,b=>rel b (-1) (gi a c) (gi a d)
 |.E c d,b=>ng b (gi a c) (gi a d)
 |.l c d,b=>rel b 0 (a9 a c) (a9 a d)
 |.k c d,b=>rel b (-1) (a9 a c) (a9 a d)
 |.e c d,b=>ng b (a9 a c) (a9 a d)
 |.N e,b=>fe a e (!b)
 |.W e f,b=>match b with
  |true=>nf (fe a e true) (fe a f true)
  |false=>fe a e false++fe a f false
 |.O e f,b=>match b with
  |true=>fe a e true++fe a f true
  |false=>nf (fe a e false) (fe a f false)
 |.OV e f,b=>match b with
  |true=>fe a e false++fe a f true
  |false=>nf (fe a e true) (fe a f false)
 |.F,b=>match b with
  |true=>[]
  |false=>[[]]
noncomputable def fQ(a:List Int)(b:List (List bz)):Prop:=∃c∈b,fP a c
theorem sU{a:List Int}{b:bz}(c:0≤bL a b):fQ a [[b]]:=⟨_,.head _,jj c λe d=>nomatch d⟩
theorem py{b:List Int}{c d:List (List bz)}(a:fQ b c):fQ b (c++d):=a.elim λe a=>⟨e,List.mem_append_left _ a.1,a.2⟩
theorem pz{b:List Int}{d c:List (List bz)}(a:fQ b c):fQ b (d++c):=a.elim λe a=>⟨e,List.mem_append_right _ a.1,a.2⟩
theorem pA{c:List Int}{d e:List (List bz)}(a:fQ c d)(b:fQ c e):fQ c (nf d e):=a.elim λf a=>b.elim λg b=>
 ⟨f++g,List.mem_flatMap.mpr ⟨f,a.1,RH.mpr ⟨g,b.1,rfl⟩⟩,λh i=>(Ro.mp i).elim (a.2 h) (b.2 h)⟩
theorem nh{a:List Int}{b c:bz}{d e f:Int}(g:bL a b=d)(h:bL a c=e)(i:d-f≤e):fQ a (rel Qp f b c):=sU (by rw [kZ,g,h];omega)
theorem ni{a:List Int}{b c:bz}{d e f:Int}(g:bL a b=d)(h:bL a c=e)(i:¬d-f≤e):fQ a (rel Qq f b c):=sU (by rw [kZ,g,h];omega)
theorem sV{b:List Int}{c a:bz}{d e:Int}(f:bL b c=d)(g:bL b a=e)(h:d=e):fQ b (ng Qp c a):=
 ⟨_,.head _,jj (by rw [kZ,f,g];omega) (jj (by rw [kZ,f,g];omega) λi a=>nomatch a)⟩
theorem sW{b:List Int}{d a:bz}{e f:Int}(g:bL b d=e)(h:bL b a=f)(c:¬e=f):fQ b (ng Qq d a):=
 (Int.lt_or_gt_of_ne c).elim (λc=>⟨_,.head _,jj (by rw [kZ,g,h];omega) λi a=>nomatch a⟩) λc=>⟨_,.tail _ (.head _),jj (by rw [kZ,g,h];omega) λi a=>nomatch a⟩
theorem fx(a:List Nat)(b:List Int):∀f:dA,(b3 a b f→fQ (g7 a b) (fe a.length f Qp))∧(¬b3 a b f→fQ (g7 a b) (fe a.length f Qq))
 |.L d e=>⟨λc=>nh (eG a b d) (eG a b e) ((TM _).symm▸TO.mpr c),λc=>ni (eG a b d) (eG a b e) ((TM _).symm▸λg=>c (TO.mp g))⟩
 |.K d e=>⟨λc=>nh (eG a b d) (eG a b e) (TN.mpr c),λc=>ni (eG a b d) (eG a b e) λg=>c (TN.mp g)⟩
 |.E d e=>⟨λc=>sV (eG a b d) (eG a b e) (QP SF c),λc=>sW (eG a b d) (eG a b e) λg=>c (Uz g)⟩
 |.l d e=>⟨λc=>nh (ef a b d) (ef a b e) ((TM _).symm▸c),λc=>ni (ef a b d) (ef a b e) ((TM _).symm▸c)⟩
 |.k d e=>⟨λc=>nh (ef a b d) (ef a b e) c,λc=>ni (ef a b d) (ef a b e) c⟩
 |.e d e=>⟨λc=>sV (ef a b d) (ef a b e) c,λc=>sW (ef a b d) (ef a b e) c⟩
 |.N f=>⟨(fx a b f).2,λc=>(fx a b f).1 (Tk c)⟩
 |.W f g=>⟨λc=>pA ((fx a b f).1 c.1) ((fx a b g).1 c.2),λc=>(Wp (b3 a b f)).elim (λd=>pz ((fx a b g).2 λe=>c ⟨d,e⟩)) λd=>py ((fx a b f).2 d)⟩
 |.O f g=>⟨λc=>c.elim (λd=>py ((fx a b f).1 d)) λd=>pz ((fx a b g).1 d),λc=>pA ((fx a b f).2 λd=>c (.inl d)) ((fx a b g).2 λd=>c (.inr d))⟩
 |.OV f g=>⟨λc=>(Wp (b3 a b f)).elim (λd=>pz ((fx a b g).1 (c d))) λd=>py ((fx a b f).2 d),λc=>pA ((fx a b f).1 (Tk λd=>c λe=>Rz e d)) ((fx a b g).2 λd=>c λh=>d)⟩
 |.F=>⟨False.elim,λh=>⟨[],.head _,λh g=>nomatch g⟩⟩
noncomputable def nj:Nat→List bz→List bz
 |0,a=>a
 |i+1,a=>(0,iE i)::nj i a
theorem sX(a:List Nat)(c:List Int):∀(i:Nat),i≤a.length→∀b,fP (g7 a c) b→fP (g7 a c) (nj i b)
 |0,_,b,d=>d
 |i+1,e,b,d=>jj (by
   show 0≤0+cM (iE i) _;rw [SE,ne,px c a i e];exact T9 _) (sX a c i (S3 e) b d)
theorem sY(b:List Int):∀a:List Nat,(g7 a b).length=a.length+b.length
 |[]=>(RJ _).symm
 |x::a=>(QP S9 (sY b a)).trans (Nat.succ_add _ _).symm
noncomputable def b5(a b:Nat)(c:dA):Bool:=(fe a c Qq).all λd=>nc (a+b) (nj a d)
theorem cE(a:List Nat)(b:List Int)(c:dA)(f:b5 a.length b.length c=Qp:=by kernel_rfl!):b3 a b c:=Tk λT=>
 ((fx a b c).2 T).elim λd e=>sR (g7 a b) (nj a.length d) ((QP (nc · _) (sY b a)).trans (Rc.mp f d e.1)) (sX a b _ (Qu _) d e.2)
noncomputable abbrev zK:List Nat:=[1,0,2,3,900000,4,1000000,8,6,5,100,7,12,1000000000,10,20,2147483648,2000,2000000000,15,100000,9,4611686018427387904,3455,13820,600,60,350000,9000,17,16777216,16964,314,64,30,800000,400000,1000,63,46,11,13,14,13822,1073741824,62,132,19,1356,67857]
noncomputable def pB(a:Nat):Nat:=hD 0 zK (a%64)
noncomputable abbrev c4(a:Nat)(b:dA)(c:Nat→dA):dA:=Rn a b c
noncomputable def fy(h:Nat):Nat→(dZ→Nat→dA)→dA:=Nat.rec (motive:=λ_=>Nat→(dZ→Nat→dA)→dA) (λ_ _=>.F) (λ_ e T c=>c4 T (c (.v 0) 0) λg=>(λb a=>
  c4 a (c (.v 0) b) λa=>
  c4 a (c (.v 1) b) λa=>
  c4 a (e b λd T=>e T λf T=>c (.A d f) T) λa=>
  c4 a (c (.n (pB b)) (b/64)) λa=>
  c4 a (c (.v 2) b) λa=>
  c4 a (e b λd T=>c (.S d 1) T) λa=>
  c4 a (c (.n 0) b) λa=>
  c4 a (e b λd T=>c (.Pf d) T) λa=>
  c4 a (c (.v 3) b) λa=>
  c4 a (e b λd T=>c (.S d (pB T)) (T/64)) λa=>
  c4 a (e b λd T=>c (.M (pB T) d) (T/64)) λa=>
  c4 a (c (.n 1) b) λa=>
  c4 a (c (.v 4) b) λa=>
  c4 a (c (.v (b%16)) (b/16)) λa=>
  c4 a (e b λd T=>c (.G d) T) λa=>
  e b λd T=>e T λf T=>c (.D d f) T) ((g+1)/16) ((g+1)%16)) h
noncomputable def zL(i:Nat):Nat→(dA→Nat→dA)→dA:=Nat.rec (motive:=λ_=>Nat→(dA→Nat→dA)→dA) (λ_ _=>.F) (λ_ f T d=>c4 T (d .F 0) λg=>(λe b=>
  c4 b (f e λa T=>f T λc T=>d (.OV a c) T) λb=>
  c4 b (fy 9 e λa T=>fy 9 T λc T=>d (.L a c) T) λb=>
  c4 b (fy 9 e λa T=>fy 9 T λc T=>d (.l a c) T) λb=>
  c4 b (fy 9 e λa T=>fy 9 T λc T=>d (.K a c) T) λb=>
  c4 b (fy 9 e λa T=>fy 9 T λc T=>d (.k a c) T) λb=>
  c4 b (fy 9 e λh T=>fy 9 T λa T=>fy 9 T λc T=>d (.O (.W (.L c a) (.E (.A h c) a)) (.W (.L a c) (.E h (.n 0)))) T) λb=>
  c4 b (f e λa T=>f T λc T=>d (.W a c) T) λb=>
  c4 b (fy 9 e λa T=>fy 9 T λc T=>d (.E a c) T) λb=>
  c4 b (fy 9 e λa T=>fy 9 T λc T=>d (.e a c) T) λb=>
  c4 b (f e λa T=>d (.N a) T) λb=>
  c4 b (f e λa T=>f T λc T=>d (.O a c) T) λb=>
  d .F e) ((g+1)/12) ((g+1)%12)) i
noncomputable def aX(a:Nat):dA:=zL 40 a λb _=>b
theorem aH(a:Nat)(b:b5 0 0 (aX a)=Qp:=by kernel_rfl!):b3 [] [] (aX a):=cE [] [] (aX a) b
theorem ay(a:Nat){b:Int}(c:b5 0 1 (aX a)=Qp:=by kernel_rfl!):b3 [] [b] (aX a):=cE [] [b] (aX a) c
theorem ck(a:Nat){b c:Int}(d:b5 0 2 (aX a)=Qp:=by kernel_rfl!):b3 [] [b,c] (aX a):=cE [] [b,c] (aX a) d
theorem b6(a:Nat){b c d:Int}(e:b5 0 3 (aX a)=Qp:=by kernel_rfl!):b3 [] [b,c,d] (aX a):=cE [] [b,c,d] (aX a) e
theorem pC(a:Nat){b c d e:Int}(f:b5 0 4 (aX a)=Qp:=by kernel_rfl!):b3 [] [b,c,d,e] (aX a):=cE [] [b,c,d,e] (aX a) f
theorem zM(a:Nat){b c d e f:Int}(g:b5 0 5 (aX a)=Qp:=by kernel_rfl!):b3 [] [b,c,d,e,f] (aX a):=cE [] [b,c,d,e,f] (aX a) g
theorem aN(a:Nat){b:Nat}(c:b5 1 0 (aX a)=Qp:=by kernel_rfl!):b3 [b] [] (aX a):=cE [b] [] (aX a) c
theorem aC(a:Nat){b:Nat}{c:Int}(d:b5 1 1 (aX a)=Qp:=by kernel_rfl!):b3 [b] [c] (aX a):=cE [b] [c] (aX a) d
theorem iF(a:Nat){b:Nat}{c d:Int}(e:b5 1 2 (aX a)=Qp:=by kernel_rfl!):b3 [b] [c,d] (aX a):=cE [b] [c,d] (aX a) e
theorem k0(a:Nat){b:Nat}{c d e:Int}(f:b5 1 3 (aX a)=Qp:=by kernel_rfl!):b3 [b] [c,d,e] (aX a):=cE [b] [c,d,e] (aX a) f
theorem iG(a:Nat){b:Nat}{c d e f:Int}(g:b5 1 4 (aX a)=Qp:=by kernel_rfl!):b3 [b] [c,d,e,f] (aX a):=cE [b] [c,d,e,f] (aX a) g
theorem lX(a:Nat){b:Nat}{c d e f g:Int}(h:b5 1 5 (aX a)=Qp:=by kernel_rfl!):b3 [b] [c,d,e,f,g] (aX a):=cE [b] [c,d,e,f,g] (aX a) h
theorem zN(a:Nat){b:Nat}{c d e f g h:Int}(i:b5 1 6 (aX a)=Qp:=by kernel_rfl!):b3 [b] [c,d,e,f,g,h] (aX a):=cE [b] [c,d,e,f,g,h] (aX a) i
theorem ak(a:Nat){b c:Nat}(d:b5 2 0 (aX a)=Qp:=by kernel_rfl!):b3 [b,c] [] (aX a):=cE [b,c] [] (aX a) d
theorem bx(a:Nat){b c:Nat}{d:Int}(e:b5 2 1 (aX a)=Qp:=by kernel_rfl!):b3 [b,c] [d] (aX a):=cE [b,c] [d] (aX a) e
theorem ff(a:Nat){b c:Nat}{d e:Int}(f:b5 2 2 (aX a)=Qp:=by kernel_rfl!):b3 [b,c] [d,e] (aX a):=cE [b,c] [d,e] (aX a) f
theorem nk(a:Nat){b c:Nat}{d e f:Int}(g:b5 2 3 (aX a)=Qp:=by kernel_rfl!):b3 [b,c] [d,e,f] (aX a):=cE [b,c] [d,e,f] (aX a) g
theorem au(a:Nat){b c d:Nat}(e:b5 3 0 (aX a)=Qp:=by kernel_rfl!):b3 [b,c,d] [] (aX a):=cE [b,c,d] [] (aX a) e
theorem bM(a:Nat){b c d:Nat}{e:Int}(f:b5 3 1 (aX a)=Qp:=by kernel_rfl!):b3 [b,c,d] [e] (aX a):=cE [b,c,d] [e] (aX a) f
theorem dk(a:Nat){b c d:Nat}{e f:Int}(g:b5 3 2 (aX a)=Qp:=by kernel_rfl!):b3 [b,c,d] [e,f] (aX a):=cE [b,c,d] [e,f] (aX a) g
theorem gG(a:Nat){b c d:Nat}{e f g:Int}(h:b5 3 3 (aX a)=Qp:=by kernel_rfl!):b3 [b,c,d] [e,f,g] (aX a):=cE [b,c,d] [e,f,g] (aX a) h
theorem aE(a:Nat){b c d e:Nat}(f:b5 4 0 (aX a)=Qp:=by kernel_rfl!):b3 [b,c,d,e] [] (aX a):=cE [b,c,d,e] [] (aX a) f
theorem gH(a:Nat){b c d e:Nat}{f:Int}(g:b5 4 1 (aX a)=Qp:=by kernel_rfl!):b3 [b,c,d,e] [f] (aX a):=cE [b,c,d,e] [f] (aX a) g
theorem pD(a:Nat){b c d e:Nat}{f g:Int}(h:b5 4 2 (aX a)=Qp:=by kernel_rfl!):b3 [b,c,d,e] [f,g] (aX a):=cE [b,c,d,e] [f,g] (aX a) h
theorem bU(a:Nat){b c d e f:Nat}(g:b5 5 0 (aX a)=Qp:=by kernel_rfl!):b3 [b,c,d,e,f] [] (aX a):=cE [b,c,d,e,f] [] (aX a) g
theorem lY(a:Nat){b c d e f:Nat}{g:Int}(h:b5 5 1 (aX a)=Qp:=by kernel_rfl!):b3 [b,c,d,e,f] [g] (aX a):=cE [b,c,d,e,f] [g] (aX a) h
theorem zO(a:Nat){b c d e f:Nat}{g h:Int}(i:b5 5 2 (aX a)=Qp:=by kernel_rfl!):b3 [b,c,d,e,f] [g,h] (aX a):=cE [b,c,d,e,f] [g,h] (aX a) i
theorem eH(a:Nat){b c d e f g:Nat}(h:b5 6 0 (aX a)=Qp:=by kernel_rfl!):b3 [b,c,d,e,f,g] [] (aX a):=cE [b,c,d,e,f,g] [] (aX a) h
theorem zP(a:Nat){b c d e f g:Nat}{h:Int}(i:b5 6 1 (aX a)=Qp:=by kernel_rfl!):b3 [b,c,d,e,f,g] [h] (aX a):=cE [b,c,d,e,f,g] [h] (aX a) i
theorem lZ(a:Nat){b c d e f g h:Nat}(i:b5 7 0 (aX a)=Qp:=by kernel_rfl!):b3 [b,c,d,e,f,g,h] [] (aX a):=cE [b,c,d,e,f,g,h] [] (aX a) i
theorem pE(a:Nat){b c d e f g h i:Nat}(j:b5 8 0 (aX a)=Qp:=by kernel_rfl!):b3 [b,c,d,e,f,g,h,i] [] (aX a):=cE [b,c,d,e,f,g,h,i] [] (aX a) j
theorem l3(a:Nat){b c d e f g h i j:Nat}(k:b5 9 0 (aX a)=Qp:=by kernel_rfl!):b3 [b,c,d,e,f,g,h,i,j] [] (aX a):=cE [b,c,d,e,f,g,h,i,j] [] (aX a) k
theorem zQ(a:Nat){b c d e f g h i j k l m n o:Nat}(p:b5 14 0 (aX a)=Qp:=by kernel_rfl!):b3 [b,c,d,e,f,g,h,i,j,k,l,m,n,o] [] (aX a):=cE [b,c,d,e,f,g,h,i,j,k,l,m,n,o] [] (aX a) p
theorem cI(a:Int):(a≤(a.natAbs:Int)∧-a≤(a.natAbs:Int))∧((a.natAbs:Int)≤a∨(a.natAbs:Int)≤-a):=
 ⟨⟨Int.le_natAbs,Int.natAbs_neg a▸Int.le_natAbs⟩,(Int.natAbs_eq a).imp (λb=>Int.le_of_eq b.symm) λb=>Int.le_of_eq (Int.neg_eq_comm.mp b.symm).symm⟩
theorem cz(a:Int):((0:Int)≤a∧(a.toNat:Int)=a)∨(a≤0∧a.toNat=0):=(Int.le_total 0 a).imp (λb=>⟨b,Sm b⟩) λb=>⟨b,V5 b⟩
theorem az(a b:Nat):(b≤a∧a-b+b=a)∨(a≤b∧a-b=0):=(Nat.le_total b a).imp (λc=>⟨c,Nat.sub_add_cancel c⟩) λc=>⟨c,Nat.sub_eq_zero_of_le c⟩
noncomputable abbrev dm:QG:=PySem.Challenge.pw_no0283_01
noncomputable def H(a:Nat):RU:=(dm.main.body[a]?).getD (.Pass ⟨0,0,0,0⟩)
noncomputable def bV(s:RU)(a:Nat):RU:=match s with
 |.ClassDef _ _ _ b _ _ _ _ _ _ _=>(b[a]?).getD (.Pass ⟨0,0,0,0⟩)
 |s=>s
noncomputable def es(a:RU)(b:QA)(c:Qo)(d:List (QA×Qo))(e f g h:Qk)(i:Option Qo)(j k:Qk)(l:Qo):QR:=match a with
 |.FunctionDef T m n _ _ _ o _ _ _=>{name:=T,qualname:=b,params:=m,body:=.stmts n,scope:=o,globals:=c,closure:=d,defaults:=e,kwdefaults:=f,doc:=g,pyModule:=h,annotations:=i,code:=j,closureTuple:=k,builtins:=l}
 |_=>default
noncomputable abbrev aA(a:String)(b:Nat):Qk:=.str (SA a) b
noncomputable abbrev fz(b:Rt)(a:String)(c:Nat)(d:Qk):QI:=⟨SU b (SA a),.str (SA a) c,d⟩
noncomputable abbrev T(a:Tp)(b c:BT):BT:=.node a b c
noncomputable abbrev aj:BT:=.nil
noncomputable abbrev Y(a:String):QA:=SA a
namespace Hd
noncomputable def fR:List String→Nat→List Qk
 |[],_=>[]
 |x::b,a=>aA x a::fR b (a+1)
noncomputable def cu(a:List Qk):Tp:=⟨.type "tuple",U,.seq a.toArray 0,#[]⟩
noncomputable def a1(a:List Qk):Tp:=⟨.none,U,.fields a.toArray,#[]⟩
noncomputable def cF(a:Int):List (Int×Qo)→List Qk
 |[]=>[]
 |x::b=>.int x.1 0:: .int a 0:: .ref x.2::cF a b
noncomputable def eg(a:String)(b:Qk):Tp:=⟨.type "builtin_function_or_method",U,.fields #[.builtin a,b],#[]⟩
noncomputable def hI(a:Qo):Tp:=⟨.type "super",U,.fields #[.ref a,.ref a,.ref a],#[]⟩
noncomputable def ao(a b:Qo)(c:String)(d:Nat):Tp:=⟨.type "frame",U,.plain,#[J (.ref a),J (.ref 3),J (.ref b),U,J (aA c d),U,J (.ref 0)]⟩
noncomputable def j5:String:= "/claim/cut.py"
noncomputable def gI(b:String)(a:Nat)(c:Int)(d:Qo):Tp:=⟨.type "code",U,.fields #[aA b a,aA b (a+1),aA j5 (a+2),.int c 0,.int 0 0,.int 0 0,.int 0 0,.int 0 0,.ref d,.bool Qq,.int 181 0,.ref (d+1),.none,.none,.none,.none,.int (a+3) 0,.int c 0,aA j5 (a+4)],#[]⟩
noncomputable def k1(a:Nat)(b:Qo):Tp:=⟨.type "getset_descriptor",U,.fields #[aA "__weakref__" a,.ref b,.builtin "ExceptionGroup.__weakref__",.none],#[]⟩
noncomputable def j6(a:Nat)(b:Qo):Tp:=⟨.type "getset_descriptor",U,.fields #[aA "__dict__" a,.ref b,.builtin "function.__dict__",.builtin "function.__dict__#set"],#[]⟩
noncomputable def O(a:Rt):List (String×Nat×Qk)→List QI
 |[]=>[]
 |x::b=>fz a x.1 x.2.1 x.2.2::O a b
noncomputable def b7(a:Rt)(b:Nat)(c:List (String×Nat×Qk)):Tp:=⟨.type "dict",U,.dict (O a c).toArray b,#[]⟩
noncomputable def hJ(a:String)(b c:List Qk)(d:Qo)(e:List Qk)(f:Option Qk)(g h:Nat)(i:String):Tp:=⟨.type "type",U,.cls ⟨SA a,b,c,d,SA a,Qp,[],e,Qq,U,Qq⟩,#[f,U,J (aA a g),J (aA a h),J (.builtin i),J (.bool Qp)]⟩
noncomputable def pF(a:RU):QA:=match a with
 |.FunctionDef T _ _ _ _ _ _ _ _ _=>T
 |_=>Y ""
noncomputable def sZ(a:RU):Int:=match a with
 |.FunctionDef _ _ _ _ _ _ _ _ _ b=>b.line
 |_=>0
noncomputable def zR(a:RU):Int:=match a with
 |.FunctionDef _ b _ _ _ _ _ _ _ _=>b.args.length
 |_=>0
noncomputable def s1(a:Nat)(b:RU)(e:QA)(c:Nat)(d:Qo)(f g:Qk)(h:Qo):Tp:=⟨.type "code",U,.fields #[.str (pF b) a,.str e (a+1),aA j5 (a+2),.int (sZ b) 0,.int (zR b) 0,.int 0 0,.int 0 0,.int 3 0,.ref d,.bool Qp,.int 181 0,.ref (d+1),.none,f,g,.ref h,.int ((a+3+c:Nat):Int) 0,.int (sZ b) 0,aA j5 (a+4+c)],#[]⟩
noncomputable def dO(a d:Nat)(b:RU)(c:QA)(e:String)(f:Nat)(g:Qk):List Tp:=[cu [],a1 [],⟨.none,U,.func (es b c 0 [] .none .none .none .none U .none .none 0),#[]⟩,s1 d b c 0 a .none .none (a+2),⟨.type "function",U,.func (es b c 3 [] g .none .none (aA e f) U (.ref (a+3)) .none 0),#[]⟩]
noncomputable def g8(a d:Nat)(b:RU)(c:QA)(f:String)(g:Nat)(h:Qk)(e:List String):List Tp:=[cu [],a1 [],cu (fR e (d+3)),cu [],⟨.none,U,.func (es b c 0 [] .none .none .none .none U .none .none 0),#[]⟩,s1 d b c e.length a (.ref (a+2)) (.ref (a+3)) (a+4),⟨.type "function",U,.func (es b c 3 [] h .none .none (aA f g) U (.ref (a+5)) .none 0),#[]⟩]
noncomputable def eh(c:String)(d:Nat):Nat→Nat→List (Nat×List String)→List Tp
 |_,_,[]=>[]
 |a,e,b::f=>match Nat.ble 1000 b.1 with
  |true=>dO a e (H (b.1-1000)) (pF (H (b.1-1000))) c d .none++eh c d (a+5) (e+6) f
  |false=>g8 a e (H b.1) (pF (H b.1)) c d .none b.2++eh c d (a+7) (e+6+b.2.length) f
noncomputable def zS(a:Rt)(b:String)(c:Nat):List QI:=fz a "__name__" 165 (aA b c)::O a [("__doc__",166,.none),("__package__",167,.none),("__loader__",168,.builtin "__main__.__loader__#opaque"),("__spec__",169,.none),("__annotations__",170,.ref 6),("__builtins__",171,.ref 4),("__file__",173,aA "/claim/cut.py" 172),("__cached__",174,.none),("_wall",193,.ref 21),("F77Error",224,.ref 38),("CheckFault",240,.ref 51),("RunFault",256,.ref 63),("StopRun",272,.ref 75),("TooLong",297,.ref 94),("INTEGER",301,.int 0 300),("REAL",303,.int 1 302),("DOUBLE",305,.int 2 304),("COMPLEX",307,.int 3 306),("LOGICAL",309,.int 4 308),("CHARACTER",311,.int 5 310),("units_of",318,.ref 103),("SECOND",322,.int 6 321),("LABEL",324,.int 7 323),("Memory",380,.ref 141),("need_units",389,.ref 152),("read_cell",399,.ref 159),("load_number",409,.ref 166),("store_number",419,.ref 173),("load_text",429,.ref 180),("store_text",439,.ref 187),("pad",447,.ref 194),("unit_size",455,.ref 201),("element_place",472,.ref 208),("sub_place",483,.ref 215),("fit_int",494,.ref 222),("int_add",503,.ref 229),("int_sub",512,.ref 236),("int_mul",521,.ref 243),("cut_quotient",530,.ref 250),("int_div",539,.ref 257),("inverse_power",547,.ref 264),("int_power",558,.ref 271),("order_of",566,.ref 278),("holds",574,.ref 285),("int_binary",585,.ref 292),("real_to_int",597,.ref 299),("is_zero",606,.ref 306),("trip_count",621,.ref 313),("Run",671,.ref 330),("evaluate",679,.ref 341),("named_place",688,.ref 348),("bound_of",696,.ref 355),("part_place",706,.ref 362),("place_of",712,.ref 367),("eval_const",720,.ref 374),("eval_place",728,.ref 381),("reckon",739,.ref 388),("eval_binary",749,.ref 395),("eval_compare",759,.ref 402),("plain_expressions",767,.ref 409),("Flow",801,.ref 426),("note_label",810,.ref 437),("note_arm",824,.ref 444),("open_arm",831,.ref 451),("note_ends",845,.ref 458),("flow_of",858,.ref 465),("sign_of",865,.ref 472),("flow_for",875,.ref 479),("execute",885,.ref 486),("count_step",892,.ref 493),("run_unit",904,.ref 500),("jump_to",914,.ref 507),("store_value",923,.ref 514),("do_assign",934,.ref 521),("label_place",942,.ref 528),("do_setlabel",952,.ref 535),("label_in",961,.ref 542),("assign_statements",967,.ref 549),("do_goto",977,.ref 556),("do_cgoto",988,.ref 563),("do_agoto",999,.ref 570),("do_aif",1010,.ref 577),("do_lif",1020,.ref 584),("do_if",1033,.ref 591),("do_arm",1043,.ref 598),("do_on",1053,.ref 605),("do_do",1070,.ref 612),("step_loops",1086,.ref 619),("do_return",1096,.ref 626),("do_end",1106,.ref 633),("do_stop",1116,.ref 640),("control_statements",1122,.ref 647),("Limits",1175,.ref 665),("UnitTree",1220,.ref 686),("_law_names",1229,.ref 691),("_law_draw",1238,.ref 698),("_law_fresh",1245,.ref 705),("_law_set",1252,.ref 712),("_law_cond",1259,.ref 719),("_law_term",1267,.ref 726),("_law_do",1286,.ref 733),("_law_part",1292,.ref 738),("_law_body",1304,.ref 745),("_law_var",1311,.ref 752),("_law_const",1318,.ref 759),("_law_test",1325,.ref 766),("_law_plain",1337,.ref 773),("_law_lay",1350,.ref 780),("_law_lay_if",1363,.ref 787),("_law_lay_do",1385,.ref 794),("_law_lay_switch",1391,.ref 799),("_law_holds",1401,.ref 806),("_law_do_plain",1414,.ref 813),("_law_run",1429,.ref 820),("_law_loop",1450,.ref 827),("law",1456,.ref 832)]
noncomputable def bq(a:Rt)(b:String)(c d e:Nat):Tp:=⟨.type "dict",U,.dict ((zS a b c).take d).toArray e,#[]⟩
noncomputable def s2(a:Nat):Tp:=a1 (cF 0 ([(1,20),(5,27),(10,47),(12,59),(14,71),(16,83),(28,102),(37,109),(56,151),(59,158),(64,165),(72,172),(81,179),(87,186),(91,193),(93,200),(97,207),(111,214),(118,221),(123,228),(125,235),(127,242),(129,249),(132,256),(136,263),(142,270),(151,277),(155,284),(169,291),(182,298),(189,305),(193,312),(203,319),(221,340),(225,347),(230,354),(234,361),(238,366),(245,373),(247,380),(249,387),(253,394),(257,401),(261,408),(269,415),(277,436),(283,443),(299,450),(303,457),(312,464),(333,471),(340,478),(344,485),(348,492),(352,499),(367,506),(372,513),(374,520),(378,527),(380,534),(383,541),(388,548),(390,555),(392,562),(397,569),(402,576),(405,583),(409,590),(417,597),(419,604),(421,611),(435,618),(448,625),(452,632),(454,639),(456,646),(459,653),(471,675),(490,697),(496,704),(499,711),(501,718),(503,725),(510,732),(527,737),(548,744),(555,751),(557,758),(559,765),(561,772),(570,779),(586,786),(596,793),(609,798),(627,805),(630,812),(637,819),(667,826),(689,831)].take a))
noncomputable def bL:Bool→List Tp→List Tp
 |_,[]=>[]
 |true,b::a=>b::bL false a
 |false,_::a=>bL true a
noncomputable def l4:Nat→List Tp→BT
 |0,_=>.nil
 |_+1,[]=>.nil
 |k+1,b::a=>.node b (l4 k (bL Qp a)) (l4 k (bL Qq a))
noncomputable def pG(a:Rt):List Tp:=[PySem.W.boot_o_0 a,PySem.W.boot_o_1 a,⟨.none,U,(.dict #[fz a "type.__subclasses__.Exception.0" 221 (.int 38 0),fz a "type.__subclasses__.Exception.n" 222 (.int 1 0)] 2),#[]⟩,bq a "law_no0283_01" 1221 117 117,PySem.W.boot_o_4 a,PySem.W.boot_o_5 a,PySem.W.boot_o_6 a,PySem.W.boot_o_7 a,PySem.W.boot_o_8 a,PySem.W.boot_o_9 a,PySem.W.boot_o_10 a,cu [],s2 99,gI "<module>" 182 1 11,ao 13 3 "__main__" 164]++(
 eh "__main__" 164 15 187 [(0,["k"])]++(
 [cu [.type "Exception"],eg "type.__prepare__" (.type "type"),b7 a 5 [("__module__",203,aA "f77.errors" 194),("__qualname__",205,aA "F77Error" 204),("__firstlineno__",207,.int 5 206),("__init__",215,.ref 35),("__static_attributes__",217,.ref 36)],cu [],a1 (cF 4 [(7,34)]),gI "F77Error" 198 5 25,ao 27 24 "f77.errors" 194]++(
 g8 29 208 (bV (H 2) 0) (Y "F77Error.__init__") "f77.errors" 194 .none ["self", "text"]++(
 [cu (fR ["text"] 216),b7 a 3 [("__module__",203,aA "f77.errors" 194),("__firstlineno__",207,.int 5 206),("__init__",215,.ref 35),("__static_attributes__",217,.ref 36),("__weakref__",219,.ref 39),("__doc__",220,.none)],hJ "F77Error" [.type "Exception"] [.ref 38,.type "Exception",.type "BaseException",.type "object"] 37 [.ref 51,.ref 63,.ref 75,.ref 94] (J (.ref 22)) 196 204 "Exception.__new__",k1 218 38,hI 38,eg "object.__init_subclass__" (.ref 38),cu [.ref 38],eg "type.__prepare__" (.type "type"),b7 a 4 [("__module__",232,aA "f77.errors" 194),("__qualname__",234,aA "CheckFault" 233),("__firstlineno__",236,.int 10 235),("__static_attributes__",237,.ref 49)],cu [],a1 (cF 0 []),gI "CheckFault" 227 10 45,ao 47 44 "f77.errors" 194,cu [],b7 a 2 [("__module__",232,aA "f77.errors" 194),("__firstlineno__",236,.int 10 235),("__static_attributes__",237,.ref 49),("__doc__",238,.none)],hJ "CheckFault" [.ref 38] [.ref 51,.ref 38,.type "Exception",.type "BaseException",.type "object"] 50 [] (J (.ref 42)) 225 233 "Exception.__new__",hI 51,eg "object.__init_subclass__" (.ref 51),cu [.ref 38],eg "type.__prepare__" (.type "type"),b7 a 4 [("__module__",248,aA "f77.errors" 194),("__qualname__",250,aA "RunFault" 249),("__firstlineno__",252,.int 12 251),("__static_attributes__",253,.ref 61)],cu [],a1 (cF 0 []),gI "RunFault" 243 12 57,ao 59 56 "f77.errors" 194,cu [],b7 a 2 [("__module__",248,aA "f77.errors" 194),("__firstlineno__",252,.int 12 251),("__static_attributes__",253,.ref 61),("__doc__",254,.none)],hJ "RunFault" [.ref 38] [.ref 63,.ref 38,.type "Exception",.type "BaseException",.type "object"] 62 [] (J (.ref 54)) 241 249 "Exception.__new__",hI 63,eg "object.__init_subclass__" (.ref 63),cu [.ref 38],eg "type.__prepare__" (.type "type"),b7 a 4 [("__module__",264,aA "f77.errors" 194),("__qualname__",266,aA "StopRun" 265),("__firstlineno__",268,.int 14 267),("__static_attributes__",269,.ref 73)],cu [],a1 (cF 0 []),gI "StopRun" 259 14 69,ao 71 68 "f77.errors" 194,cu [],b7 a 2 [("__module__",264,aA "f77.errors" 194),("__firstlineno__",268,.int 14 267),("__static_attributes__",269,.ref 73),("__doc__",270,.none)],hJ "StopRun" [.ref 38] [.ref 75,.ref 38,.type "Exception",.type "BaseException",.type "object"] 74 [] (J (.ref 66)) 257 265 "Exception.__new__",hI 75,eg "object.__init_subclass__" (.ref 75),cu [.ref 38],eg "type.__prepare__" (.type "type"),b7 a 5 [("__module__",280,aA "f77.errors" 194),("__qualname__",282,aA "TooLong" 281),("__firstlineno__",284,.int 16 283),("__init__",292,.ref 91),("__static_attributes__",294,.ref 92)],cu [],a1 (cF 4 [(18,90)]),gI "TooLong" 275 16 81,ao 83 80 "f77.errors" 194]++(
 g8 85 285 (bV (H 6) 0) (Y "TooLong.__init__") "f77.errors" 194 .none ["self", "steps"]++(
 [cu (fR ["steps"] 293),b7 a 2 [("__module__",280,aA "f77.errors" 194),("__firstlineno__",284,.int 16 283),("__init__",292,.ref 91),("__static_attributes__",294,.ref 92),("__doc__",295,.none)],hJ "TooLong" [.ref 38] [.ref 94,.ref 38,.type "Exception",.type "BaseException",.type "object"] 93 [] (J (.ref 78)) 273 281 "Exception.__new__",hI 94,eg "object.__init_subclass__" (.ref 94)]++(
 eh "f77.kinds" 298 97 312 [(14,["kind"])]++(
 [cu [],eg "type.__prepare__" (.type "type"),b7 a 8 [("__module__",332,aA "f77.memory" 319),("__qualname__",334,aA "Memory" 333),("__firstlineno__",336,.int 37 335),("__init__",345,.ref 117),("load",353,.ref 124),("store",362,.ref 131),("undefine",370,.ref 138),("__static_attributes__",373,.ref 139)],cu [],a1 (cF 4 [(39,116),(43,123),(48,130),(54,137)]),gI "Memory" 327 37 107,ao 109 106 "f77.memory" 319]++(
 g8 111 337 (bV (H 18) 0) (Y "Memory.__init__") "f77.memory" 319 .none ["self", "numeric", "characters"]++(
 g8 118 346 (bV (H 18) 1) (Y "Memory.load") "f77.memory" 319 .none ["self", "place"]++(
 g8 125 354 (bV (H 18) 2) (Y "Memory.store") "f77.memory" 319 .none ["self", "place", "value"]++(
 g8 132 363 (bV (H 18) 3) (Y "Memory.undefine") "f77.memory" 319 .none ["self", "place"]++(
 [cu (fR ["characters", "numeric"] 371),b7 a 4 [("__module__",332,aA "f77.memory" 319),("__firstlineno__",336,.int 37 335),("__init__",345,.ref 117),("load",353,.ref 124),("store",362,.ref 131),("undefine",370,.ref 138),("__static_attributes__",373,.ref 139),("__dict__",375,.ref 142),("__weakref__",377,.ref 143),("__doc__",378,.none)],hJ "Memory" [.type "object"] [.ref 141,.type "object"] 140 [] U 325 333 "object.__new__",j6 374 141,k1 376 141,hI 141,eg "object.__init_subclass__" (.ref 141)]++(
 eh "f77.memory" 319 146 381 [(19,["cells", "address", "count"]),(20,["cells", "address", "tag", "cell"]),(21,["cells", "kind", "address", "value"]),(22,["cells", "kind", "address", "value"]),(23,["cells", "address", "length", "signs"]),(24,["cells", "address", "text", "k"]),(25,["text", "length"]),(26,["kind", "length"]),(27,["place", "subscripts", "kind", "address", "length", "dims", "offset", "stride", "k", "low", "high"]),(28,["place", "lo", "hi", "first", "last"])]++(
 eh "f77.ints" 484 216 486 [(30,["n", "width", "most"]),(31,["x", "y", "width"]),(32,["x", "y", "width"]),(33,["x", "y", "width"]),(34,["x", "y", "found"]),(35,["x", "y", "width"]),(36,["x", "n"]),(37,["x", "n", "width", "found", "turn"]),(38,["x", "y"]),(39,["op", "order"]),(40,["op", "kind", "x", "y", "limits"])]++(
 eh "f77.reals" 586 293 588 [(42,["x", "m", "e", "found"])]++(
 eh "f77.counts" 598 300 600 [(44,["value"]),(45,["kind", "first", "last", "step", "operations", "limits", "reckon", "span", "count"])]++(
 [cu [],eg "type.__prepare__" (.type "type"),b7 a 5 [("__module__",631,aA "f77.plainexpr" 622),("__qualname__",633,aA "Run" 632),("__firstlineno__",635,.int 203 634),("__init__",648,.ref 327),("__static_attributes__",664,.ref 328)],cu [],a1 (cF 4 [(205,326)]),gI "Run" 626 203 317,ao 319 316 "f77.plainexpr" 622]++(
 g8 321 636 (bV (H 47) 0) (Y "Run.__init__") "f77.plainexpr" 622 .none ["self", "memory", "limits", "units", "world", "expressions", "statements"]++(
 [cu (fR ["active", "clears", "depth", "expressions", "flows", "frame", "limits", "loops", "memory", "operations", "places", "statements", "steps", "units", "world"] 649),b7 a 4 [("__module__",631,aA "f77.plainexpr" 622),("__firstlineno__",635,.int 203 634),("__init__",648,.ref 327),("__static_attributes__",664,.ref 328),("__dict__",666,.ref 331),("__weakref__",668,.ref 332),("__doc__",669,.none)],hJ "Run" [.type "object"] [.ref 330,.type "object"] 329 [] U 624 632 "object.__new__",j6 665 330,k1 667 330,hI 330,eg "object.__init_subclass__" (.ref 330)]++(
 eh "f77.plainexpr" 622 335 672 [(48,["run", "tree"]),(49,["run", "name", "found"]),(50,["run", "tree"]),(51,["run", "tree", "base", "low"]),(1052,[]),(53,["run", "tree"]),(54,["run", "tree"]),(55,["run", "word", "kind", "left", "right"]),(56,["run", "tree", "left", "right"]),(57,["run", "tree", "left", "right"]),(58,["found", "word"])]++(
 [cu [],eg "type.__prepare__" (.type "type"),b7 a 5 [("__module__",777,aA "f77.flow" 768),("__qualname__",779,aA "Flow" 778),("__firstlineno__",781,.int 269 780),("__init__",788,.ref 423),("__static_attributes__",794,.ref 424)],cu [],a1 (cF 4 [(271,422)]),gI "Flow" 772 269 413,ao 415 412 "f77.flow" 768]++(
 g8 417 782 (bV (H 60) 0) (Y "Flow.__init__") "f77.flow" 768 .none ["self"]++(
 [cu (fR ["block_end", "do_end", "ending", "labels", "next_arm"] 789),b7 a 4 [("__module__",777,aA "f77.flow" 768),("__firstlineno__",781,.int 269 780),("__init__",788,.ref 423),("__static_attributes__",794,.ref 424),("__dict__",796,.ref 427),("__weakref__",798,.ref 428),("__doc__",799,.none)],hJ "Flow" [.type "object"] [.ref 426,.type "object"] 425 [] U 770 778 "object.__new__",j6 795 426,k1 797 426,hI 426,eg "object.__init_subclass__" (.ref 426)]++(
 eh "f77.flow" 768 431 802 [(61,["flow", "label", "at"]),(62,["flow", "blocks", "word", "at", "statements", "arms", "last", "arm"]),(63,["blocks"]),(64,["flow", "loops", "blocks", "label", "at", "target", "start", "arm"]),(65,["statements", "flow", "blocks", "loops", "at", "label", "stmt"]),(66,["value"])]++(
 eh "f77.plainstmt" 866 473 868 [(68,["run", "unit"]),(69,["run", "unit", "at", "stmt"]),(70,["run"]),(71,["run", "unit", "start", "flow", "at", "found"]),(72,["run", "unit", "label", "flow"]),(73,["run", "target", "value"]),(74,["run", "unit", "at", "stmt", "value"]),(75,["run", "name"]),(76,["run", "unit", "at", "stmt"]),(77,["run", "name", "cell"]),(78,[]),(79,["run", "unit", "at", "stmt"]),(80,["run", "unit", "at", "stmt", "number"]),(81,["run", "unit", "at", "stmt", "label"]),(82,["run", "unit", "at", "stmt", "sign"]),(83,["run", "unit", "at", "stmt"]),(84,["run", "unit", "at", "stmt", "flow", "here", "arm"]),(85,["run", "unit", "at", "stmt"]),(86,["run", "unit", "at", "stmt"]),(87,["run", "unit", "at", "stmt", "flow", "kind", "first", "last", "step", "count", "end"]),(88,["run", "unit", "flow", "end", "first", "start", "count", "step", "target", "place"]),(89,["run", "unit", "at", "stmt"]),(90,["run", "unit", "at", "stmt"]),(91,["run", "unit", "at", "stmt"]),(92,[])]++(
 [cu [],eg "type.__prepare__" (.type "type"),b7 a 5 [("__module__",1132,aA "f77.limits" 1123),("__qualname__",1134,aA "Limits" 1133),("__firstlineno__",1136,.int 459 1135),("__init__",1159,.ref 662),("__static_attributes__",1168,.ref 663)],cu [],a1 (cF 4 [(461,661)]),gI "Limits" 1127 459 651,ao 653 650 "f77.limits" 1123,cu [.int 32 1137,.int 7 1138,.int 15 1139,.int 38 1140,.int 1000000 1141,.int 19 1142,.int 72 1143,.int 40 1144]]++(
 g8 656 1145 (bV (H 94) 0) (Y "Limits.__init__") "f77.limits" 1123 (.ref 655) ["self", "width", "real_digits", "double_digits", "top_exponent", "steps", "continuations", "columns", "depth"]++(
 [cu (fR ["columns", "continuations", "depth", "double_digits", "real_digits", "steps", "top_exponent", "width"] 1160),b7 a 4 [("__module__",1132,aA "f77.limits" 1123),("__firstlineno__",1136,.int 459 1135),("__init__",1159,.ref 662),("__static_attributes__",1168,.ref 663),("__dict__",1170,.ref 666),("__weakref__",1172,.ref 667),("__doc__",1173,.none)],hJ "Limits" [.type "object"] [.ref 665,.type "object"] 664 [] U 1125 1133 "object.__new__",j6 1169 665,k1 1171 665,hI 665,eg "object.__init_subclass__" (.ref 665),cu [],eg "type.__prepare__" (.type "type"),b7 a 5 [("__module__",1185,aA "f77.trees" 1176),("__qualname__",1187,aA "UnitTree" 1186),("__firstlineno__",1189,.int 471 1188),("__init__",1198,.ref 683),("__static_attributes__",1213,.ref 684)],cu [],a1 (cF 4 [(473,682)]),gI "UnitTree" 1180 471 673,ao 675 672 "f77.trees" 1176]++(
 g8 677 1190 (bV (H 96) 0) (Y "UnitTree.__init__") "f77.trees" 1176 .none ["self", "kind", "name"]++(
 [cu (fR ["commons", "constants", "datas", "dummies", "entries", "equivs", "formats", "kind", "labels", "name", "result", "saves", "statements", "symbols"] 1199),b7 a 4 [("__module__",1185,aA "f77.trees" 1176),("__firstlineno__",1189,.int 471 1188),("__init__",1198,.ref 683),("__static_attributes__",1213,.ref 684),("__dict__",1215,.ref 687),("__weakref__",1217,.ref 688),("__doc__",1218,.none)],hJ "UnitTree" [.type "object"] [.ref 686,.type "object"] 685 [] U 1178 1186 "object.__new__",j6 1214 686,k1 1216 686,hI 686,eg "object.__init_subclass__" (.ref 686),⟨(.type "list"),U,(.seq #[aA "A" 1223,aA "B" 1224,aA "C" 1225,aA "I" 1226,aA "J" 1227,aA "K" 1228] 0),#[]⟩]++(
 eh "law_no0283_01" 1221 692 1230 [(99,["pool", "many", "at"]),(100,["pool"]),(101,["pool"]),(102,["pool"]),(103,["pool", "sort"]),(104,["pool", "depth", "exits", "mark", "first", "last", "step", "is_pair", "body", "inner", "ends", "inside", "loop"]),(1105,[]),(106,["pool", "depth", "exits", "size", "parts", "k"]),(107,["k"]),(108,["n"]),(109,["cond"]),(110,["part", "word", "target", "sort", "source", "number"]),(111,["parts", "out", "marks", "pool", "part", "word", "label"]),(112,["part", "out", "marks", "pool", "word", "cond", "body"]),(113,["part", "out", "marks", "pool", "label", "word", "mark", "var", "first", "last", "step", "body", "term", "inner", "own", "behind"]),(1114,[]),(115,["cond", "state", "x", "y"]),(116,["part", "state", "word", "target", "sort", "source", "number"]),(117,["parts", "state", "part", "word", "signal", "chosen", "cond", "body", "x"]),(118,["part", "state", "word", "mark", "var", "first", "last", "step", "body", "term", "inner", "rounds", "here", "k", "signal"]),(1119,[])]))))))))))))))))))))))))))))))))
noncomputable def zT(a:Rt):List Tp:=[PySem.W.boot_o_0 a,PySem.W.boot_o_1 a,PySem.W.boot_o_2 a,PySem.W.boot_o_3 a,PySem.W.boot_o_4 a,PySem.W.boot_o_5 a,PySem.W.boot_o_6 a,PySem.W.boot_o_7 a,PySem.W.boot_o_8 a,PySem.W.boot_o_9 a,PySem.W.boot_o_10 a,cu [],a1 [],gI "<module>" 182 1 11,ao 13 3 "__main__" 164]
noncomputable def zU(a:Rt):List Tp:=((((pG a).take 410).set 3 (bq a "f77.flow" 768 61 61)).set 12 (s2 44))
noncomputable def zV(a:Rt):BT:=l4 12 (zT a)
noncomputable def zW(a:Rt):BT:=l4 12 (zU a)
noncomputable def zX(a:Rt):BT:=l4 12 (pG a)
end Hd
open Hd
noncomputable def j7:Sj:={scope:=dm.main.scope,locals:=mainNs,globals:=mainNs,cells:=[],code:=.ref 13,frame:=J 14}
noncomputable abbrev j8:List RU:=behindTheImports dm
noncomputable abbrev eI:Code:=.body j8 j7
noncomputable abbrev eV:Si:=⟨0,0,0,0⟩
noncomputable abbrev nl:Si:=⟨268,0,268,8⟩
noncomputable abbrev nm:Si:=⟨689,0,715,72⟩
noncomputable abbrev hK:List Frame:=[topFrame eV]
noncomputable abbrev gJ:Option Qk:=J (.ref 6)
noncomputable abbrev hL(a:Rt)(b:Sk):Ql:=⟨SY a,#[],R2,boot_toks,b⟩
noncomputable abbrev jk(a:Rt)(b:Sk):SharedT:=⟨zV a,15,{},#[],R2,187,b⟩
noncomputable abbrev nn(a:Rt)(b:Sk):SharedT:=⟨zW a,410,{},#[],R2,770,b⟩
noncomputable abbrev nq(a:Rt)(b:Sk):SharedT:=⟨zX a,833,{},#[],R2,1457,b⟩
noncomputable def al(a:Rt):Q9:=⟨⟨pG a⟩,{}⟩
noncomputable def pH:List RU:=j8.take 60
noncomputable def nr:List RU:=j8.drop 60
theorem zY(a:QV)(b:Sk):PySem.W.Fast.tw15667345088766844465 RC dm a 11 gJ 12 (hL a.params b) (topStub dm)=J ((jk a.params b).abs,⟨PySem.W.Fast.tw11892475500146522536 RC eI,eI,eV,hK⟩):=by kernel_rfl
set_option tactic.hygienic true in
theorem zZ(a:QV)(b:Sk):Um RC dm a 11 gJ 1 2976 (jk a.params b) (U7 pH j7 eI eV hK)=J (.next,nn a.params b,eI,nl):=by kernel_rfl
set_option tactic.hygienic true in
theorem z0(a:QV)(b:Sk):Um RC dm a 11 gJ 1 2443 (nn a.params b) (U7 nr j7 eI nl hK)=J (.next,nq a.params b,eI,nm):=by kernel_rfl
set_option tactic.hygienic true in
theorem z1(a:QV)(b:Sk):PySem.W.Fast.tw14374325043358763698 RC dm a 11 gJ 1 1 (jk a.params b).abs (blockOf j8 j7 eI eV hK)=J (.next,(jk a.params b).abs,eI,eV):=by kernel_rfl
set_option tactic.hygienic true in
theorem z2(a:QV)(b:Sk):PySem.W.Fast.tw14082659384304107361 RC dm a 11 gJ 2 (nq a.params b).abs ⟨doneF .next,eI,nm,hK⟩=J ⟨al a.params,#[],R2,1457,b⟩:=by kernel_rfl
theorem z3(a:QV)(b:Sk):topGo Tt dm a 11 gJ 12 (hL a.params b) (topStub dm)=J ((jk a.params b).abs,⟨denote Tt eI,eI,eV,hK⟩):=by
 rw [PySem.W.Fast.te15667345088766844465,RS,PySem.W.Fast.te11892475500146522536];exact zY a b
set_option tactic.hygienic true in
theorem nt(a:QV)(b:Sk):segRunT Tt dm a 11 gJ 1 2976 (jk a.params b) (U7 pH j7 eI eV hK)=J (.next,nn a.params b,eI,nl):=by
 rw [Un,RS];exact zZ a b
set_option tactic.hygienic true in
theorem pI(a:QV)(b:Sk):segRunT Tt dm a 11 gJ 1 2443 (nn a.params b) (U7 nr j7 eI nl hK)=J (.next,nq a.params b,eI,nm):=by
 rw [Un,RS];exact z0 a b
set_option tactic.hygienic true in
theorem z4(a:QV)(b:Sk):segRun Tt dm a 11 gJ 1 1 (jk a.params b).abs (blockOf j8 j7 eI eV hK)=J (.next,(jk a.params b).abs,eI,eV):=by
 rw [PySem.W.Fast.te14374325043358763698,RS];exact z1 a b
set_option tactic.hygienic true in
theorem z5(a:QV)(b:Sk):topRun Tt dm a 11 gJ 2 (nq a.params b).abs ⟨doneF .next,eI,nm,hK⟩=J ⟨al a.params,#[],R2,1457,b⟩:=by
 rw [PySem.W.Fast.te14082659384304107361,RS];exact z2 a b
theorem z6(a:QV)(b:Sk):topRun Tt dm a 11 gJ (12+(1+(2976+(2443+2)))) (hL a.params b) (topStub dm)=J ⟨al a.params,#[],R2,1457,b⟩:=by
 refine go_top (z3 a b) (piece_block (z4 a b) ?_);have d:j8=pH++(nr++[]):=by
  rw [RI];exact(List.take_append_drop 60 j8).symm
 have e:=piece_app (rest:=[]) (segRun_of (pI a b)) (piece_nil (z5 a b));have c:=piece_app (rest:=nr++[]) (segRun_of (nt a b)) e;rw [←d]at c;exact c
noncomputable def jl:QG:={dm with main:={dm.main with body:=dm.main.body.drop 119}}
noncomputable def jm:List QA:=[Y "_wall",Y "F77Error",Y "CheckFault",Y "RunFault",Y "StopRun",Y "TooLong",Y "INTEGER",Y "REAL",Y "DOUBLE",Y "COMPLEX",Y "LOGICAL",Y "CHARACTER",Y "units_of",Y "SECOND",Y "LABEL",Y "Memory",Y "need_units",Y "read_cell",Y "load_number",Y "store_number",Y "load_text",Y "store_text",Y "pad",Y "unit_size",Y "element_place",Y "sub_place",Y "fit_int",Y "int_add",Y "int_sub",Y "int_mul",Y "cut_quotient",Y "int_div",Y "inverse_power",Y "int_power",Y "order_of",Y "holds",Y "int_binary",Y "real_to_int",Y "is_zero",Y "trip_count",Y "Run",Y "evaluate",Y "named_place",Y "bound_of",Y "part_place",Y "place_of",Y "eval_const",Y "eval_place",Y "reckon",Y "eval_binary",Y "eval_compare",Y "plain_expressions",Y "Flow",Y "note_label",Y "note_arm",Y "open_arm",Y "note_ends",Y "flow_of",Y "sign_of",Y "flow_for",Y "execute",Y "count_step",Y "run_unit",Y "jump_to",Y "store_value",Y "do_assign",Y "label_place",Y "do_setlabel",Y "label_in",Y "assign_statements",Y "do_goto",Y "do_cgoto",Y "do_agoto",Y "do_aif",Y "do_lif",Y "do_if",Y "do_arm",Y "do_on",Y "do_do",Y "step_loops",Y "do_return",Y "do_end",Y "do_stop",Y "control_statements",Y "Limits",Y "UnitTree",Y "_law_names",Y "_law_draw",Y "_law_fresh",Y "_law_set",Y "_law_cond",Y "_law_term",Y "_law_do",Y "_law_part",Y "_law_body",Y "_law_var",Y "_law_const",Y "_law_test",Y "_law_plain",Y "_law_lay",Y "_law_lay_if",Y "_law_lay_do",Y "_law_lay_switch",Y "_law_holds",Y "_law_do_plain",Y "_law_run",Y "_law_loop"]
noncomputable abbrev z7:RowW:=Ru.row.toRowW
noncomputable abbrev aB(a:RU):Si:=match a with|.FunctionDef _ _ _ _ _ _ _ _ _ b=>b|_=>eV
noncomputable abbrev gK(a:RU):Arguments:=match a with|.FunctionDef _ b _ _ _ _ _ _ _ _=>b|_=>default
noncomputable abbrev g9(a:RU):List RU:=match a with|.FunctionDef _ _ b _ _ _ _ _ _ _=>b|_=>default
noncomputable abbrev eJ(a:RU):Ri:=match a with|.FunctionDef _ _ _ _ _ _ b _ _ _=>b|_=>default
noncomputable def pJ:DefRec:=⟨"law",gK (H 119),g9 (H 119),eJ (H 119),aB (H 119)⟩
theorem z8:PySem.W.Fast.tw9446332074065402090 Ru=Qp:=by kernel_rfl
theorem bm:Ru.wellSaid=Qp:=(congrFun PySem.W.Fast.te9446332074065402090 _).trans z8
theorem s3:Ru.row.wellSaid=Qp:=row_said bm
theorem z9:∀b:QV,(fencedOpening Tt dm b 20000).map (λa=>(a.heap,a.gens,a.drawn,a.toks))=J (SY b.params,#[],R2,boot_toks):=
 boot_open tb_g% (by decide+kernel) (λa=>by kernel_rfl)
theorem Aa:∀a:QV,((SY a.params).isNs SH&&(#[]:Array GenState).size==0,(SY a.params).objs.size,(SY a.params).nsMap SH "__annotations__")=(Qp,11,gJ):=λa=>by kernel_rfl
theorem Ab(a:QV):staticsOk (U5 dm.main.body) (SY a.params) (al a.params)=Qp:=by kernel_rfl
theorem Ac(a:QV):namesBound dm (al a.params)=Qp:=by kernel_rfl
theorem Ad(a:QV)(b:Sk):gensDone ⟨al a.params,#[],R2,1457,b⟩=Qp:=by kernel_rfl
theorem Ae(a:QV):laidKept (SY a.params) (al a.params)=Qp:=by kernel_rfl
theorem Af(a:QV)(b:Sk):PySem.W.Fast.tw4187177175401517315 jl jm (U5 dm.main.body) (λZ=>Qp) Qp ⟨al a.params,#[],R2,1457,b⟩=openGood jl jm:=by kernel_rfl
theorem Ag(a:QV)(b:Sk):openSeen jl jm (U5 dm.main.body) (λZ=>Qp) Qp ⟨al a.params,#[],R2,1457,b⟩=openGood jl jm:=by
 rw [PySem.W.Fast.te4187177175401517315];exact Af a b
theorem s4:LeftO dm jl jm (λZ=>Qp) (λb=>b.heap) (λa=>al a.params) 20000:=
 LeftO.of_pieces (H₀:=SY) (H₁:=al) (gs₀:= #[]) (gs₁:= #[]) z9 Aa z6 (by decide+kernel) (λa=>by
  funext os;rw [Ab,Ac,Ad,Ae,Ag];rfl)
noncomputable def s5(c:QV)(d:Q9):Prop:=∀a b,(al c.params).get? a=J b→d.get? a=J b
theorem KR(f:WalkO jl jm (λZ Z=>True) s5 z7 pJ [] λg h=>TE g h):Ru.Holds:=by
 refine⟨bm,holds_open (r:=Ru.row) (q:=jl) (loose:=jm) (Xt:=λZ=>Qp) (XP:=λZ Z=>True) (d:=pJ) (kwd:=[]) (YP:=s5)
  s4 (λd i a b c e=>by rw [show i.heap=al d.params from a];exact e) (λd e l j k b c a=>k b c (j b c a)) (λZ Z=>trivial) (λZ Z Z Z Z=>trivial) tb_g% tb_g% tb_g%
  (λZ Z=>recFacts_nil rfl) tb_g% s3 (by decide+kernel) ⟨rfl,rfl,rfl,rfl,rfl,by decide+kernel⟩ ?_ f⟩
 exact⟨[.list []],by decide+kernel,by decide+kernel⟩
section
variable{d M MP:Ql}{r:QN}{y M4:Sj}{i hc MV a9 MT ua:Qo}{A cl:Qk}{h u ho MU:Q9}{a:QV}{b hv:QG}{s ud q M5 be:Qy}{l2 as Na:Si}{C z T l1:Nat}{it:Q3}{lb M9 Nb:QA→Option Qk}{hx B ht o:Qk→Ql→Prop}{j:QA}{G MX:List Qk}{l M8:Bool}{O:List Qy}{MR MY:List Nat}{MM MW:Ri}{MS:List QI}{MZ:QS}{aB Nd:List QA}{M1:List (Nat×Nat)}{u4:QR}{M6:QJ}{MO:List (Option Qy)}{a2:QF}{no:Q8→Ql→Prop}{u5 MQ Nf MN:Type}
set_option genCtorIdx true in
inductive V where
 |none|bool (l:Bool)|int (z:Int)|str (d:Str)
 |NS (p:Value)
 |tup (v:List V)|lst (v:List V)
 |ref (i:Addr)
 |inst (hc ua i:Addr)
 deriving Inhabited
noncomputable abbrev am:=Int⊕QA
noncomputable abbrev ai:=List am
noncomputable def V.Ob:V→Option am
 |.int T=>J (.inl T)
 |.str j=>J (.inr j)
 |_=>U
noncomputable def fg(a:u5→Option MQ):List u5→Option (List MQ)
 |[]=>J []
 |i::b2=>(a i).bind λl=>(fg a b2).map (l::·)
noncomputable def cZ(a:List V):Option ai:=fg V.Ob a
noncomputable def V.Oz:V→Option ai
 |.tup v=>cZ v
 |_=>U
noncomputable abbrev cm(a:Option u5)(b:u5→Prop):Prop:=∃i,a=J i∧b i
noncomputable def c5(a:Bool)(b c:Prop):Prop:=(a=Qp→b)∧(a=Qq→c)
noncomputable def dB(a:V)(b:Int→Prop):Prop:=match a with
 |.int z=>b z
 |_=>False
noncomputable def j9(a:V)(b:List V→Prop):Prop:=match a with
 |.lst v=>b v
 |_=>False
set_option genCtorIdx true in
inductive aK where
 |list (v:List V)
 |dict (O:List (am×V))
 |N5 (O:List (ai×V))
 |ns (u3:List (Str×V))
noncomputable abbrev I:=Qo→Option aK
noncomputable def I.set(a:I)(b:Qo)(c:aK):I:=λl=>if l=b then J c else a l
noncomputable def I.del(a:I)(b:Qo):I:=λl=>if l=b then U else a l
section
variable[DecidableEq MN]
noncomputable def bC(a:MN)(b:V):List (MN×V)→List (MN×V)
 |[]=>[(a,b)]
 |s::E=>if s.1=a then(s.1,b)::E else s::bC a b E
noncomputable def iH(a:MN):List (MN×V)→List (MN×V)
 |[]=>[]
 |s::E=>if s.1=a then E else s::iH a E
noncomputable def bA(a:MN):List (MN×V)→Option V
 |[]=>U
 |s::E=>if s.1=a then J s.2 else bA a E
theorem hM(b:MN)(c:V)(a:MN×V)(d:List (MN×V)):bC b c (a::d)=if a.1=b then(a.1,c)::d else a::bC b c d:=rfl
theorem nu(a:MN)(b:MN×V)(c:List (MN×V)):iH a (b::c)=if b.1=a then c else b::iH a c:=rfl
theorem ha(a:MN)(b:MN×V)(c:List (MN×V)):bA a (b::c)=if b.1=a then J b.2 else bA a c:=rfl
end
noncomputable def fh(a:QA)(b:V):List (QA×V)→List (QA×V)
 |[]=>[(a,b)]
 |s::E=>if s.1=a then(s.1,b)::E else s::fh a b E
theorem pK(b:QA)(c:V)(a:QA×V)(d:List (QA×V)):fh b c (a::d)=if a.1=b then(a.1,c)::d else a::fh b c d:=rfl
set_option genCtorIdx true in
inductive dP where
 |add|sub|mul|fdiv|mod|shl
 deriving DecidableEq
inductive aa where
 |k (p:V)
 |v (z:Nat)
 |bin (q:dP) (i l:aa)
 |neg (i:aa)|not (i:aa)
 |Oe (w i l:aa)
 |and (b2:List aa)|or (b2:List aa)
 |cmp (i:aa) (Nk:List CmpOp) (Nh:List aa)
 |call (f:aa) (MJ:List aa)
 |NY (q:aa) (Np:Str) (MJ:List aa)
 |attr (q:aa) (Np:Str)
 |sub (i z:aa)
 |O2 (i:aa) (lo hi:Option aa)
 |tup (b2:List aa)|lst (b2:List aa)
 |Of (b2:List aa)
 |comp (M5:aa) (MY:List Nat) (M8:Bool) (rng:Bool) (M2:aa) (M1:List (Nat×Nat)) (size:Nat)
inductive bH where
 |name (z:Nat)
 |attr (q:aa) (Np:Str)
 |item (q z:aa)
 |tup (b2:List Nat)
inductive bo where
 |over (s:aa)|range (s:aa)|rev (s:aa)
inductive N where
 |ret (s:Option aa)
 |asg (D:bH) (s:aa)
 |aug (D:bH) (q:dP) (s:aa)
 |iff (w:aa) (i l:List N)
 |O3 (w:aa) (l:List N)
 |fr (D:bH) (M2:bo) (l:List N)
 |expr (s:aa)
 |raise
 |bad
 |try(l u:List N)
 |cont|pass
set_option genCtorIdx true in
inductive l5 where
 |NX|Ow|N9 (p:V)
noncomputable abbrev aD:=V→I→Prop
noncomputable abbrev aV:=I→Prop
noncomputable abbrev aR:=V→List V→aD→aV→I→Prop
noncomputable abbrev aq:=List (Option V)
noncomputable abbrev bF:=l5→aq→I→Prop
noncomputable abbrev bt:=aq→I→Prop
structure aY where
 OB:List Nat
 dflt:List V
 size:Nat
 body:List N
structure aO where
 fn:Addr→Option aY
 init:Addr→Option Addr
 NY:Addr→Str→Option Addr
 fld:Addr→Str→Bool
noncomputable def a4:Nat:=1000000
noncomputable def cA(a:Int):Prop:= -4611686018427387904<a∧a<4611686018427387904
noncomputable def gj(a:Option aK):Option Bool:=match a with
 |some (.list v)=>some (!v.isEmpty)
 |_=>U
noncomputable def pL(a:V)(b:I):Option Bool:=match a with
 |.none=>J Qq
 |.bool l=>J l
 |.int z=>J (decide (z≠0))
 |.lst v=>J (!v.isEmpty)
 |.ref i=>gj (b i)
 |_=>U
noncomputable def Ah(a:List V):Option (List ai):=fg V.Oz a
noncomputable def s6:V→Option Bool
 |.none=>J Qp
 |_=>U
noncomputable def s7(a:Bool):V→Option Bool
 |.bool l=>J (a==l)
 |_=>U
noncomputable def s8(a:Int):V→Option Bool
 |.int l=>J (decide (a=l))
 |_=>U
noncomputable def s9(a:QA):V→Option Bool
 |.str l=>J (decide (a=l))
 |_=>U
noncomputable def l6(a b:List V):Option Bool:=(cZ a).bind λi=>(cZ b).map λl=>decide (i=l)
noncomputable def ta(a:List V):V→Option Bool
 |.tup MX=>l6 a MX
 |_=>U
noncomputable def pM(a:List V):V→Option Bool
 |.lst MX=>l6 a MX
 |_=>U
noncomputable def ka(b a:V):Option Bool:=match b with
 |.none=>s6 a
 |.bool j=>s7 j a
 |.int j=>s8 j a
 |.str j=>s9 j a
 |.tup u2=>ta u2 a
 |.lst u2=>pM u2 a
 |_=>U
noncomputable def tb(a:Option am)(b:Option ai)(c:List V):Option Bool:=match a with
 |some a=>(cZ c).map λb=>b.any λc2=>decide (c2=a)
 |U=>b.bind λa=>(Ah c).map λb=>b.any λc2=>decide (c2=a)
noncomputable def gL(a:V)(b:List V):Option Bool:=tb a.Ob a.Oz b
noncomputable def bW(a:List V)(b:Int):Option V:=if 0≤b then a[b.toNat]?else if 0≤b+a.length then a[(b+a.length).toNat]?else U
noncomputable def gk(b:List V)(a:Int)(c:V):Option (List V):=if 0≤a∧a<b.length then J (b.set a.toNat c)else U
noncomputable def eW(a:List V)(o:aD)(b:I):Prop:=a.length≤a4∧((∀i,b i=U→o (.ref i) (b.set i (.list a)))∨o (.lst a) b)
noncomputable def tc(b:V)(o:aD)(a:I):Prop:=o b a∨∃i v,b=.ref i∧a i=J (.list v)∧o (.lst v) (a.del i)
noncomputable def td(c a:V)(o:aD)(b:I):Prop:=match c with
 |.int j=>dB a λc2=>o (.int (j+c2)) b
 |.lst u2=>j9 a λMX=>eW (u2++MX) o b
 |_=>False
noncomputable def te(c a:V)(o:aD)(b:I):Prop:=match c with
 |.int j=>dB a λc2=>cA j∧o (.int (j*c2)) b
 |.lst u2=>dB a λT=>0≤T∧T≤64∧eW (List.flatten (Q6 T.toNat u2)) o b
 |_=>False
noncomputable def fA(d:dP)(a b:V)(o:aD)(c:I):Prop:=match d with
 |.add=>td a b o c
 |.sub=>dB a λj=>dB b λc2=>o (.int (j-c2)) c
 |.mul=>te a b o c
 |.fdiv=>dB a λj=>dB b λc2=>0<c2∧c2<1000000000∧o (.int (j/c2)) c
 |.mod=>dB a λj=>dB b λc2=>0<c2∧o (.int (j%c2)) c
 |.shl=>dB a λj=>dB b λc2=>j=1∧0≤c2∧c2<62∧o (.int (2^c2.toNat)) c
noncomputable def jn(a:dP)(b c:V)(o:aD)(d:I):Prop:=match a with
 |.add=>dB b λj=>dB c λc2=>o (.int (j+c2)) d
 |_=>False
noncomputable def k2(a:Int→Int→Bool)(b c:V):Option Bool:=match b with
 |.int j=>(match c with
  |.int c2=>J (a j c2)
  |_=>U)
 |_=>U
noncomputable def k3(a:V):Bool:=match a with
 |.none=>Qp
 |_=>Qq
noncomputable def iI(a:V):Option Bool:=match a with
 |.none=>J Qp
 |.NS _=>U
 |_=>J Qq
noncomputable def fi(a:QA):List (QA×V)→Option V
 |[]=>U
 |s::E=>if s.1=a then J s.2 else fi a E
theorem tf(a:QA)(b:QA×V)(c:List (QA×V)):fi a (b::c)=if b.1=a then J b.2 else fi a c:=rfl
noncomputable def k4(a:V)(b:Option aK):Option Bool:=match b with
 |some (.dict O)=>a.Ob.map λa2=>(bA a2 O).isSome
 |some (.N5 O)=>a.Oz.map λa2=>(bA a2 O).isSome
 |_=>U
noncomputable def l7(a b:V)(c:I):Option Bool:=match b with
 |.tup v=>gL a v
 |.lst v=>gL a v
 |.ref i=>k4 a (c i)
 |_=>U
noncomputable def k5(a:V)(b:Option aK):V:=match b with
 |some (.list v)=>.lst v
 |_=>a
noncomputable def dQ(p:V)(a:I):V:=match p with
 |.ref i=>k5 (.ref i) (a i)
 |p=>p
noncomputable def pN(a b:V):Option Bool:=match b with
 |.none=>iI a
 |_=>U
noncomputable def kb(d:Q5)(a b:V)(c:I):Option Bool:=match d with
 |.Eq=>ka (dQ a c) (dQ b c)
 |.NotEq=>(ka (dQ a c) (dQ b c)).map (!·)
 |.In=>l7 a b c
 |.NotIn=>(l7 a b c).map (!·)
 |.Is=>pN a b
 |.IsNot=>(pN a b).map (!·)
 |.Lt=>k2 (λj c2=>decide (j<c2)) a b
 |.LtE=>k2 (λj c2=>decide (j≤c2)) a b
 |.Gt=>k2 (λj c2=>decide (j>c2)) a b
 |.GtE=>k2 (λj c2=>decide (j≥c2)) a b
noncomputable def co(b:Q5)(c d:V)(e:Bool→I→Prop)(a:I):Prop:=∃E,kb b c d a=J E∧e E a
noncomputable def gM(b:V)(c:Bool→I→Prop)(a:I):Prop:=∃l,pL b a=J l∧c l a
noncomputable def nv(a:List V)(b:V)(o:aD)(c:I):Prop:=dB b λa2=>cm (bW a a2) λp=>o p c
noncomputable def nw(c:Option aK)(a:V)(o:aD)(b:I):Prop:=match c with
 |some (.list v)=>nv v a o b
 |some (.dict O)=>cm (a.Ob.bind λa2=>bA a2 O) λp=>o p b
 |some (.N5 O)=>cm (a.Oz.bind λa2=>bA a2 O) λp=>o p b
 |_=>False
noncomputable def hb(c b:V)(o:aD)(a:I):Prop:=match c with
 |.tup v=>nv v b o a
 |.lst v=>nv v b o a
 |.ref i=>nw (a i) b o a
 |_=>False
noncomputable def tg(a:List V):V→Option (List V)
 |.int u=>if 0≤u∧u≤a4 then J (a.take u.toNat)else U
 |_=>U
noncomputable def th(a:List V):V→Option (List V)
 |.int b2=>if 0≤b2∧b2≤a4 then J (a.drop b2.toNat)else U
 |_=>U
noncomputable def j5(a:List V)(lo b:Option V):Option (List V):=match lo with
 |U=>(match b with
  |some u=>tg a u
  |U=>U)
 |some b2=>(match b with
  |some _=>U
  |U=>th a b2)
noncomputable def nx(b:V)(lo c:Option V)(o:aD)(a:I):Prop:=j9 (dQ b a) λv=>cm (j5 v lo c) λG=>eW G o a
noncomputable def l8(a:V):Bool:=match a with
 |.NS _=>Qq
 |_=>Qp
noncomputable def l9(a:Option aK)(b:List (QA×V)→Prop):Prop:=match a with
 |some (.ns u3)=>b u3
 |_=>False
noncomputable def cB(c:aO)(d:V)(a:QA)(o:aD)(b:I):Prop:=match d with
 |.inst hc ua _=>l9 (b ua) λu3=>cm (fi a u3) λp=>c.fld hc a=Qp∧l8 p=Qp∧o p b
 |_=>False
noncomputable def hN(c:aO)(d:V)(a:QA)(e:V)(o:I→Prop)(b:I):Prop:=match d with
 |.inst hc ua _=>l9 (b ua) λu3=>c.fld hc a=Qp∧u3.length≤100∧o (b.set ua (.ns (fh a e u3)))
 |_=>False
noncomputable def ny(e:Option aK)(a:Qo)(b c:V)(o:I→Prop)(d:I):Prop:=match e with
 |some (.list v)=>dB b λa2=>cm (gk v a2 c) λG=>o (d.set a (.list G))
 |some (.dict O)=>cm b.Ob λa2=>O.length<a4∧o (d.set a (.dict (bC a2 c O)))
 |some (.N5 O)=>cm b.Oz λa2=>O.length<a4∧o (d.set a (.N5 (bC a2 c O)))
 |_=>False
noncomputable def iJ(b c d:V)(o:I→Prop)(a:I):Prop:=match b with
 |.ref i=>ny (a i) i c d o a
 |_=>False
noncomputable def pO(a:QA):Option String:=if a=("append" :QA)then J "list.append" else if a=("pop" :QA)then J "list.pop" else if a=("index" :QA)then J "list.index" else U
noncomputable def ma(a:QA):Option String:=if a=("get" :QA)then J "dict.get" else if a=("pop" :QA)then J "dict.pop" else if a=("update" :QA)then J "dict.update" else U
noncomputable def ti(a:aO)(hc:Qo)(b:QA)(c:V)(d:Option V):Option (V×List V):=by cases d with
 |some p=>exact U
 |none=>exact(a.NY hc b).map λe=>(.NS (.ref e),[c])
noncomputable def nz(b:aO)(hc:Qo)(a:QA)(c:V)(d:Option aK):Option (V×List V):=match d with
 |some (.ns u3)=>ti b hc a c (fi a u3)
 |_=>U
noncomputable def pP(a:QA)(b:V)(c:Option aK):Option (V×List V):=match c with
 |some (.list _)=>(pO a).map λid=>(.NS (.builtin id),[b])
 |some (.dict _)=>(ma a).map λid=>(.NS (.builtin id),[b])
 |some (.N5 _)=>(ma a).map λid=>(.NS (.builtin id),[b])
 |_=>U
noncomputable def pQ(d:aO)(a:V)(b:QA)(c:I):Option (V×List V):=match a with
 |.inst hc ua _=>nz d hc b a (c ua)
 |.ref i=>pP b a (c i)
 |_=>U
noncomputable def gl(b:aO)(c:V)(d:QA)(e:I)(f:V→List V→Prop):Prop:=∃a first,pQ b c d e=J (a,first)∧f a first
noncomputable def b9(a:Int):List V:=(R4 a.toNat).map λ(z:Nat)=>V.int (SF z)
noncomputable def pR:V→Option (List V)
 |.int T=>if 0≤T∧T≤a4 then J (b9 T)else U
 |_=>U
noncomputable def Ai:V→Option (List V)
 |.lst v=>J v
 |.tup v=>J v
 |_=>U
noncomputable def hO(b:Bool)(a:V)(c:I):Option (List V):=match b with
 |true=>pR a
 |false=>Ai a
noncomputable def fB:List Nat→List V→aq→Option aq
 |[],[],t=>J t
 |z::MR,p::v,t=>fB MR v (t.set z (J p))
 |_,_,_=>U
noncomputable def kc(d:Bool)(a:List Nat)(b:V)(c:aq):Option aq:=match d with
 |true=>fB a [b] c
 |false=>(match b with
  |.tup v=>fB a v c
  |_=>U)
noncomputable def gN(a:List (Nat×Nat))(b:Nat)(c:aq):aq:=a.foldl (λE as=>E.set as.1 ((c[as.2]?).join)) (Q6 b U)
noncomputable def fS(b:aq→aD→aV→I→Prop)(d:Bool)(e:List Nat)(f:aq):List V→List V→aD→aV→I→Prop
 |[],a,o,_,c=>eW a o c
 |j::u2,a,o,B,c=>cm (kc d e j f) λm2=>b m2 (λp fw=>fS b d e f u2 (a++[p]) o B fw) B c
noncomputable def k6:List V→List (V×V)
 |i::l::E=>(i,l)::k6 E
 |_=>[]
noncomputable def nA(a:List (V×V)):Option (List (am×V)):=fg (λas=>as.1.Ob.map λa2=>(a2,as.2)) a
noncomputable def mb(b:List (V×V))(o:aD)(a:I):Prop:=cm (nA b) λO=>O.length≤16∧(O.map (·.1)).Nodup∧((∀i,a i=U→o (.ref i) (a.set i (.dict O)))∨(O=[]∧∀i,a i=U→o (.ref i) (a.set i (.N5 []))))
section
variable(x:aO)(w:aR)
mutual
noncomputable def av:aa→aq→aD→aV→I→Prop
 |.k p,_,o,_,c=>o p c
 |.v z,t,o,_,c=>cm (t[z]?).join λp=>tc p o c
 |.bin q i l,t,o,B,c=>av i t (λj bl=>av l t (λc2 a=>fA q j c2 o a) B bl) B c
 |.neg i,t,o,B,c=>av i t (λj bl=>dB j λz=>o (.int (-z)) bl) B c
 |.not i,t,o,B,c=>av i t (λj bl=>gM j (λl a=>o (.bool (!l)) a) bl) B c
 |.Oe D i l,t,o,B,c=>bN D (av D t) t (λE bl=>c5 E (av i t o B bl) (av l t o B bl)) B c
 |.and b2,t,o,B,c=>kd b2 t o B c
 |.or b2,t,o,B,c=>iK b2 t o B c
 |.cmp i Nk Nh,t,o,B,c=>av i t (λj bl=>iL j Nk Nh t (λE a=>o (.bool E) a) B bl) B c
 |.call b u3,t,o,B,c=>av b t (λg bl=>d0 u3 t (λv a=>w g v o B a) B bl) B c
 |.NY q T u3,t,o,B,c=>av q t (λd bl=>gl x d T bl (λb first=>d0 u3 t (λv a=>w b (first++v) o B a) B bl)) B c
 |.attr q T,t,o,B,c=>av q t (λd bl=>cB x d T o bl) B c
 |.sub i z,t,o,B,c=>av i t (λe bl=>av z t (λf a=>hb e f o a) B bl) B c
 |.O2 i lo h,t,o,B,c=>av i t (λe bl=>ke lo t (λb2 a=>ke h t (λu k=>nx e b2 u o k) B a) B bl) B c
 |.tup b2,t,o,B,c=>d0 b2 t (λv bl=>o (.tup v) bl) B c
 |.lst b2,t,o,B,c=>d0 b2 t (λv bl=>eW v o bl) B c
 |.Of b2,t,o,B,c=>d0 b2 t (λv bl=>mb (k6 v) o bl) B c
 |.comp M5 MY M8 m M2 M1 n,t,o,B,c=>av M2 t (λf bl=>cm (hO m f bl) λv=>fS (λm2 ht hx fw=>av M5 m2 ht hx fw) M8 MY (gN M1 n t) v [] o (λr=>False) bl) B c
noncomputable def d0:List aa→aq→(List V→I→Prop)→aV→I→Prop
 |[],_,o,_,c=>o [] c
 |s::O,t,o,B,c=>av s t (λp bl=>d0 O t (λv a=>o (p::v) a) B bl) B c
noncomputable def ke:Option aa→aq→(Option V→I→Prop)→aV→I→Prop
 |U,_,o,_,c=>o U c
 |some s,t,o,B,c=>av s t (λp bl=>o (some p) bl) B c
noncomputable def kd:List aa→aq→aD→aV→I→Prop
 |[],_,_,_,_=>False
 |[j],t,o,B,c=>av j t o B c
 |j::c2::E,t,o,B,c=>av j t (λp bl=>gM p (λl a=>c5 l (kd (c2::E) t o B bl) (o p bl)) bl) B c
noncomputable def iK:List aa→aq→aD→aV→I→Prop
 |[],_,_,_,_=>False
 |[j],t,o,B,c=>av j t o B c
 |j::c2::E,t,o,B,c=>av j t (λp bl=>gM p (λl a=>c5 l (o p bl) (iK (c2::E) t o B bl)) bl) B c
noncomputable def iL:V→List Q5→List aa→aq→(Bool→I→Prop)→aV→I→Prop
 |j,[MZ],[l],t,o,B,c=>av l t (λc2 bl=>co MZ j c2 o bl) B c
 |j,MZ::a::Nk,l::b::Nh,t,o,B,c=>av l t (λc2 bl=>co MZ j c2 (λE d=>c5 E (iL c2 (a::Nk) (b::Nh) t o B bl) (o Qq bl)) bl) B c
 |_,_,_,_,_,_,_=>False
noncomputable def bN:aa→(aD→aV→I→Prop)→aq→(Bool→I→Prop)→aV→I→Prop
 |.not i,_,t,o,B,c=>bN i (av i t) t (λl bl=>o (!l) bl) B c
 |.and b2,_,t,o,B,c=>hP b2 t o B c
 |.or b2,_,t,o,B,c=>hQ b2 t o B c
 |.Oe D i l,_,t,o,B,c=>bN D (av D t) t (λE bl=>c5 E (bN i (av i t) t o B bl) (bN l (av l t) t o B bl)) B c
 |.cmp i Nk Nh,_,t,o,B,c=>av i t (λj bl=>iL j Nk Nh t o B bl) B c
 |_,pS,_,o,B,c=>pS (λp bl=>gM p o bl) B c
noncomputable def hP:List aa→aq→(Bool→I→Prop)→aV→I→Prop
 |[],_,o,_,c=>o Qp c
 |j::E,t,o,B,c=>bN j (av j t) t (λl bl=>c5 l (hP E t o B bl) (o Qq bl)) B c
noncomputable def hQ:List aa→aq→(Bool→I→Prop)→aV→I→Prop
 |[],_,o,_,c=>o Qq c
 |j::E,t,o,B,c=>bN j (av j t) t (λl bl=>c5 l (o Qp bl) (hQ E t o B bl)) B c
end
noncomputable def pT:bH→aq→V→(aq→I→Prop)→aV→I→Prop
 |.name z,t,p,o,_,c=>o (t.set z (J p)) c
 |.attr q T,t,p,o,B,c=>av x w q t (λa bl=>hN x a T p (λb=>o t b) bl) B c
 |.item q z,t,p,o,B,c=>av x w q t (λa bl=>av x w z t (λd b=>iJ a d p (λe=>o t e) b) B bl) B c
 |.tup b2,t,p,o,_,c=>cm (kc Qq b2 p t) λm2=>o m2 c
noncomputable def Aj:bH→dP→aa→aq→(aq→I→Prop)→aV→I→Prop
 |.name z,q,s,t,o,B,c=>cm (t[z]?).join λa=>av x w s t (λp bl=>jn q a p (λE b=>o (t.set z (J E)) b) bl) B c
 |.attr e T,q,s,t,o,B,c=>av x w e t (λd bl=>cB x d T (λa b=>av x w s t (λp j=>jn q a p (λE f=>hN x d T E (λg=>o t g) f) j) B b) bl) B c
 |.item e z,q,s,t,o,B,c=>av x w e t (λd bl=>av x w z t (λh b=>(∃i v a2 a,d=.ref i∧b i=J (.list v)∧h=.int a2∧bW v a2=J a∧av x w s t (λp f=>jn q a p (λE g=>iJ d h E (λk=>o t k) g) f) B b)) B bl) B c
 |.tup _,_,_,_,_,_,_=>False
noncomputable def ei(a:aq→(Bool→I→Prop)→aV→I→Prop)(b:aq→bF→bt→I→Prop):Nat→aq→bF→bt→I→Prop
 |0,_,_,_,_=>False
 |T+1,t,o,B,c=>a t (λl bl=>c5 l (b t (λa1 m2 d=>match a1 with
   |.N9 p=>o (.N9 p) m2 d
   |_=>ei a b T m2 o B d) B bl) (o .NX t bl)) (λbl=>B t bl) c
noncomputable def c0(a:bH)(b:aq→bF→bt→I→Prop):List V→aq→bF→bt→I→Prop
 |[],t,o,_,c=>o .NX t c
 |j::u2,t,o,B,c=>pT x w a t j (λf bl=>b f (λa1 d e=>match a1 with
  |.N9 p=>o (.N9 p) d e
  |_=>c0 a b u2 d o B e) B bl) (λbl=>B t bl) c
noncomputable def hR:bo→aq→(List V→I→Prop)→aV→I→Prop
 |.over s,t,o,B,c=>av x w s t (λp bl=>cm (hO Qq p bl) λv=>o v bl) B c
 |.range s,t,o,B,c=>av x w s t (λp bl=>cm (hO Qp p bl) λv=>o v bl) B c
 |.rev s,t,o,B,c=>av x w s t (λp bl=>j9 p λv=>o v.reverse bl) B c
mutual
noncomputable def k7:N→aq→bF→bt→I→Prop
 |.ret U,t,o,_,c=>o (.N9 .none) t c
 |.ret (some s),t,o,B,c=>av x w s t (λp bl=>o (.N9 p) t bl) (λbl=>B t bl) c
 |.asg D s,t,o,B,c=>av x w s t (λp bl=>pT x w D t p (λm2 a=>o .NX m2 a) (λa=>B t a) bl) (λbl=>B t bl) c
 |.aug D q s,t,o,B,c=>Aj x w D q s t (λm2 bl=>o .NX m2 bl) (λbl=>B t bl) c
 |.iff D i l,t,o,B,c=>bN x w D (av x w D t) t (λE bl=>c5 E (aw i t o B bl) (aw l t o B bl)) (λbl=>B t bl) c
 |.O3 D l,t,o,B,c=>∃T,ei (λm2 ht hx fw=>bN x w D (av x w D m2) m2 ht hx fw) (λm2 ht hx fw=>aw l m2 ht hx fw) T t o B c
 |.fr D M2 l,t,o,B,c=>hR x w M2 t (λv bl=>c0 x w D (λm2 ht hx fw=>aw l m2 ht hx fw) v t o B bl) (λbl=>B t bl) c
 |.expr s,t,o,B,c=>av x w s t (λb bl=>o .NX t bl) (λbl=>B t bl) c
 |.raise,t,_,B,c=>B t c
 |.bad,_,_,_,_=>False
 |.try l u,t,o,B,c=>aw l t o (λm2 bl=>aw u m2 o B bl) c
 |.cont,t,o,_,c=>o .Ow t c
 |.pass,t,o,_,c=>o .NX t c
noncomputable def aw:List N→aq→bF→bt→I→Prop
 |[],t,o,_,c=>o .NX t c
 |d::E,t,o,B,c=>k7 d t (λa1 m2 bl=>match a1 with
  |.NX=>aw E m2 o B bl
  |a1=>o a1 m2 bl) B c
end
end
noncomputable def gO(c:Nat)(a b:List V):Option (List V):=if b.length+a.length=c then J (b++a)else U
noncomputable def fC(a:l5):V:=match a with
 |.N9 p=>p
 |_=>.none
noncomputable def fD(b:aO)(c:aR)(a:aY)(d:List V)(o:aD)(B:aV)(e:I):Prop:=cm (gO a.OB.length a.dflt d) λv=>cm (fB a.OB v (Q6 a.size U)) λt=>aw b c a.body t (λa1 f bl=>o (fC a1) bl) (λf bl=>B bl) e
noncomputable def Ak(a:V):Option Bool:=match a with
 |.tup _=>J Qp
 |.int _=>J Qq
 |_=>U
noncomputable def pU(a:V)(b:List V):Option Nat:=a.Ob.bind λa2=>(cZ b).bind λb2=>if(b2.any λc2=>decide (c2=a2))=Qp then J (b2.findIdx (·=a2))else U
noncomputable def tj(b:V)(o:aD)(a:I):Prop:=match b with
 |.lst v=>o (.int v.length) a
 |.tup v=>o (.int v.length) a
 |_=>False
noncomputable def mc(a:List V)(b:V→Prop):Prop:=match a with
 |[p]=>b p
 |_=>False
noncomputable def jo(a:List V)(b:V→V→Prop):Prop:=match a with
 |[p,c]=>b p c
 |_=>False
noncomputable def gm(a:I)(b:V)(c:Qo→aK→Prop):Prop:=match b with
 |.ref i=>cm (a i) λq=>c i q
 |_=>False
noncomputable def tk(b:List V)(o:aD)(a:I):Prop:=mc b λp=>tj (dQ p a) o a
noncomputable def tl(a:List V)(o:aD)(b:I):Prop:=mc a λi=>dB i λz=>o (.int z.natAbs) b
noncomputable def tm(a:List V)(o:aD)(b:I):Prop:=jo a λi l=>dB i λi=>dB l λl=>o (.int (if l>i then l else i)) b
noncomputable def tn(a:List V)(o:aD)(b:I):Prop:=jo a λp D=>D=.NS (.type "tuple")∧cm (Ak p) λl=>o (.bool l) b
noncomputable def to(b:List V)(o:aD)(a:I):Prop:=jo b λE p=>gm a E λi q=>∃v,q=.list v∧v.length<a4∧o .none (a.set i (.list (v++[p])))
noncomputable def tp(b:List V)(o:aD)(a:I):Prop:=mc b λE=>gm a E λi q=>∃v,q=.list v∧cm v.getLast? λp=>o p (a.set i (.list v.dropLast))
noncomputable def tq(b:List V)(o:aD)(a:I):Prop:=jo b λE j=>gm a E λc q=>∃v,q=.list v∧cm (pU j v) λT=>o (.int T) a
noncomputable def tr(b:List V)(o:aD)(a:I):Prop:=jo b λE a2=>gm a E λc q=>∃O,q=.dict O∧cm a2.Ob λa2=>o ((bA a2 O).getD .none) a
noncomputable def ts(b:List V)(o:aD)(a:I):Prop:=jo b λE a2=>gm a E λi q=>∃O,q=.N5 O∧cm a2.Oz λa2=>cm (bA a2 O) λp=>o p (a.set i (.N5 (iH a2 O)))
noncomputable def tt(c:List V)(o:aD)(a:I):Prop:=jo c λE D=>gm a E λi q=>gm a D λl d=>∃O b,q=.dict O∧d=.dict b∧i≠l∧O.length+b.length<a4∧o .none (a.set i (.dict (b.foldl (λE s=>bC s.1 s.2 E) O)))
noncomputable def et(id:String)(a:List V)(o:aD)(b:I):Prop:=
 if id= "len" then tk a o b else if id= "abs" then tl a o b else if id= "max" then tm a o b
 else if id= "isinstance" then tn a o b else if id= "list.append" then to a o b else if id= "list.pop" then tp a o b
 else if id= "list.index" then tq a o b else if id= "dict.get" then tr a o b else if id= "dict.pop" then ts a o b
 else if id= "dict.update" then tt a o b else False
noncomputable def dr(a:aO):Nat→aR
 |0,_,_,_,_,_=>False
 |T+1,b,MJ,o,B,c=>match b with
  |.NS (.builtin id)=>et id MJ o c
  |.NS (.ref i)=>(match a.fn i with
   |some MK=>fD a (dr a T) MK MJ o B c
   |U=>cm (a.init i) λNn=>cm (a.fn Nn) λMK=>∀j ua,c j=U→c ua=U→j≠ua→fD a (dr a T) MK (.inst i ua j::MJ) (λE bl=>k3 E=Qp∧o (.inst i ua j) bl) B (c.set ua (.ns [])))
  |_=>False
variable{c fw bl:I}{p:V}{w:aR}{t m2:aq}{x:aO}{D M7:aa}{v MJ:List V}{l0:QA→Option V}{ML:List aa}{u3:List (QA×V)}{MK:aY}{M2:bo}{M3:ai}{u2:List (ai×Qo×Qk)}{v2:List (am×Qk)}
section
noncomputable abbrev aL:=List (QA×QF)
noncomputable def jp(a:QA):aL→Option Nat
 |[]=>U
 |s::E=>if s.1=a then J 0 else(jp a E).map (·+1)
theorem Al(a:QA)(b:QA×QF)(c:aL):jp a (b::c)=if b.1=a then J 0 else(jp a c).map (·+1):=rfl
noncomputable def hd(a:QF):Bool:=match a with
 |.local=>Qp
 |.cell=>Qp
 |_=>Qq
noncomputable def dC(a:Bool)(b:Option u5):Option u5:=match a with
 |true=>b
 |false=>U
theorem dD{a:Option u5}{b:u5}(c:dC l a=J b):l=true∧a=J b:=by
 induction l using Qz with
 |true=>exact⟨rfl,c⟩
 |false=>cases c
theorem ci{a:Option u5}{b:u5→Option MQ}{c:MQ}(d:a.bind b=some c):∃i,a=some i∧b i=some c:=by
 induction a using Qm with
 |none=>cases d
 |some i=>exact(aU i rfl d)
theorem bB{a:Option u5}{b:u5→MQ}{c:MQ}(d:a.map b=some c):∃i,a=some i∧b i=c:=by
 induction a using Qm with
 |none=>cases d
 |some i=>exact(aU i rfl (Qj d))
theorem fT{a:Int→Prop}(b:dB p a):∃z,p=.int z∧a z:=by
 induction p using V.casesOn<;>first|exact b.elim|exact(aU _ rfl b)
theorem pV{a:List V→Prop}(b:j9 p a):∃z,p=.lst z∧a z:=by
 induction p using V.casesOn<;>first|exact b.elim|exact(aU _ rfl b)
theorem tu{a:Option aK}{c:List (QA×V)→Prop}(b:l9 a c):∃u3,a=some (.ns u3)∧c u3:=by
 induction a using Qm with
 |none=>exact b.elim
 |some a=>induction a using aK.casesOn<;>first|exact b.elim|exact(aU _ rfl b)
theorem kf{a:Qo→aK→Prop}(b:gm c p a):∃i q,p=.ref i∧c i=J q∧a i q:=by
 induction p using V.casesOn<;>first|exact b.elim|exact let⟨q,d,e⟩:=b;(ee _ q rfl d e)
theorem gn{b:u5→Option MQ}{c:u5}{d:List MQ}(a:fg b (c::b2)=J d):∃l a2,b c=J l∧fg b b2=J a2∧d=l::a2:=by
 exact ae (ci a) λl e a=>ae (bB a) λa2 f a=>(ee l a2 e f a.symm)
noncomputable def c1(a:aL)(b:QA):Option Nat:=(a.lookup b).bind λa2=>dC (hd a2) (jp b a)
noncomputable def jq:QS→Option dP
 |.Add=>J .add
 |.Sub=>J .sub
 |.Mult=>J .mul
 |.FloorDiv=>J .fdiv
 |.Mod=>J .mod
 |.LShift=>J .shl
 |_=>U
noncomputable def nB:Const→Option V
 |.none=>J .none
 |.bool l=>J (.bool l)
 |.int z=>J (.int z)
 |.str d=>J (.str d)
 |_=>U
inductive d1 where
 |name (j:Str) (as:Pos)|attr (q:PySem.Expr) (T:Str) (as:Pos)|slice (i l w:Option PySem.Expr)|tup (b2:List PySem.Expr) (a2:Nat) (as:Pos)|lc (MW:Scope) (as:Pos)
 |star|call (f:PySem.Expr) (u3:List PySem.Expr) (kw:List Keyword) (as:Pos)|const (w:Const)|sub (q z:PySem.Expr) (as:Pos)|OW|set|other
noncomputable def cN(a:Qy):d1:=by induction a using Rl with
 |Name j as=>exact .name j as
 |Attribute q T as=>exact .attr q T as
 |Slice i l w _=>exact .slice i l w
 |Tuple b2 a2 as=>exact .tup b2 a2 as
 |ListComp _ _ MW as=>exact .lc MW as
 |Starred=>exact .star
 |Call b u3 c as=>exact .call b u3 c as
 |Constant w _ _=>exact .const w
 |Subscript q z as=>exact .sub q z as
 |SetComp=>exact .OW
 |DictComp=>exact .OW
 |Set=>exact .set
 |_=>exact .other
noncomputable def Am(a:Qy)(b:d1):Prop:=match b with
  |.name j as=>a=.Name j as
  |.attr q T as=>a=.Attribute q T as
  |.tup b2 b as=>a=.Tuple b2 b as
  |.lc MW as=>∃j b2,a=.ListComp j b2 MW as
  |.call c u3 d as=>a=.Call c u3 d as
  |.slice i l w=>∃as,a=.Slice i l w as
  |.const w=>∃T as,a=.Constant w T as
  |.sub q z as=>a=.Subscript q z as
  |_=>True
theorem hS(a:Qy):Am a (cN a):=by
 induction a using Rl<;>first|rfl|trivial|exact⟨_,_,rfl⟩|exact⟨_,rfl⟩
theorem iM(a:(!l)=true):l=false:=by induction l using Qz with
 |true=>cases a
 |false=>rfl
noncomputable def eX(a:Qy):Bool:=match a with
 |.Starred .. =>Qp
 |_=>Qq
noncomputable def tv(a:d1):Option (QA×Si):=match a with
 |.name j as=>J (j,as)
 |_=>U
noncomputable def iN(a:Qy):Option (QA×Si):=tv (cN a)
theorem k8(a:iN s=J E):s=.Name E.1 E.2:=by
 have b:=hS s;replace a:tv (cN s)=J E:=a;generalize cN s=a2 at a b;induction a2 using d1.casesOn<;>first|exact ag a|(obtain rfl:=Qj a;exact b)
noncomputable def An(a:Qy):Option QA:=(iN a).map (·.1)
noncomputable def tw(a:d1):Option (Qy×QA×Si):=match a with
 |.attr q T as=>J (q,T,as)
 |_=>U
noncomputable def pW(a:Qy):Option (Qy×QA×Si):=tw (cN a)
theorem Ao(a:pW s=J E):s=.Attribute E.1 E.2.1 E.2.2:=by
 have b:=hS s;replace a:tw (cN s)=J E:=a;generalize cN s=a2 at a b;induction a2 using d1.casesOn<;>first|exact ag a|(obtain rfl:=Qj a;exact b)
noncomputable def tx(a:d1):Option (Option Qy×Option Qy×Option Qy):=match a with
 |.slice i l w=>J (i,l,w)
 |_=>U
noncomputable def pX(a:Qy):Option (Option Qy×Option Qy×Option Qy):=tx (cN a)
theorem Ap(a:pX s=J E)(b:E.2.2.isNone=Qp):∃as,s=.Slice E.1 E.2.1 U as:=by
 have c:=hS s;replace a:tx (cN s)=J E:=a;generalize cN s=a2 at a c;induction a2 using d1.casesOn<;>first|exact ag a|skip
 obtain rfl:=Qj a;refine bY c λas c=>?_;have b:=Tq.mp b;dsimp only at b;exact⟨as,by exact Q (c ..) (Q (b ..) rfl)⟩
noncomputable def ty(a:d1):Option (List Qy×Nat×Si):=match a with
 |.tup b2 a as=>J (b2,a,as)
 |_=>U
noncomputable def nC(a:Qy):Option (List Qy×Nat×Si):=ty (cN a)
theorem tz(a:nC s=J E):s=.Tuple E.1 E.2.1 E.2.2:=by
 have b:=hS s;replace a:ty (cN s)=J E:=a;generalize cN s=a2 at a b;induction a2 using d1.casesOn<;>first|exact ag a|(obtain rfl:=Qj a;exact b)
noncomputable def tA(a:d1):Option (Ri×Si):=match a with
 |.lc MW as=>J (MW,as)
 |_=>U
noncomputable def k9(a:Qy):Option (Ri×Si):=tA (cN a)
theorem Aq(a:k9 s=J E):∃j b2,s=.ListComp j b2 E.1 E.2:=by
 have b:=hS s;replace a:tA (cN s)=J E:=a;generalize cN s=a2 at a b;induction a2 using d1.casesOn<;>first|exact ag a|(obtain rfl:=Qj a;exact b)
noncomputable def tB(a:d1):Option (Qy×List Qy×List Wg×Si):=match a with
 |.call b u3 c as=>J (b,u3,c,as)
 |_=>U
noncomputable def nD(a:Qy):Option (Qy×List Qy×List Wg×Si):=tB (cN a)
theorem tC(a:nD s=J E):s=.Call E.1 E.2.1 E.2.2.1 E.2.2.2:=by
 have b:=hS s;replace a:tB (cN s)=J E:=a;generalize cN s=a2 at a b;induction a2 using d1.casesOn<;>first|exact ag a|(obtain rfl:=Qj a;exact b)
noncomputable def md(a:Qy):Bool:=match cN a with
 |.lc .. =>Qp
 |.OW=>Qp
 |_=>Qq
noncomputable def hT(a:Qy):Bool:=(nC a).isSome
noncomputable def nE:List QA→Bool
 |[]=>Qp
 |j::E=>!(E.any λc2=>decide (c2=j))&&nE E
noncomputable def iO(a:Ri):Bool:=a.kind== .function&&nE (a.names.map (·.1))&&a.names.all (λs=>s.2 != .cell)
noncomputable def tD(b c:aL)(a:QA×QF):Option (Nat×Nat):=(jp a.1 c).bind λz=>(c1 b a.1).bind λq=>dC (b.lookup a.1==J .cell) (J (z,q))
noncomputable def iP(b a:aL):Option (List (Nat×Nat)):=fg (tD b a) (a.filter λs=>s.2== .free)
noncomputable def ej(a:aL):aL:=a.map λs=>if s.2== .free then(s.1,.cell)else s
noncomputable def jr(a:aL)(b:List Qy):Option (List Nat):=fg (λs=>(An s).bind (c1 a)) b
noncomputable def la(a:Qy):Bool:=match nD a with
 |some (b,[],[],_)=>(iN b).isSome
 |_=>Qq
noncomputable def kg(a:Option V)(b:String):Bool:=match a with
 |some (.NS (.type A))=>A==b
 |_=>Qq
noncomputable def kh:aa→Bool
 |.k _=>Qp
 |_=>Qq
noncomputable def ki:List aa→List aa→List aa
 |i::u3,l::Nh=>i::l::ki u3 Nh
 |_,_=>[]
variable(l0:QA→Option V)
noncomputable def tE(a:aL)(b:d1):Option (Bool×List Nat):=match b with
 |.name j _=>(c1 a j).map λz=>(Qp,[z])
 |.tup b2 _ _=>(jr a b2).map λb2=>(Qq,b2)
 |_=>U
noncomputable def tF(a:aL)(b:Qy):Option (Bool×List Nat):=tE a (cN b)
noncomputable def tG(a:List Qy):Option Qy:=match a with
 |[j]=>dC (!eX j) (J j)
 |_=>U
theorem Ar{c:List Qy}{a:Qy}{d:Prop}(b:tG c=J a)(e:c=[a]→eX a=Qq→d):d:=by
 have:c=[a]∧eX a=Qq:=by
  clear e;rcases c with _|⟨g,_|_⟩
  ·exact ag b
  ·refine ar (dD b) λf b=>?_;obtain rfl:=Qj b;exact⟨rfl,iM f⟩
  ·exact ag b
 exact e this.1 this.2
noncomputable def kj(c:aL)(b:String)(d:Qy):Option Qy:=(nD d).bind λw=>(iN w.1).bind λa=>dC (a.1==SA b&&(c.lookup a.1==J .globalImplicit&&(kg (l0 a.1) b&&w.2.2.1.isEmpty))) (tG w.2.1)
noncomputable def tH(b:aL)(a:QA):Option aa:=dC (!(a==("__debug__" :QA))) (dC (b.lookup a==J .globalImplicit) ((l0 a).map aa.k)|>.or (dC (!(b.lookup a==J .globalImplicit)) ((c1 b a).map aa.v)))
noncomputable def As:UnaryOp→aa→Option aa
 |.USub,i=>J (.neg i)
 |.Not,i=>J (.not i)
 |_,_=>U
noncomputable def At:BoolOp→List aa→aa
 |.And,b2=>.and b2
 |.Or,b2=>.or b2
section
variable(no:Qy→Option aa)
noncomputable def iQ(a:List Qy):Option (List aa):=fg (λs=>dC (!eX s) (no s)) a
noncomputable def nF:Option Qy→Option (Option aa)
 |none=>some none
 |some s=>(no s).map some
noncomputable def pY(a:List (Option Qy)):Option (List aa):=fg (λq=>q.bind no) a
noncomputable def pZ(b:Qy)(a:List Qy)(c:Si):Option aa:=match pW b with
 |some i=>dC (!la i.1&&decide (i.2.2.endLine=c.line)&&decide (a.length<30)) ((no i.1).bind λj=>(iQ no a).map (aa.NY j i.2.1))
 |none=>(no b).bind λj=>(iQ no a).map (aa.call j)
noncomputable def p0(a b:Qy):Option aa:=match pX b with
 |some d=>dC d.2.2.isNone ((no a).bind λi=>(nF no d.1).bind λb2=>(nF no d.2.1).map (aa.O2 i b2))
 |none=>(no a).bind λi=>(no b).map (aa.sub i)
end
noncomputable def tI(a b:List aa):Bool:=decide (a.length=b.length)&&(decide (a.length≤15)||(decide (a.length<17)&&(a.all kh&&b.all kh)))
noncomputable def tJ(a:u5→Option MQ)(b:List u5):Option MQ:=match b with
 |[j]=>a j
 |_=>U
theorem Au{c d:Type}{e:c→Option d}{a:List c}{f:d}{g:Prop}(b:tJ e a=J f)(h:∀j,a=[j]→e j=J f→g):g:=by
 rcases a with _|⟨j,_|_⟩
 ·exact ag b
 ·exact h j rfl b
 ·exact ag b
noncomputable def tK(c:aL→Qy→Option aa)(b:aL)(d:Qy)(a:Ri):List VQ→Option aa:=
 tJ λNn=>dC (iO a&&(Nn.ifs.isEmpty&&decide (Nn.is_async=0))) ((c (ej a.names) d).bind λs=>(iP b a.names).bind λM1=>(tF a.names Nn.target).bind λMY=>match kj l0 b "range" Nn.iter with
  |some j=>(c b j).map λD=>.comp s MY.2 MY.1 Qp D M1 a.names.length
  |none=>(c b Nn.iter).map λD=>.comp s MY.2 MY.1 Qq D M1 a.names.length)
noncomputable def Av(b:aL→Qy→Option aa)(a:aL)(c:Qy):Option aa:=by induction c using Rl with
 |Constant w _ _=>exact(nB w).map aa.k
 |Name j _=>exact tH l0 a j
 |BinOp b2 MZ E _=>exact(b a b2).bind λi=>(jq MZ).bind λq=>(b a E).map (aa.bin q i)
 |UnaryOp MZ j _=>exact(b a j).bind (As MZ)
 |IfExp D l q _=>exact(b a D).bind λw=>(b a l).bind λj=>(b a q).map (aa.Oe w j)
 |BoolOp MZ v _=>exact(iQ (b a) v).map (At MZ)
 |Compare b2 Nk d _=>exact dC ((Nk.zip d).all (λc=>!VK c.1 c.2)) ((b a b2).bind λi=>(iQ (b a) d).map (aa.cmp i Nk))
 |Call e MJ f l2=>exact dC f.isEmpty (pZ (b a) e MJ l2)
 |Attribute q Np _=>exact dC (!la q) ((b a q).map λi=>.attr i Np)
 |Subscript q z _=>exact p0 (b a) q z
 |Tuple b2 _ _=>exact dC (decide (b2.length≤64)) ((iQ (b a) b2).map aa.tup)
 |List b2 _=>exact(iQ (b a) b2).map aa.lst
 |Dict MO v _=>exact(pY (b a) MO).bind λi=>(iQ (b a) v).bind λl=>dC (tI i l) (J (.Of (ki i l)))
 |ListComp M5 g MM _=>exact tK l0 b a M5 MM g
 |_=>exact U
noncomputable def nG:Nat→aL→Qy→Option aa
 |0,_,_=>U
 |T+1,n,s=>Av l0 (nG T) n s
noncomputable def eY(a:aL)(b:Qy):Option aa:=nG l0 30 a b
noncomputable def p1(a:aL)(b:d1):Option bH:=match b with
 |.name j _=>(c1 a j).map bH.name
 |.attr q T _=>dC (!la q) ((eY l0 a q).map λi=>.attr i T)
 |.tup b2 _ _=>(jr a b2).map bH.tup
 |.sub q z _=>(eY l0 a q).bind λi=>(eY l0 a z).map (bH.item i)
 |_=>U
noncomputable def me(a:aL)(b:Qy):Option bH:=p1 l0 a (cN b)
noncomputable def p2(a:aL)(b:Qy):Option bo:=match kj l0 a "range" b with
 |some j=>(eY l0 a j).map bo.range
 |none=>(match kj l0 a "reversed" b with
  |some j=>(eY l0 a j).map bo.rev
  |none=>(eY l0 a b).map bo.over)
noncomputable def hU(a:u5→Bool)(b:Option u5):Bool:=match b with
 |some j=>a j
 |none=>Qq
theorem iR{b:Type}{c:b→Bool}{a:Option b}{d:Prop}(e:hU c a=Qp)(f:∀j,a=some j→c j=Qp→d):d:=by
 induction a using Qm with
 |none=>exact bG e.symm
 |some j=>exact f j rfl e
noncomputable def tL(a:u5→Bool)(b:List u5):Bool:=match b with
 |[j]=>a j
 |_=>Qq
theorem Aw{c:Type}{d:c→Bool}{a:List c}{e:Prop}(b:tL d a=Qp)(f:∀j,a=[j]→d j=Qp→e):e:=by
 rcases a with _|⟨j,_|_⟩
 ·exact bG b.symm
 ·exact f j rfl b
 ·exact bG b.symm
noncomputable def tM(a:u5→u5→Bool)(b:List u5):Bool:=match b with
 |[j,c2]=>a j c2
 |_=>Qq
theorem Ax{b:Type}{d:b→b→Bool}{c:List b}{e:Prop}(a:tM d c=Qp)(f:∀j c2,c=[j,c2]→d j c2=Qp→e):e:=by
 rcases c with _|⟨j,_|⟨c2,_|_⟩⟩
 ·exact bG a.symm
 ·exact bG a.symm
 ·exact f j c2 rfl a
 ·exact bG a.symm
noncomputable def tN(a:d1):Bool:=match a with
 |.const (.str _)=>Qp
 |_=>Qq
set_option tactic.hygienic true in
theorem Ay(a:tN (cN s)=Qp):∃j T as,s=.Constant (.str j) T as:=by
 have c:=hS s;generalize cN s=b at a c;induction b using d1.casesOn<;>first|exact bG a.symm|skip
 rename_i b;induction b using UQ<;>first|exact bG a.symm|skip
 rename_i j;exact⟨j,c⟩
noncomputable def p3(a:Bool)(b:aL)(c:Qy):Bool:=hU (λw=>tL (λi=>tN (cN i)) w.2.1&&(w.2.2.1.isEmpty&&hU (λj=>j.1==("RunFault" :QA)&&(a&&b.lookup j.1==J .globalImplicit)) (iN w.1))) (nD c)
noncomputable def tO(a:aL)(b c:Qy):Bool:=hU (λA=>hU (λp=>tM (λi l=>hU (λj=>hU (λc2=>a.lookup j.1==J .local&&a.lookup c2.1==J .local&&j.1 !=c2.1&&j.2.line==c2.2.line&&p.1.length==2&& !p.1.all (VJ 8)&& !p.1.all (Vl 8)) (iN l)) (iN i)) A.1) (nC c)) (nC b)
noncomputable def p4(a:aL)(b:Qy)(c:Ri)(d:Si):Bool:=match iN b with
 |some (j,as)=>a.lookup j==some .local&&as.line==d.line&& !(c.names.any λs=>s.1==j&&(s.2== .local||s.2== .cell))
 |none=>Qq
noncomputable def p5(c:aL)(a b:Qy):Bool:=match hT a&&hT b with
 |true=>tO c a b
 |false=>(match k9 b with
  |some (MW,l2)=>p4 c a MW l2
  |none=>true)
noncomputable def tP(b:Bool→List RU→Option (List N))(c:Bool)(a:aL)(d:RU):Option N:=by induction d using Ud with
 |Return s _=>exact(nF (eY l0 a) s).map N.ret
 |Assign MY s _=>exact(match MY with
   |[ud]=>dC (p5 a ud s) ((me l0 a ud).bind λD=>(eY l0 a s).map (N.asg D))
   |_=>U)
 |AugAssign ud MZ s _=>exact(me l0 a ud).bind λD=>(jq MZ).bind λq=>(eY l0 a s).map (N.aug D q)
 |If D i l _=>exact(eY l0 a D).bind λw=>(b c i).bind λj=>(b c l).map (N.iff w j)
 |While D l s _=>exact dC s.isEmpty ((eY l0 a D).bind λw=>(b Qq l).map (N.O3 w))
 |For ud M2 l s _=>exact dC s.isEmpty ((me l0 a ud).bind λD=>(p2 l0 a M2).bind λz=>(b Qq l).map (N.fr D z))
 |Expr s _=>exact dC (k9 s).isNone ((eY l0 a s).map N.expr)
 |Raise s hv _=>exact dC hv.isNone (s.map λs=>if p3 c a s then .raise else .bad)
 |Continue _=>exact J .cont
 |Pass _=>exact J .pass
 |_=>exact U
noncomputable def p6(a:aL):Nat→Bool→List RU→Option (List N)
 |0,_,_=>U
 |T+1,E,b2=>fg (tP l0 (p6 a T) E a) b2
noncomputable def fj(a:Bool)(b:aL)(c:List RU):Option (List N):=p6 l0 b 12 a c
end
variable{n Ng:aL}
abbrev ax:=Qo→Option Tp
abbrev hV(a:List Qk)(b:Nat):Tp:={cls:=.type "tuple",data:=.seq a.toArray b}
inductive aM{u5 MQ:Type}(no:u5→MQ→Prop):List u5→List MQ→Prop
 |nil:aM no [] []
 |cons {i l u3 Nh}:no i l→aM no u3 Nh→aM no (i::u3) (l::Nh)
section
variable{no:u5→MQ→Prop}{v:List u5}{G:List MQ}
theorem aM.length(a:aM no v G):G.length=v.length:=by
 induction a with
 |nil=>rfl
 |cons _ _ b=>exact QP S9 b
def aM.PV(a:u5→MQ→Prop)(c:List u5)(b:List MQ):Prop:=by cases c with
 |nil=>cases b with
  |nil=>exact True
  |cons l Nh=>exact False
 |cons i u3=>cases b with
  |nil=>exact False
  |cons l Nh=>exact a i l∧aM a u3 Nh
theorem aM.un(a:aM no v G):aM.PV no v G:=by
 induction a using aM.casesOn with
 |nil=>trivial
 |cons b c=>exact⟨b,c⟩
theorem aM.hd{a:u5}{b:MQ}(c:aM no (a::v) (b::G)):no a b:=c.un.1
theorem aM.Pk{a:u5}{b:MQ}(c:aM no (a::v) (b::G)):aM no v G:=c.un.2
theorem aM.PE(a:aM no v []):v=[]:=by
 have b:=a.un;induction v using QH with
 |nil=>rfl
 |cons c d=>exact b.elim
theorem aM.PF{b:MQ}(c:aM no v (b::G)):∃i u3,v=i::u3∧no i b∧aM no u3 G:=by
 have a:=c.un;induction v using QH with
 |nil=>exact a.elim
 |cons i u3=>exact ee i u3 rfl a.1 a.2
theorem aM.imp{a:u5→MQ→Prop}(b:∀{i l},no i l→a i l)(c:aM no v G):aM a v G:=by
 induction c with
 |nil=>exact .nil
 |cons i _ d=>exact .cons (b i) d
theorem aM.get(c:aM no v G):∀{z:Nat}{p:u5},v[z]? =J p→∃a,G[z]? =J a∧no p a:=by
 induction c with
 |nil=>intro z p b;exact Rz b (by simp)
 |cons d _ e=>
  intro z p b;induction z using Rn with
  |zero=>obtain rfl:=Qj b;exact(aU _ rfl d)
  |succ z=>exact e (z:=z) b
theorem aM.append(a:aM no v G)(b:aM no f g):aM no (v++f) (G++g):=by
 induction a with
 |nil=>exact b
 |cons c _ d=>exact .cons c d
theorem aM.take(a:aM no v G):∀T,aM no (v.take T) (G.take T):=by
 induction a with
 |nil=>intro T;induction T using Rn<;>exact .nil
 |cons b _ c=>intro T;induction T using Rn with
  |zero=>exact .nil
  |succ T=>exact .cons b (c T)
theorem aM.drop(a:aM no v G):∀T,aM no (v.drop T) (G.drop T):=by
 induction a with
 |nil=>intro T;induction T using Rn<;>exact .nil
 |cons b c d=>intro T;induction T using Rn with
  |zero=>exact .cons b c
  |succ T=>exact d T
theorem aM.set(c:aM no v G):∀T {p a},no p a→aM no (v.set T p) (G.set T a):=by
 induction c with
 |nil=>intro T p a b;exact .nil
 |cons d e f=>intro T p a b;induction T using Rn with
  |zero=>exact .cons b e
  |succ T=>exact .cons d (f T b)
theorem aM.reverse(a:aM no v G):aM no v.reverse G.reverse:=by
 induction a with
 |nil=>exact .nil
 |cons b _ c=>refine Q (Sv ..) (Q (Sv ..) ?_);exact c.append (.cons b .nil)
theorem aM.eraseIdx(a:Nat)(b:aM no v G):aM no (v.eraseIdx a) (G.eraseIdx a):=by
 induction b generalizing a with
 |nil=>exact .nil
 |cons c d e=>induction a using Rn with
  |zero=>exact d
  |succ a=>exact .cons c (e a)
theorem aM.flat(a:aM no v G):∀a2:Nat,aM no (Q6 a2 v).flatten (Q6 a2 G).flatten
 |0=>.nil
 |a2+1=>a.append (aM.flat a a2)
theorem aM.len(a:aM no v G):v.length=G.length:=a.length.symm
end
inductive ah(e:ax):V→Value→Prop
 |none:ah e .none .none
 |bool (l:Bool):ah e (.bool l) (.bool l)
 |int (z:Int) (D:Tok):ah e (.int z) (.int z D)
 |str (j:Str) (D:Tok):ah e (.str j) (.str j D)
 |NS (p:Value):ah e (.NS p) p
 |ref (i:Addr):ah e (.ref i) (.ref i)
 |tup {v:List V}{i:Addr}{G:List Value}{T:Nat}:e i=some (hV G T)→aM (ah e) v G→v.length≤a4→ah e (.tup v) (.ref i)
 |lst {v:List V}{i:Addr}{G:List Value}{T:Nat}:e i=some (listOf G.toArray T)→aM (ah e) v G→v.length≤a4→ah e (.lst v) (.ref i)
 |inst {hc ua i:Addr}:e i=some (instObj hc ua)→ah e (.inst hc ua i) (.ref i)
abbrev bh(a:ax):=aM (ah a)
theorem ah.Pl{motive:∀A,ah e .none A→Prop}(none:motive .none .none)(u:ah e .none A):motive A u:=by cases u;exact none
theorem ah.PG{motive:∀A,ah e (.bool l) A→Prop}(bool:motive (.bool l) (.bool l))(u:ah e (.bool l) A):motive A u:=by cases u;exact bool
theorem ah.Oq{z:Int}{motive:∀A,ah e (.int z) A→Prop}(int:∀D,motive (.int z D) (.int z D))(u:ah e (.int z) A):motive A u:=by cases u;exact int _
theorem ah.PH{motive:∀A,ah e (.str j) A→Prop}(str:∀D,motive (.str j D) (.str j D))(u:ah e (.str j) A):motive A u:=by cases u;exact str _
theorem ah.OK{p:Qk}{motive:∀A,ah e (.NS p) A→Prop}(stat:motive p (.NS p))(u:ah e (.NS p) A):motive A u:=by cases u;exact stat
theorem ah.OM{motive:∀A,ah e (.ref i) A→Prop}(ref:motive (.ref i) (.ref i))(u:ah e (.ref i) A):motive A u:=by cases u;exact ref
theorem ah.PI{e:ax}{motive:∀A,ah e (.tup v) A→Prop}(tup:∀{i:Qo}{G:List Qk}{T:Nat} (s:e i=J (hV G T)) (E:aM (ah e) v G) (b2:v.length≤a4),motive (.ref i) (.tup s E b2))(u:ah e (.tup v) A):motive A u:=by cases u;exact tup (by assumption) (by assumption) (by assumption)
theorem ah.PW{e:ax}{motive:∀A,ah e (.lst v) A→Prop}(lst:∀{i:Qo}{G:List Qk}{T:Nat} (s:e i=J (listOf G.toArray T)) (E:aM (ah e) v G) (b2:v.length≤a4),motive (.ref i) (.lst s E b2))(u:ah e (.lst v) A):motive A u:=by cases u;exact lst (by assumption) (by assumption) (by assumption)
theorem ah.PX{e:ax}{motive:∀A,ah e (.inst hc ua i) A→Prop}(inst:∀(s:e i=J (R7 hc ua)),motive (.ref i) (.inst s))(u:ah e (.inst hc ua i) A):motive A u:=by cases u;exact inst (by assumption)
theorem ah.mono{h e:ax}(g:∀i q,h i=J q→e i=J q){f:Qk}(a:ah h p f):ah e p f:=
 ah.rec (motive_1:=λp f b=>ah e p f) (motive_2:=λj k b=>aM (ah e) j k) .none .bool .int .str .NS .ref (λc b d a=>.tup (g _ _ c) a d) (λc b d a=>.lst (g _ _ c) a d) (λc=>.inst (g _ _ c)) .nil (λb b i d=>.cons i d) a
theorem aM.mono{a b:ax}(c:∀i q,a i=J q→b i=J q)(d:aM (ah a) v G):aM (ah b) v G:=d.imp (ah.mono c)
section
variable(b:QG)(a:QV)
def go(a:Qk):Option am:=by induction a using RZ with
 |int T D=>exact J (.inl T)
 |str j D=>exact J (.inr j)
 |_=>exact U
theorem Az{motive:Qk→am→Prop}{p:Qk}{a2:am}(u:go p=J a2)(int:∀T D,motive (.int T D) (.inl T))(str:∀j D,motive (.str j D) (.inr j)):motive p a2:=by
 induction p using RZ with
 |int T D=>refine Q (Rj (Qj u ..)) ?_;exact int T D
 |str j D=>refine Q (Rj (Qj u ..)) ?_;exact str j D
 |_=>exact ag u
def he(a:am)(b:Qk):Bool:=decide (go b=J a)
theorem js{motive:Qk→am→Prop}{p:Qk}{a2:am}(u:he a2 p=Qp)(int:∀T D,motive (.int T D) (.inl T))(str:∀j D,motive (.str j D) (.inr j)):motive p a2:=Az (Re u) int str
theorem tQ(a b:Int):(a==b)=decide ((Uk a:am)=Uk b):=by
 by_cases c:a=b
 ·exact Q (c ..) (Q (R9 ..) (Q (QD rfl ..) rfl))
 ·exact Q (Q0.mpr c ..) (Q (Qx λd=>c (Sl d) ..) rfl)
theorem tR(a b:QA):(a==b)=decide ((Uj a:am)=Uj b):=by
 by_cases c:a=b
 ·exact Q (c ..) (Q (R9 ..) (Q (QD rfl ..) rfl))
 ·exact Q (Q0.mpr c ..) (Q (Qx λd=>c (U2 d) ..) rfl)
def tS:am→Int
 |.inl T=>hashInt T
 |.inr j=>hashStr a j
theorem tT{c:Qk}{f:Bool→Ql→Prop}{g:WJ Bool}(h:(A==c)=Qq)(i:V9 A c=UD [A,c] (if(A==c)=Qp then g else richCompare .Eq A c>>=λE=>truthOfDropped E))
  (j:QQ (QO b a) r (richCompare .Eq A c) (λE M=>E=.bool Qq∧f Qq M) B d):QQ (QO b a) r (V9 A c) f B d:=by
 refine Q (i ..) (Q4 (Q (h ..) (Qn (Sg j (λE M e=>?_) λk k l=>l))));obtain⟨rfl,e⟩:=e;exact S6 e
theorem AA{j f:am}{g:Qk}{e:Bool→Ql→Prop}(p:he j A=Qp)(n:he f g=Qp)(c:e (decide (j=f)) d):QQ (QO b a) r (V9 A g) e B d:=
 js (motive:=λA j=>e (decide (j=f)) d→QQ (QO b a) r (V9 A g) e B d) p
  (λT k=>js (motive:=λg f=>e (decide ((.inl T:am)=f)) d→QQ (QO b a) r (V9 (.int T k) g) e B d) n
   (λo l c=>wpAny_eqBool_int (by refine Q (tQ ..) ?_;exact c))
   (λi l c=>tT b a rfl rfl (cmp_ofEq (PySem.EqMixed.eq_int_str ⟨rfl,by refine Q (Rj (Qx (p:=(Uk T:am)=.inr i) (λm=>nomatch m) ..)) ?_;exact c⟩))))
  (λh k=>js (motive:=λg f=>e (decide ((.inr h:am)=f)) d→QQ (QO b a) r (V9 (.str h k) g) e B d) n
   (λo l c=>tT b a rfl rfl (cmp_ofEq (PySem.EqMixed.eq_str_int ⟨rfl,by refine Q (Rj (Qx (p:=(Uj h:am)=.inl o) (λm=>nomatch m) ..)) ?_;exact c⟩)))
   (λi l c=>wpAny_eqBool_str (by refine Q (show decide (h=i)=decide ((Uj h:am)=Uj i)from tR h i) ?_;exact c))) c
theorem AB(a:Qk):he (.inr j) a=a.isStr j:=by
 induction a using RZ with
 |str d e=>exact(WO.mpr ⟨λb=>by have c:=U2 (Qj (Re b));refine Q (c ..) ?_;exact R9 j,λb=>QD (by refine Q (show d=j from eq_of_beq b) ?_;rfl)⟩)
 |int T e=>exact Qx λc=>nomatch Qj c
 |_=>rfl
def ds:KeyKind b a am where
 is:=he
 hash:=tS a
 inj:=λp i l e MU=>Qj ((Re e).symm.trans (Re MU))
 byValue:=λa2 p u=>js (motive:=λp a2=>carriedByValue p=Qp) u (λc c=>rfl) λc c=>rfl
 pyHash:=λ{r B d a2 p o} No u=>js (motive:=λp a2=>o (tS a a2) {d with toks:=d.toks+1}→QQ (QO b a) r (pyHash p) o B d) No (λc c u=>wpAny_pyHash_int u) (λc c u=>wpAny_pyHash_str u) u
 eqBool:=AA b a
 «strs»:=λa2 j D p u=>by refine Q (Rj (show Uj j=a2 from Qj (Re u))) ?_;exact AB p
end
inductive dE(e:ax):List (Str×V)→List DictEntry→Prop
 |nil:dE e [] []
 |cons {j:Str}{p:V}{a:Value}{u3:List (Str×V)}{MS:List DictEntry}{hh:Int}{D:Tok}:ah e p a→dE e u3 MS→dE e ((j,p)::u3) (⟨hh,.str j D,a⟩::MS)
section
variable(b:QG)(a:QV)(h:Q9)
def fE(c:ax)(d:Q9)(e:Qo):aK→Prop
 |.list v=>∃G T,d.get? e=J (listOf G.toArray T)∧bh c v G∧v.length≤a4
 |.dict O=>∃v2,d.DictOf (ds b a) e v2∧v2.map (·.1)=O.map (·.1)∧bh c (O.map (·.2)) (v2.map (·.2))∧O.length≤a4
 |.N5 O=>∃u2:List (ai×Qo×Qk),d.DictOfH (Sy (ds b a)) e u2∧u2.map (·.1)=O.map (·.1)∧bh c (O.map (·.2)) (u2.map (·.2.2))∧(∀j∈u2,∃q,c j.2.1=J q∧d.get? j.2.1=J q)∧O.length≤a4
 |.ns u3=>∃MS T,d.get? e=J (TF MS T)∧dE c u3 MS
structure aI(e:ax)(c:I)(u:Heap):Prop where
 zero:∀l q,h.get? l=some q→e l=some q
 Oa:∀l q,e l=some q→u.get? l=some q∧c l=none
 mt:∀l q,c l=some q→fE b a e u l q
structure aS(e:ax)(c:I)(d:Shared)(hn:ax)(fw:I)(M:Shared):Prop where
 mono:∀i q,e i=some q→hn i=some q
 same:∀i q,d.heap.get? i=some q→c i=none→M.heap.get? i=some q∧fw i=none∧hn i=e i
 gens:M.gens=d.gens
 os:M.os=d.os
end
theorem aS.refl:aS e c d e c d:=⟨λa a b=>b,λa a f b=>(bw f b rfl),rfl,rfl⟩
theorem aS.trans(f:aS e c d hn fw M)(g:aS hn fw M k m L):aS e c d k m L:=
 ⟨λa b h=>g.mono a b (f.mono a b h),λa b i h=>by
  refine bf (f.same a b i h) λj l n=>bf (g.same a b j l) λo p q=>?_;exact(bw o p (q.trans n)),g.gens.trans f.gens,g.os.trans f.os⟩
theorem aS.toks(f:Nat):aS e c d e c {d with toks:=f}:=⟨λa a b=>b,λa a g b=>(bw g b rfl),rfl,rfl⟩
def KS(a:Q9)(b:Qo)(c:Option Qk):Prop:=a.IsCell b c
structure d2(r:Around)(e:ax)(c:I)(u:Heap):Prop where
 at_:∃b2,r.frames=some b2∧∀y∈b2,y.scope.kind=.function∧∃L q,y.frame=some L∧u.get? L=some q∧(∃O ep,q.data=.dict O ep)∧e L=none∧c L=none
theorem d2.ext(f:d2 r e c d.heap)(g:aS e c d hn fw M):d2 r hn fw M.heap:=by
 refine ae f.at_ λh i j=>⟨h,i,λk l=>?_⟩;exact bE λx m=>ar (j k l) λn o=>fc o λa b p q s t dO=>bf (g.same a b q dO) λu v w=>m ⟨n,a,b,p,u,s,w.trans t,v⟩
structure bg(r:Around)(y:Env)(n:aL)(t:aq)(e:ax)(c:I)(u:Heap)(lb:Str→Option Value):Prop where
 OE:d2 r e c u
 kind:y.scope.kind=.function
 names:y.scope.names=n
 glob:y.globals=mainGlobals
 blt:y.builtins=builtinsNs
 ns:u.Ns y.locals lb
 own:e y.locals=none∧c y.locals=none
 len:t.length=n.length
 nodup:(n.map (·.1)).Nodup
 loc:∀(z:Nat) (p:V) (j:Str),(t[z]?).join=some p→n[z]? =some (j,NameKind.local)→∃a,lb j=some a∧ah e p a
 cells:∀(j:Str) (a2:NameKind),(j,a2)∈n→a2=NameKind.cell∨a2=NameKind.free→∃w p,y.cells.lookup j=some w∧u.IsCell w p∧e w=none∧c w=none∧w≠y.locals
 ON:∀(z:Nat) (p:V) (j:Str) (a2:NameKind),(t[z]?).join=some p→n[z]? =some (j,a2)→a2=NameKind.cell∨a2=NameKind.free→∃w a,y.cells.lookup j=some w∧u.IsCell w (some a)∧ah e p a
theorem KU{a:Qo}{b:Option Qk}(c:u.IsCell a b):a<u.objs.size:=let⟨_,d,_⟩:=c;Rs d
theorem jt{a:Qo}{b:Option Qk}(c:u.IsCell a b)(d:ho.get? a=u.get? a):ho.IsCell a b:=let⟨e,f,g⟩:=c;⟨e,d.trans f,g⟩
theorem tU(a:u.Ns i lb)(b:ho.get? i=u.get? i):ho.Ns i lb:=let⟨c,O,d,e,f⟩:=a;⟨c,O,d,b.trans e,f⟩
theorem aS.PJ{b e:ax}(h:aS b c d e fw M){a:Qo}{f:Option Qk}(i:d.heap.IsCell a f)(j:c a=U):M.heap.IsCell a f∧fw a=U∧e a=b a:=
 let⟨g,k,l⟩:=i;let⟨m,n⟩:=h.same a g k j;⟨⟨g,m,l⟩,n⟩
theorem aS.PY{b e:ax}(g:aS b c d e fw M){a:Qo}(h:d.heap.Ns a lb)(i:c a=U):M.heap.Ns a lb∧fw a=U∧e a=b a:=
 let⟨f,O,j,k,l⟩:=h;let⟨m,n⟩:=g.same a f k i;⟨⟨f,O,j,m,l⟩,n⟩
theorem bg.ext(a:bg r y n t e c d.heap lb)(b:aS e c d hn fw M):bg r y n t hn fw M.heap lb:=by
 refine bf (b.PY a.ns a.own.2) λi m o=>⟨a.OE.ext b,a.kind,a.names,a.glob,a.blt,i,⟨o.trans a.own.1,m⟩,a.len,a.nodup,λs j f k g=>?_,λf p k g=>?_,λs j f p k g w=>?_⟩
 ·exact ae (a.loc s j f k g) λu h l=>(aU u h (l.mono b.mono))
 ·exact fc (a.cells f p k g) λq j h l v x z=>bf (b.PJ l x) λi m o=>(kX q j h i (o.trans v) m z)
 ·refine bQ (a.ON s j f p k g w) λq u h l v=>fc (a.cells f p (QB g) w) λA G B C D E F=>?_;clear C D F;obtain rfl:q=A:=Qj (h.symm.trans B);exact bf (b.PJ l E) λi m o=>(ee q u h i (v.mono b.mono))
variable{e hn M0:ax}
def bZ(b:Nat)(a:QN):Prop:=a.handled=U∧a.depth+10*b≤600∧a.units+60*b≤9000
abbrev bp:=ax→I→Ql→QN→I→Qk→Ql→Prop
structure d3(f0:bp):Prop where
 back:∀{e c d M0 bl MP r fw s M},aS e c d M0 bl MP→f0 M0 bl MP r fw s M→f0 e c d r fw s M
section
variable(b:QG)(a:QV)(h:Q9)(f0:bp)(x:aO)(w:aR)(C:Nat)
abbrev gp(d:ax)(e:I)(f:Ql)(o:V→I→Prop)(g:Qk→Ql→Prop):Prop:=
 ∀p fw c M hn,o p fw→aS d e f hn fw M→aI b a h hn fw M.heap→ah hn p c→g c M
abbrev p7(d:ax)(e:I)(f:Ql)(o:List V→I→Prop)(g:List Qk→Ql→Prop):Prop:=
 ∀p fw c M hn,o p fw→aS d e f hn fw M→aI b a h hn fw M.heap→bh hn p c→g c M
abbrev mf(c:ax)(d:I)(e:Ql)(o:Bool→I→Prop)(f:Bool→Ql→Prop):Prop:=
 ∀l fw M hn,o l fw→aS c d e hn fw M→aI b a h hn fw M.heap→f l M
abbrev fU(a:ax)(b:I)(c:Ql)(d:QN)(B:I→Prop)(e:Qk→Ql→Prop):Prop:=
 ∀s fw M,B fw→f0 a b c d fw s M→e s M
def fF(e:QN)(g:WJ Qk)(f:ax)(c:I)(d:Ql)(i:aD→aV→I→Prop):Prop:=
 ∀{o:aD}{B:aV}{ht:Qk→Ql→Prop}{hx:Qk→Ql→Prop},i o B c→gp b a h f c d o ht→fU f0 f c d e B hx→QQ (QO b a) e g ht hx d
def bj(f:aL)(g:Qy)(i:aa):Prop:=∀{r:QN}{y:Sj}{t:aq}{e:ax}{c:I}{lb:QA→Option Qk}{d:Ql},bZ C r→aI b a h e c d.heap→bg r y f t e c d.heap lb→
 fF b a h f0 r (TD g y) e c d (av x w i t)
def AC:Prop:=∀{r:QN}{e:ax}{c:I}{d:Ql}{f:V}{MJ:List V}{g:Qk}{G:List Qk},bZ C r→d2 r e c d.heap→aI b a h e c d.heap→ah e f g→bh e MJ G→
 fF b a h f0 r (TE g G) e c d (w f MJ)
end
section
variable{f0:bp}
theorem fU.back{a:I→Prop}(b:d3 f0)(f:aS e c d M0 bl MP)(g:fU f0 e c d r a hx):fU f0 M0 bl MP r a hx:=
 λh i j k l=>g h i j k (b.back f l)
theorem gp.back{f:V→I→Prop}(g:aS e c d M0 bl MP)(i:gp b a h e c d f ht):gp b a h M0 bl MP f ht:=
 λj k l m n o p q r=>i j k l m n o (g.trans p) q r
theorem aI.toks(f:aI b a h e c d.heap)(g:Nat):aI b a h e c ({d with toks:=g}:Ql).heap:=f
theorem AD{g:Const}(i:nB g=J p):bj b a h f0 x w C n (.Constant g T l2) (.k p):=by
 intro k l m o q r j s d t u v y z e f A;induction g using UQ<;>first|exact ag i|skip
 all_goals(obtain rfl:=Qj i)
 ·exact λc c c=>f _ _ _ _ _ e .refl d .none
 ·exact λc c c=>f _ _ _ _ _ e .refl d (.bool _)
 ·exact wpAny_Constant_int (f _ _ _ _ _ e (.toks _) d (.int _ _))
 ·exact λc c c=>f _ _ _ _ _ e (.toks (j.toks+1)) d (.str _ _)
theorem AE{l m:aa}{q:dP}(s:d3 f0)(u:bj b a h f0 x w C n b2 l)(v:bj b a h f0 x w C n E m)
  (y:∀{r:QN}{e:ax}{c:I}{d:Ql}{j c2:V}{A p:Qk},bZ C r→aI b a h e c d.heap→ah e j A→ah e c2 p→fF b a h f0 r (Vn MZ A p) e c d (λo Z c=>fA q j c2 o c)):
  bj b a h f0 x w C n (.BinOp b2 MZ E l2) (.bin q l m):=by
 intro r N O e c P d g z t o Q R S B D i;refine wpAny_BinOp (u g z t B ?_ i);intro j T A W X F f G H;refine v g G (t.ext f) F ?_ (i.back s f);intro c2 Y p ab ad K k L M;exact y g L (H.mono k.mono) M K (D.back (f.trans k)) (i.back s (f.trans k))
end
variable{f0:bp}
section
theorem dE.mono(a:∀i q,e i=J q→hn i=J q)(b:dE e u3 MS):dE hn u3 MS:=by
 induction b with
 |nil=>exact .nil
 |cons i _ c=>exact .cons (i.mono a) c
theorem fE.mono(f:∀i q,e i=J q→hn i=J q){q:aK}(c:fE b a e k i q):fE b a hn k i q:=by
 induction q using aK.casesOn with
 |list _=>exact c.elim λd c=>c.elim λT c=>⟨d,T,c.1,c.2.1.mono f,c.2.2⟩
 |dict _=>exact c.elim λd c=>⟨d,c.1,c.2.1,c.2.2.1.mono f,c.2.2.2⟩
 |N5 _=>exact c.elim λd c=>⟨d,c.1,c.2.1,c.2.2.1.mono f,λh j=>(c.2.2.2.1 h j).elim λq g=>(aU q (f _ _ g.1) g.2),c.2.2.2.2⟩
 |ns _=>exact c.elim λd c=>c.elim λT c=>⟨d,T,c.1,c.2.mono f⟩
theorem fE.some_get{f:aK}(c:fE b a e u i f):∃g,u.get? i=J g:=by
 induction f using aK.casesOn with
 |list _=>exact c.elim λd c=>c.elim λd c=>⟨_,c.1⟩
 |dict _=>exact c.elim λd c=>c.1.elim λd c=>c.elim λd c=>c.elim λd c=>⟨_,c.1⟩
 |N5 _=>exact c.elim λd c=>c.1.elim λd c=>c.elim λd c=>c.elim λd c=>⟨_,c.1⟩
 |ns _=>exact c.elim λd c=>c.elim λd c=>⟨_,c.1⟩
def ax.put(a:ax)(b:Qo)(c:Tp):ax:=λl=>if l=b then J c else a l
theorem ax.O6(c:ax)(a:Qo)(b:Tp):c.put a b a=J b:=Qt rfl
theorem ax.OX(b:ax){a:Qo}(c:Tp)(d:a≠i):b.put i c a=b a:=Qs d
theorem ax.O4{b:Tp}(c:e i=U):∀l f,e l=J f→e.put i b l=J f:=λl f a=>by
 rw [ax.OX];exact a;rintro rfl;rw [c]at a;exact ag a
theorem aI.O5(d:aI b a h e c u){f:aK}(g:c i=some f):e i=none:=by
 generalize j:e i=k;induction k using Qm with
 |none=>rfl
 |some l=>have:=(d.Oa i l j).2;rw [g]at this;exact ag this.symm
theorem AF{r:aD}(k:aI b a h e c d.heap)(s:ah e p L)(j:tc p r c)(t:gp b a h e c d r ht):ht L d:=by
 rcases j with j|⟨m,A,rfl,o,j⟩
 ·exact t _ _ _ _ _ j .refl k s
 ·induction s using ah.OM
  refine bQ (k.mt m _ o) λu T v w x=>?_;have es:=k.O5 o;have l:=ax.O4 (b:=listOf u.toArray T) es;refine t _ _ _ _ (e.put m (listOf u.toArray T)) j ⟨l,λg B f q=>?_,rfl,rfl⟩ ⟨λg n f=>l _ _ (k.zero g n f),λg n f=>?_,λg n f=>?_⟩ (.lst (ax.O6 ..) (w.mono l) x)
  ·have i:g≠m:=by clear j v es l;rintro rfl;rw [o]at q;exact ag q.symm
   exact⟨f,by unfold I.del;refine Q (Qs i ..) ?_;exact q,ax.OX _ _ i⟩
  ·by_cases i:g=m
   ·clear o j es l;subst i;rw [ax.O6]at f;obtain rfl:=Qj f;exact⟨v,Qt rfl⟩
   ·rw [ax.OX _ _ i]at f;refine ar (k.Oa g n f) λy z=>?_;exact⟨y,by unfold I.del;refine Q (Qs i ..) ?_;exact z⟩
  ·unfold I.del at f;by_cases i:g=m
   ·rw [Qt i]at f;exact ag f
   ·rw [Qs i]at f;exact(k.mt g n f).mono l
theorem nH:∀{z:Nat},jp j n=J z→n.lookup j=J a2→n[z]? =J (j,a2):=by
 induction n with
 |nil=>intro z a;exact ag a
 |cons e i d=>
  intro z a b;obtain⟨f,k⟩:=e;rw [Al]at a;rw [Rx]at b;by_cases c:f=j
  ·subst c;rw [Qt rfl]at a;obtain rfl:=Qj a;rw [R9]at b;clear d;obtain rfl:=Qj b;rfl
  ·rw [Qs c]at a;refine ae (bB a) λl g h=>?_;clear a;subst h;rw [Q0.mpr (RY c)]at b;exact d g b
theorem iS(a:c1 n j=J z):∃a2,n.lookup j=J a2∧hd a2=Qp∧n[z]? =J (j,a2):=by
 exact ae (ci a) λa2 b a=>ar (dD a) λc a=>(fd a2 b c (nH a b))
theorem tV(b:∀j∈n,j.2≠RD)(c:c1 n j=J z):n[z]? =J (j,NameKind.local):=by
 refine bk (iS c) λd e f a=>?_;clear e;induction d using S1 with
 |«local»=>exact a
 |cell=>exact Rz rfl (b _ (QB a))
 |_=>exact bG f.symm
theorem p8(u:c1 n j=J z)(f:bg r y n t e c d.heap lb)(k:(t[z]?).join=J p)
  (l:∀g,ah e p g→ht g d):QQ (QO b a) r (loadName y j) ht hx d:=by
 refine bk (iS u) λm o v q=>?_;have s:y.kindOf j=J m:=by unfold SO;refine Q (f.names ..) ?_;exact o
 clear o;induction m using S1 with
 |«local»=>
  exact ae (f.loc z p j k q) λg h i=>wpAny_loadName_local f.kind s f.ns h (l g i)
 |cell=>
  exact bQ (f.ON z p j _ k q (.inl rfl)) λx g h i w=>wpAny_loadName_cell f.kind s h i (l g w)
 |_=>exact bG v.symm
theorem AG(d:(j==("__debug__" :QA))=Qq)(e:c1 n j=J z):bj b a h f0 x w C n (.Name j l2) (.v z):=by
 intro m o p q r s t u f g v y A B c i D;exact ae c λE k c=>wpAny_Name (p8 e g k λF l=>AF f l c i) d
structure hW(h:Heap)(l0:Str→Option V):Prop where
 at_:∃M9 Nb,h.Ns mainGlobals M9∧h.Ns builtinsNs Nb∧∀j p,l0 j=some p→∃wv,(M9 j=some wv∨(M9 j=none∧Nb j=some wv))∧ah (λi=>h.get? i) p wv
theorem tW(q:hW h l0)(r:(j==("__debug__" :QA))=Qq)(s:n.lookup j=J .globalImplicit)(t:l0 j=J p):bj b a h f0 x w C n (.Name j l2) (.k p):=by
 intro I u K L M N l O g d P R v S y z T;refine bQ q.at_ λV W m A B=>ae (B j p t) λD e E=>?_;have F:u.kindOf j=J .globalImplicit:=by unfold SO;refine Q (d.names ..) ?_;exact s
 have i:∀f c,h.get? f=J c→l.heap.get? f=J c:=λf c k=>(g.Oa f c (g.zero f c k)).1;have o:v D l:=z _ _ _ _ _ y .refl g (E.mono λG c k=>g.zero G c k);refine UG d.kind F ?_ r;rcases e with e|⟨H,e⟩
 ·exact UZ (by refine Q (d.glob ..) ?_;exact m.keeps i) e o
 ·exact UR (by refine Q (d.glob ..) ?_;exact m.keeps i) H (by refine Q (d.blt ..) ?_;exact A.keeps i) e o
end
section
theorem gP(j:aI b a h e c u)(l:u.objs.size≤i):c i=none∧e i=none:=by
 have k:∀d,u.get? i≠some d:=λd m=>Rz (Rs m) (Wj.mpr l);constructor
 ·generalize f:c i=g;induction g using Qm with
  |none=>rfl
  |some d=>exact Rz (j.mt i d f).some_get.choose_spec (k _)
 ·generalize f:e i=g;induction g using Qm with
  |none=>rfl
  |some d=>exact Rz (j.Oa i d f).1 (k _)
theorem AH{e f:Q9}{c:Qo}{d:Type}[DecidableEq d]{g:KeyKind b a d}{h:List (d×Qk)}(i:f.get? c=e.get? c)(j:e.DictOf g c h):f.DictOf g c h:=
 let⟨k,O,l,m,n⟩:=j;⟨k,O,l,i.trans m,n⟩
theorem AI{c:ai}(d:∀q,u.get? i=J q→ho.get? i=J q)(e:Vt (ds b a) u c i):Vt (ds b a) ho c i:=
 let⟨q,f,T,g,h⟩:=e;⟨q,f,T,d _ g,h⟩
theorem fE.heap{m:ax}{n o:Q9}{e:Qo}(f:o.get? e=n.get? e)(p:∀l q,m l=J q→n.get? l=J q→o.get? l=J q){q:aK}(g:fE b a m n e q):fE b a m o e q:=by
 induction q using aK.casesOn with
 |list _=>exact let⟨u,T,c,d⟩:=g;⟨u,T,f.trans c,d⟩
 |dict _=>exact let⟨v,c,d⟩:=g;⟨v,AH f c,d⟩
 |N5 _=>
  refine pt g λw x y z r A=>m8 x λq O B C D E F G H=>⟨w,⟨q,O,B,f.trans C,D,E,F,λh i=>?_,H⟩,y,z,λh i=>let⟨s,j,k⟩:=r h i;⟨s,j,p _ _ j k⟩,A⟩;refine ae (r h i) λs j k=>AI (λK t=>?_) (G h i);rw [k]at t;obtain rfl:=Qj t;exact p _ _ j k
 |ns _=>exact let⟨I,T,c,d⟩:=g;⟨I,T,f.trans c,d⟩
theorem aI.grow(d:aI b a h e c u)(i:∀l q,u.get? l=J q→ho.get? l=J q):aI b a h e c ho:=by
 refine⟨d.zero,λl q f=>⟨i _ _ (d.Oa l q f).1,(d.Oa l q f).2⟩,λl q f=>?_⟩;have aj:=d.mt l q f;exact bY aj.some_get λj g=>fE.heap ‹Q (g ..) (Q (i _ _ g ..) rfl)› (λl q k g=>i _ _ g) aj
theorem aS.push(b:Tp)(f:Nat):aS e c d e c {d with heap:=d.heap.push b,toks:=f}:=
 ⟨λg g a=>a,λi j h a=>(bw (QT _ h) a rfl),rfl,rfl⟩
theorem aI.push(d:aI b a h e c u)(f:Tp):aI b a h e c (u.push f):=d.grow λg g i=>QT _ i
theorem aI.O7(j:aI b a h e c u){k:Tp}(o:u.get? i=J k)(p:c i=U)(m:e i=U):aI b a h (e.put i k) c u:=by
 have l:=ax.O4 (b:=k) m;refine⟨λf g d=>l _ _ (j.zero f g d),λf g d=>?_,λf g d=>(j.mt f g d).mono l⟩;by_cases n:f=i
 ·clear m l;subst n;rw [ax.O6]at d;obtain rfl:=Qj d;exact⟨o,p⟩
 ·rw [ax.OX _ _ n]at d;exact j.Oa f g d
theorem aS.O7(a:aS e c d hn fw M){h:Tp}(j:hn i=U)(k:d.heap.objs.size≤i):aS e c d (hn.put i h) fw M:=
 ⟨λb l f=>ax.O4 j _ _ (a.mono b l f),λb m g f=>by
  refine bf (a.same b m g f) λn o p=>?_;exact(bw n o ((ax.OX _ _ (RA (SP (Rs g) k))).trans p)),a.gens,a.os⟩
theorem AJ{g:V→I→Prop}(i:aI b a h e c d.heap)(j:bh e v G)(k:v.length≤a4)(l:g (.tup v) c)(m:gp b a h e c d g ht):
  ht (.ref d.heap.objs.size) {d with heap:=d.heap.push {cls:=.type "tuple",data:=.seq G.toArray}}:=by
 refine ar (gP i (Qu _)) λn f=>?_;have o:=ax.O4 (b:=({cls:=.type "tuple",data:=.seq G.toArray}:Tp)) f;exact m _ _ _ _ _ l ((aS.push _ d.toks).O7 f (Qu _)) ((i.push _).O7 (Rg _ rfl) n f) (.tup (ax.O6 ..) (j.mono o) k)
theorem aI.add(g:aI b a h e c u){q:aK}(m:e i=U)(l:fE b a e u i q):aI b a h e (c.set i q) u:=by
 refine⟨g.zero,λf j d=>⟨(g.Oa f j d).1,?_⟩,λf j d=>?_⟩
 ·have:f≠i:=by clear l;rintro rfl;rw [m]at d;exact ag d
  unfold I.set;refine Q (Qs this ..) ?_;exact(g.Oa f j d).2
 ·unfold I.set at d;by_cases k:f=i
  ·rw [Qt k]at d;obtain rfl:=Qj d;exact k▸l
  ·rw [Qs k]at d;exact g.mt f j d
theorem aS.add(a:aS e c d hn fw M){q:aK}(f:d.heap.objs.size≤i):aS e c d hn (fw.set i q) M:=
 ⟨a.mono,λg h b j=>by
  refine bf (a.same g h b j) λk l m=>?_;exact(bw k (by unfold I.set;refine Q (Qs (RA (SP (Rs b) f)) ..) ?_;exact l) m),a.gens,a.os⟩
theorem nI{k:V→I→Prop}(g:aI b a h e c d.heap)(l:bh e v G)(i:eW v k c)(m:gp b a h e c d k ht):
  ht (.ref d.heap.objs.size) {d with heap:=d.heap.push {cls:=.type "list",data:=.seq G.toArray}}:=by
 refine ar (gP g (Qu _)) λn f=>?_;rcases i.2 with j|j
 ·exact m _ _ _ _ _ (j _ n) ((aS.push _ d.toks).add (Qu _)) ((g.push _).add f ⟨G,0,Rg _ rfl,l,i.1⟩) (.ref _)
 ·have o:=ax.O4 (b:=({cls:=.type "list",data:=.seq G.toArray}:Tp)) f;exact m _ _ _ _ _ j ((aS.push _ d.toks).O7 f (Qu _)) ((g.push _).O7 (Rg _ rfl) n f) (.lst (ax.O6 ..) (l.mono o) i.1)
end
section
theorem ju{f:Int}{g:V→I→Prop}(N:aI b a h e c d.heap)(i:g (.int f) c)(Nm:gp b a h e c d g ht):ht (.int f d.toks) {d with toks:=d.toks+1}:=
 Nm _ _ _ _ _ i (.toks _) N (.int _ _)
theorem KV{f:V→I→Prop}(N:aI b a h e c d.heap)(g:f (.bool l) c)(Nm:gp b a h e c d f ht):ht (.bool l) d:=
 Nm _ _ _ _ _ g .refl N (.bool _)
theorem KW{a:Int}(b:cA a):a.natAbs<4611686018427387904:=by unfold cA at b;exact(aC 188089094880457107747961402210371112774542600) b (cI _)
theorem AK(a:Nat)(b:List Qk):V4 (λf g:Array Qk=>f++g) #[] (Q6 a b.toArray)=(Q6 a b).flatten.toArray:=by
 have d:∀(a:Nat) (c:List Qk),V4 (λf g:Array Qk=>f++g) c.toArray (Q6 a b.toArray)=(c++(Q6 a b).flatten).toArray:=by
  intro a;induction a with
  |zero=>intro c;simp
  |succ a e=>
   intro c;rw [VU,Tc,VU,List.flatten_cons];have:c.toArray++b.toArray=(c++b).toArray:=by simp
   rw [this,e,QW]
 have:=d a [];simpa using this
theorem tX(N:aI b a h e c u)(f:ah e (.lst v) A):∃i G T,A=.ref i∧e i=J (listOf G.toArray T)∧u.get? i=J (listOf G.toArray T)∧bh e v G∧v.length≤a4:=by
 induction f using ah.PW with
 |lst d g j=>exact(na _ _ _ rfl d ((N.Oa _ _ d).1) g j)
theorem p9(N:aI b a h e c u)(f:ah e (.tup v) A):∃i G T,A=.ref i∧e i=J (hV G T)∧u.get? i=J (hV G T)∧bh e v G∧v.length≤a4:=by
 induction f using ah.PI with
 |tup d g j=>exact(na _ _ _ rfl d ((N.Oa _ _ d).1) g j)
theorem AL{a:Int}(b:0<a)(c:a<1000000000):a.natAbs<1073741824:=by exact(aC 365801119415772478047554339826059073749904) b c (cI _)
theorem AM{a:Int}(b:cA a):Builtin.Int.intBits a≤64:=intBits_le_64 (Ur (by decide) b.1) (Ur b.2 (by decide))
theorem AN{a:Int}(b:0<c2):a.fmod c2=a%c2:=Int.fmod_eq_emod_of_nonneg a (Tn b)
theorem AO{a:Int}(b:0<c2):a.fdiv c2=a/c2:=Int.fdiv_eq_ediv_of_nonneg a (Tn b)
theorem AP{f:List Qk}{j:Nat}{c:Int}{h:Tok}
  (g:d.heap.get? b2=J (listOf f.toArray j))
  (n:0≤c)(p:c<2^63)(l:f.length*c.toNat≤2^24)
  (k:o (.ref d.heap.objs.size) {d with heap:=d.heap.push {cls:=.type "list",data:=.seq (Q6 c.toNat f).flatten.toArray}}):
  QQ (QO b a) r (Vn .Mult (.ref b2) (.int c h)) o B d:=by
 have i:f.toArray.size*c.toNat≤2^24:=by simpa using l
 refine wpAny_binaryOp_repeat_ref (T:= "list") (U:= "int") (by decide) ⟨_,g,rfl⟩ (λq=>typeIs_int q c h) noFill_list_mul F.fills_int_mul F.slot_int_rmul repeat_list F.slot_int_index.lookup
  (Vm F.slot_int_rmul (typeIs_int d c h) F.entry_int_rmul (F.args_int_rmul_2 _ _) (int___rmul___int_list c h b2 f.toArray j)
   ⟨g,rfl,⟨_,g,rfl⟩,Vm F.slot_list_mul ⟨_,g,rfl⟩ F.entry_list_mul (F.args_list_mul_2 _ _)
    (AutoListH.list___mul___list_int_3 b2 f.toArray j c h (by simp [Builtin.List.listFitsIndex];exact⟨Tm (by decide) n,p⟩) (Wj.mpr (Qv i (by decide))) (by simp [Builtin.List.listTooLong,Tl];simp at i;exact(aN 218795145996) i))
    ⟨g,?_⟩⟩)
 by_cases m:f=[]
 ·clear g l i;subst m;have s:(Q6 c.toNat ([]:List Qk)).flatten=[]:=by simp
  rw [s]at k;simpa using k
 ·have t:f.toArray.isEmpty=Qq:=by simp [m]
  rw [t];simp only [Rd,Sx];rw [AK];exact k
theorem AQ(a:List u5)(b:Nat):(Q6 b a).flatten.length=a.length*b:=by
 rw [List.length_flatten,List.map_replicate,List.sum_replicate_nat,Nat.mul_comm]
section
variable{j c2:V}{p:Qk}{o:aD}{B:aV}(N:aI b a h e c d.heap)(NC:ah e j A)(Nx:ah e c2 p)(Nm:gp b a h e c d o ht)
include N NC Nx Nm
theorem AR(e:td j c2 o c):QQ (QO b a) r (Vn .Add A p) ht hx d:=by
 induction NC using ah.casesOn with
 |int v w=>
  refine ae (fT e) λx f e=>?_;subst f;induction Nx using ah.Oq;exact PyProof.Rows.add_int (ju N e Nm)
 |lst m g y=>
  refine ae (pV e) λz f e=>?_;subst f;refine iC (tX N Nx) λn q s f B h i C=>?_;clear Nx;subst f;have k:=e.1;have t:=g.length;have u:=i.length;rw [Qr]at k;have l:=(N.Oa _ _ m).1;refine concat_meets ⟨_,l,rfl⟩ ⟨_,h,rfl⟩ noFill_list_add seq_list_add PySem.F.slot_list_add PySem.F.entry_list_add (PySem.F.args_list_add_2 _ _)
   (list_addW _ n _ q.toArray _ s U U #[] #[] ?_) (bw l h ?_)
  ·rw [Ra,Ra,t,u];exact Qv k (by decide)
  ·rw [List.append_toArray];exact nI N (g.append i) e Nm
 |_=>exact e.elim
theorem AS(e:te j c2 o c):QQ (QO b a) r (Vn .Mult A p) ht hx d:=by
 induction NC using ah.casesOn with
 |int q s=>
  refine ae (fT e) λk f e=>?_;subst f;induction Nx using ah.Oq;exact PySem.P.mul_int (ju N e.2 Nm) (IntMulOk.of_left (AM e.1))
 |lst l g t=>
  refine ae (fT e) λk f e=>?_;subst f;induction Nx using ah.Oq;refine bf e λm n h=>?_;have i:=h.1;rw [AQ]at i;refine AP (N.Oa _ _ l).1 m (Ua n (by decide)) ?_ (nI N (g.flat _) h Nm);rw [g.length];exact Qv i (by decide)
 |_=>exact e.elim
end
theorem AT{t:dP}(u:jq MZ=J t){m:V}{s:Qk}(D:bZ C r)(N:aI b a h e c d.heap)(NC:ah e m A)(Nx:ah e c2 s):
  fF b a h f0 r (Vn MZ A s) e c d (λo Z c=>fA t m c2 o c):=by
 intro o E F G f Nm H;have i:∀{v:Int→Int→Prop},(dB m λm=>dB c2 λc2=>v m c2)→∃j n k p,A=.int j n∧s=.int k p∧v j k:=λq=>by
  refine ae (fT q) λj x q=>ae (fT q) λk y q=>?_;subst x y;induction NC using ah.Oq;induction Nx using ah.Oq;exact(sH _ _ _ _ rfl rfl q)
 induction MZ using Vy<;>first|exact ag u|skip
 all_goals(obtain rfl:=Qj u)
 ·exact AR N NC Nx Nm f
 ·refine kV (i f) λj n k p g l f=>?_;clear NC;subst g;clear Nx i;subst l;exact PyProof.Rows.sub_int (ju N f Nm)
 ·exact AS N NC Nx Nm f
 ·refine kV (i f) λj n k p g l f=>?_;clear NC;subst g;clear Nx i;subst l;refine PyProof.Rows.mod_int (Int.ne_of_gt f.1) ?_;rw [AN f.1];exact ju N f.2 Nm
 ·refine kV (i f) λj n k p g l f=>?_;subst g;clear Nx;subst l;refine cY f λg w z B=>?_;clear f NC i;subst g;refine PyProof.Rows.lshift_int_small w ‹(ay 1653419807540088) w z› (by decide) ?_;rw [Int.one_mul];exact ju N B Nm
 ·refine kV (i f) λj n k p g l f=>?_;clear NC;subst g;clear Nx i;subst l;refine PyProof.Rows.floordiv_int (Int.ne_of_gt f.1) ?_ (.inl (PyProof.noPylong_small (AL f.1 f.2.1)));rw [AO f.1];exact ju N f.2.2 Nm
end
open PySem.SeqAt
section
theorem mg(a:T≤a4):(T:Int)<2^63:=Ua (TO.mpr a) (by decide)
theorem bZ.PK(a:bZ C r):r.units<VZ:=Tr (Qv (QU _ _) a.2.2) (by decide:9000<9900)
theorem bZ.OR(a:bZ C r):r.in1.units<VZ:=Tr (R3 (Qv (QU _ _) a.2.2)) (by decide:9001<9900)
theorem AU{a:Option aK}(b:gj a=some l):∃v,a=some (.list v)∧(!v.isEmpty)=l:=by
 induction a using Qm with
 |none=>exact ag b
 |some a=>induction a using aK.casesOn<;>first|exact ag b|exact(aU _ rfl (Qj b))
theorem qa{q:Bool→Ql→Prop}(t:aI b a h e c d.heap)(v:ah e p A)(g:pL p c=J l)(m:∀D,q l {d with toks:=D}):
  QQ (QO b a) r (truthy A) q B d:=by
 have lst:∀{i:Qo}{k:List V}{j:List Qk}{T:Nat},d.heap.get? i=J (listOf j.toArray T)→bh e k j→k.length≤a4→(!k.isEmpty)=l→QQ (QO b a) r (truthy (.ref i)) q B d:=by
  intro i k j T u n o f;refine wpAny_truthy_list (items:=j.toArray) ⟨_,u,rfl,T,rfl⟩ (mg (Qv (RT n.length) o)) ?_;have w:(!j.toArray.isEmpty)=l:=by
   rw [←f];clear u o f;induction n using aM.casesOn<;>rfl
  rw [w];exact m (d.toks+1+1)
 induction v using ah.casesOn with
 |none=>clear lst;obtain rfl:=Qj g;exact truthy_none (m d.toks)
 |bool z=>clear lst;obtain rfl:=Qj g;exact S6 (m d.toks)
 |int s D=>
  clear lst;obtain rfl:=Qj g;refine truthy_int ?_;have f:(s !=0)=decide (s≠0):=by by_cases x:s=0<;>simp [x]
  rw [f];exact m d.toks
 |lst f n o=>exact lst (t.Oa _ _ f).1 n o (Qj g)
 |ref i=>
  exact ae (AU (a:=c i) g) λk y f=>(t.mt i _ y).elim λj aj=>aj.elim λT aj=>lst aj.1 aj.2.1 aj.2.2 f
 |_=>exact ag g
theorem ah.Ob{a:am}(c:ah e p A)(b:p.Ob=J a):go A=J a∧he a A=Qp:=by
 have:go A=J a:=by
  induction c using ah.casesOn with
  |int f d=>exact b
  |str g d=>exact b
  |_=>exact ag b
 exact⟨this,QD this⟩
def nJ(a:List Qk):Option ai:=fg go a
theorem aM.Ob(b:bh e v G):∀{MO:ai},cZ v=J MO→nJ G=J MO∧MO.length=G.length∧∀(l1:Nat) (A:Qk),G[l1]? =J A→∃a2,MO[l1]? =J a2∧go A=J a2∧he a2 A=Qp:=by
 induction b with
 |nil=>intro MO a;obtain rfl:=Qj a;exact(bw rfl rfl (λl1 A f=>by induction l1 using Rn<;>exact ag f))
 |@cons s A v G g b h=>
  intro MO a;refine bE λt i=>bQ (gn a) λa2 u j k l=>?_;clear a;subst l;refine bf (h k) λm n o=>ar (g.Ob j) λc p=>i ((bw ?_ (QP S9 n) (λl1 q d=>?_)))
  ·show(go A).bind (λr=>(nJ G).map (r::·))=_;rw [c,m];rfl
  ·induction l1 using Rn with
   |zero=>obtain rfl:=Qj d;exact(fd a2 rfl c p)
   |succ l1=>exact o l1 q d
theorem qb{b:am}{a:Qk}(i:he b c2=Qp)(h:he b2 a=Qp):So r d c2 a (decide (b=b2)):=
 js (motive:=λc2 b=>So r d c2 a (decide (b=b2))) i
  (λT c=>js (motive:=λa b2=>So r d (.int T c) a (decide (.inl T=b2))) h (λe f=>by rw [←tQ];exact EqAt.int_int _ _ _ _) λe f=>by rw [Qx λg=>nomatch g];exact EqAt.int_str _ _ _ _)
  λT c=>js (motive:=λa b2=>So r d (.str T c) a (decide (.inr T=b2))) h (λe f=>by rw [Qx λg=>nomatch g];exact EqAt.str_int _ _ _ _) λe f=>by rw [←tR];exact(eqGives_str T e c f).at r d
theorem nK{b:ai}{a:List Qk}(f:∀(l1:Nat) (A:Qk),a[l1]? =J A→∃a2,b[l1]? =J a2∧go A=J a2∧he a2 A=Qp)
  (g:∀(l1:Nat) (A:Qk),MX[l1]? =J A→∃a2,M3[l1]? =J a2∧go A=J a2∧he a2 A=Qp)(l1:Nat)(c:l1<a.toArray.size)(e:l1<MX.toArray.size):So r d a.toArray[l1] MX.toArray[l1] (decide (b[l1]? =M3[l1]?)):=by
 obtain⟨a2,h,_,i⟩:=f l1 a.toArray[l1] (by simp at c;simp [c]);obtain⟨j,k,_,l⟩:=g l1 MX.toArray[l1] (by simp at e;simp [e]);have m:decide (b[l1]? =M3[l1]?)=decide (a2=j):=by rw [h,k];simp
 rw [m];exact qb i l
theorem tY{a:ai}(b:a.length=M3.length):(R4 a.length).all (λl1=>decide (a[l1]? =M3[l1]?))=decide (a=M3):=by
 rw [WO];simp only [Rc,List.mem_range,decide_eq_true_eq];constructor
 ·intro d;refine Wm λl1=>?_;by_cases c:l1<a.length
  ·exact d l1 c
  ·rw [R8 ‹(au 12540706802004) b c›,R8 ‹(au 12736396249428) b c›]
 ·clear b;rintro rfl l1 _;rfl
theorem AV{a:ai}:((R4 (min a.length M3.length)).all (λl1=>decide (a[l1]? =M3[l1]?))&&(a.length==M3.length))=decide (a=M3):=by
 by_cases b:a.length=M3.length
 ·have:min a.length M3.length=a.length:=Nat.min_eq_left (RT b);rw [this,tY b,Sn.mpr b,Bool.and_true]
 ·have c:(a.length==M3.length)=Qq:=Q0.mpr b;rw [c,Bool.and_false];symm;rw [decide_eq_false_iff_not];clear c;rintro rfl;exact b rfl
theorem tZ{a:Qo}{b:List Qk}{c:ai}(f:r.units<VZ)(g:d.heap.get? i=J (hV b T))(h:d.heap.get? a=J (hV MX k))
  (o:bh e v b)(p:bh e L MX)(q:cZ v=J c)(s:cZ L=J M3):VM r d (.ref i) (.ref a) (decide (c=M3))∧U8 r d (.ref i) (.ref a) (!decide (c=M3)):=by
 refine bf (o.Ob q) λt u j=>bf (p.Ob s) λt w l=>?_;have m:b.toArray.size=c.length:=by simp [u]
 have n:MX.toArray.size=M3.length:=by simp [w]
 have aj:=AV (a:=c) (M3:=M3);constructor
 ·have:=RcAt.tuples (A:=r) (s:=d) (l:=i) (b:=a) (items:=b.toArray) (items2:=MX.toArray) ⟨_,g,rfl,T,rfl⟩ ⟨_,h,rfl,k,rfl⟩ f (nK j l);rw [m,n,aj]at this;exact this
 ·have:=RcNeAt.tuples (A:=r) (s:=d) (l:=i) (b:=a) (items:=b.toArray) (items2:=MX.toArray) ⟨_,g,rfl,T,rfl⟩ ⟨_,h,rfl,k,rfl⟩ f (nK j l);rw [m,n,aj]at this;exact this
theorem AW{c:Qo}{a:List Qk}{b:ai}(g:r.units<VZ)(h:d.heap.get? i=J (listOf a.toArray T))(j:d.heap.get? c=J (listOf MX.toArray k))
  (u:bh e v a)(w:bh e L MX)(x:cZ v=J b)(p:cZ L=J M3):VM r d (.ref i) (.ref c) (decide (b=M3))∧U8 r d (.ref i) (.ref c) (!decide (b=M3)):=by
 refine bf (u.Ob x) λq y s=>bf (w.Ob p) λq t n=>?_;have l:a.toArray.size=b.length:=by simp [y]
 have o:MX.toArray.size=M3.length:=by simp [t]
 by_cases m:b.length=M3.length
 ·have f:a.toArray.size=MX.toArray.size:=by rw [l,o,m]
  have aj:=tY m;constructor
  ·have:=RcAt.lists (A:=r) (s:=d) (l:=i) (b:=c) (items:=a.toArray) (items2:=MX.toArray) ⟨_,h,rfl,T,rfl⟩ ⟨_,j,rfl,k,rfl⟩ f g (nK s n);rw [l,aj]at this;exact this
  ·have:=RcNeAt.lists (A:=r) (s:=d) (l:=i) (b:=c) (items:=a.toArray) (items2:=MX.toArray) ⟨_,h,rfl,T,rfl⟩ ⟨_,j,rfl,k,rfl⟩ f g (nK s n);rw [l,aj]at this;exact this
 ·have f:(a.toArray.size !=MX.toArray.size)=Qp:=by rw [l,o];simpa using m
  have aj:decide (b=M3)=Qq:=by rw [decide_eq_false_iff_not];clear p q t n o;rintro rfl;exact m rfl
  rw [aj];exact⟨.lists_lengths (items:=a.toArray) (items2:=MX.toArray) ⟨_,h,rfl,T,rfl⟩ ⟨_,j,rfl,k,rfl⟩ f g,.lists_lengths (items:=a.toArray) (items2:=MX.toArray) ⟨_,h,rfl,T,rfl⟩ ⟨_,j,rfl,k,rfl⟩ f g⟩
theorem AX{a:Option aK}:(k5 p a=p∧∀v,a≠some (.list v))∨∃v,a=some (.list v)∧k5 p a=.lst v:=by
 induction a using Qm with
 |none=>exact .inl ⟨rfl,λc b=>nomatch b⟩
 |some a=>induction a using aK.casesOn<;>first|exact .inr (aU _ rfl rfl)|exact .inl ⟨rfl,λc b=>nomatch b⟩
theorem AY{a b:List V}(c:V.lst a=.lst b):a=b:=by cases c;rfl
theorem nL(f:aI b a h e c u)(g:ah e p A):(dQ p c=p∧∀v,p≠.lst v)∨∃v i G T,dQ p c=.lst v∧A=.ref i∧u.get? i=J (listOf G.toArray T)∧bh e v G∧v.length≤a4:=by
 induction g using ah.casesOn with
 |ref i=>
  rcases AX (p:=.ref i) (a:=c i)with⟨d,_⟩|⟨v,j,d⟩
  ·exact .inl ⟨d,λk u=>nomatch u⟩
  ·exact(f.mt i _ j).elim λG aj=>aj.elim λT aj=>.inr (sH v i G T d rfl aj)
 |lst l m n=>exact .inr (sI _ _ _ _ rfl rfl ((f.Oa _ _ l).1) m n)
 |_=>exact .inl ⟨rfl,λk u=>nomatch u⟩
theorem t1(g:aI b a h e c u)(j:ah e p A)(f:dQ p c=.lst v):∃i G T,A=.ref i∧u.get? i=J (listOf G.toArray T)∧bh e v G∧v.length≤a4:=by
 rcases nL g j with⟨d,k⟩|⟨l,i,G,T,d,aj⟩
 ·exact Rz (d.symm.trans f) (k v)
 ·obtain rfl:=AY (d.symm.trans f);exact(sG i G T aj)
theorem AZ{a:Int}(b:s8 a p=J l):∃l1,p=.int l1∧(a==l1)=l:=by
 induction p using V.casesOn<;>first|exact ag b|exact(aU _ rfl (Qj b))
set_option tactic.hygienic true in
theorem A0{a:QA}(b:s9 a p=J l):∃l1,p=.str l1∧(a==l1)=l:=by
 induction p using V.casesOn<;>first|exact ag b|skip
 rename_i l1;refine(aU l1 rfl ?_);rw [←Qj b];by_cases c:a=l1<;>simp [c]
theorem A1{a:Bool}(b:s7 a p=J l):∃l1,p=.bool l1∧(a==l1)=l:=by
 induction p using V.casesOn<;>first|exact ag b|exact(aU _ rfl (Qj b))
theorem A2(a:s6 p=J l):p=.none∧Qp=l:=by
 induction p using V.casesOn<;>first|exact ag a|exact⟨rfl,Qj a⟩
theorem t2{b c:List V}(a:l6 b c=J l):∃a2 b2,cZ b=J a2∧cZ c=J b2∧decide (a2=b2)=l:=by
 exact ae (ci a) λa2 d a=>ae (bB a) λb2 e a=>(ee a2 b2 d e a)
theorem A3{a:List V}(b:ta a p=J l):∃MX,p=.tup MX∧l6 a MX=J l:=by
 induction p using V.casesOn<;>first|exact ag b|exact(aU _ rfl b)
theorem A4{a:List V}(b:pM a p=J l):∃MX,p=.lst MX∧l6 a MX=J l:=by
 induction p using V.casesOn<;>first|exact ag b|exact(aU _ rfl b)
theorem t3{x:V}{q:Qk}(y:bZ C r)(m:aI b a h e c d.heap)(z:ah e x A)(k:ah e c2 q)(f:ka (dQ x c) (dQ c2 c)=J l):VM r d A q l∧U8 r d A q (!l):=by
 rcases nL m z with⟨o,F⟩|⟨Q,R,S,T,o,rfl,G,s,_⟩
 ·rw [o]at f;have plain:∀{aj:V},dQ c2 c=aj→(∀t,aj≠.lst t)→c2=aj:=λB H=>by
   rcases nL m k with⟨u,_⟩|⟨t,_,_,_,u,_⟩
   ·exact u.symm.trans B
   ·exact Rz (B.symm.trans u) (H t)
  clear o;induction z using ah.casesOn with
  |none=>
   refine ar (A2 f) λj i=>?_;subst i;clear f;obtain rfl:=plain j λn g=>nomatch g;induction k using ah.Pl;exact⟨RcAt.none_none,RcNeAt.none_none⟩
  |bool D=>
   refine ae (A1 f) λE j i=>?_;subst i;clear f;obtain rfl:=plain j λn g=>nomatch g;induction k using ah.PG;exact⟨RcAt.bool_bool _ _,RcNeAt.bool_bool _ _⟩
  |int D=>
   refine ae (AZ f) λE j i=>?_;subst i;clear f;obtain rfl:=plain j λn g=>nomatch g;induction k using ah.Oq;exact⟨RcAt.int_int _ _ _ _,RcNeAt.int_int _ _ _ _⟩
  |str D=>
   refine ae (A0 f) λE j i=>?_;subst i;clear f;obtain rfl:=plain j λn g=>nomatch g;induction k using ah.PH;exact⟨RcAt.str_str _ _ _ _,RcNeAt.str_str _ _ _ _⟩
  |tup I s p=>
   refine ae (A3 f) λK j g=>?_;obtain rfl:=plain j λn g=>nomatch g;refine bQ (t2 g) λL M v p i=>?_;clear g f;subst i;induction k using ah.PI with
   |tup N w _=>exact tZ y.PK (m.Oa _ _ I).1 (m.Oa _ _ N).1 s w v p
  |lst=>exact Rz rfl (F _)
  |_=>exact ag f
 ·rw [o]at f;refine bE λW O=>ae (A4 f) λK j g=>bQ (t2 g) λL M v p i=>?_;clear f g;subst i;refine iB (t1 m k j) λX Y Z i P w n=>?_;clear k;subst i;exact O (AW y.PK G P s w v p)
end
open PySem.SeqAt
section
structure iT(h:Heap):Prop where
 at_:∃q,h.get? sysModules=some q
theorem lc(f:iT h)(d:aI b a h e c u){g:aK}(j:c i=J g):(i==sysModules)=Qq:=by
 refine bY f.at_ λl k=>Q0.mpr ?_;rintro rfl;have:=(d.Oa _ _ (d.zero _ _ k)).2;rw [j]at this;cases this
theorem A5(E:bh e v G):∀{MO:ai},cZ v=J MO→ItemsAre (ds b a) MO G:=by
 induction E with
 |nil=>intro MO c;obtain rfl:=Qj c;exact .nil
 |cons d E f=>
  intro MO c;refine bQ (gn c) λi j Ny g h=>?_;clear c;subst h;exact .cons (d.Ob Ny).2 (f g)
theorem nM{a:ai}(b:p.Oz=J a):∃v,p=.tup v∧cZ v=J a:=by
 induction p using V.casesOn<;>first|exact ag b|exact(aU _ rfl b)
theorem nN{f:ai}(k:aI b a h e c u)(l:ah e p A)(d:p.Oz=J f):∃i G T,A=.ref i∧e i=J (hV G T)∧u.get? i=J (hV G T)∧Vt (ds b a) u f i∧nJ G=J f:=by
 refine ae (nM d) λm n d=>?_;subst n;cases l with
 |@tup m i G T g E _=>exact have j:=(k.Oa _ _ g).1;(na i G T rfl g j ⟨_,G.toArray,T,j,rfl,rfl,A5 E d⟩ ((E.Ob d).1))
section
variable[DecidableEq MN]{NO:V→Option MN}{NP:Qk→Option MN}(Ny:∀{p A a2},ah e p A→NO p=J a2→NP A=J a2){a2:MN}(E:bh e v G)
include Ny E
theorem t4:∀{MO:List MN},fg NO v=J MO→G.any (λc2=>decide (NP c2=J a2))=MO.any λc2=>decide (c2=a2):=by
 induction E with
 |nil=>intro MO a;obtain rfl:=Qj a;rfl
 |cons b E c=>
  intro MO a;refine bQ (gn a) λg h d e f=>?_;clear a;subst f;refine Q (T2 ..) (Q (T2 ..) (Q (c e ..) (Q (Ny b d ..) ?_)));simp only [Tb]
theorem qc{c:Qk}(i:∀{p c2 f},ah e p c2→NO p=J f→So r d c2 c (decide (f=a2))):∀{MO:List MN},fg NO v=J MO→∀c2,c2∈G→So r d c2 c (decide (NP c2=J a2)):=by
 induction E with
 |nil=>intro MO b c2 a;cases a
 |cons g E j=>
  intro MO b c2 a;refine bQ (gn b) λf m h k l=>?_;clear b;subst l;rcases QX.mp a with rfl|a
  ·refine Q (Ny g h ..) ?_;simp only [Tb];exact i g h
  ·exact j k c2 a
end
def t5(a:Tp):Option ai:=match a.data with
 |.seq M2 _=>nJ M2.toList
 |_=>U
def t6(a:ax):Qk→Option ai
 |.ref i=>(a i).bind t5
 |_=>U
theorem nO{b:ai}(c:ah e p A)(a:p.Oz=J b):t6 e A=J b:=by
 refine ae (nM a) λg d a=>?_;subst d;cases c with
 |tup f E h=>show(e _).bind t5=_;refine Q (f ..) ?_;exact(E.Ob a).1
theorem A6{j:ai}{k:Qk}(s:r.units<VZ)(l:aI b a h e c d.heap)(m:ah e p c2)(n:ah e L k)(f:p.Oz=J j)(g:L.Oz=J b2):So r d c2 k (decide (j=b2)):=by
 have t:=nO m f;have u:=nO n g;refine ae (nM f) λz i f=>?_;subst i;refine ae (nM g) λA i g=>?_;subst i;cases m with
 |@tup _ v _ _ w E _=>
  cases n with
  |@tup _ x _ _ o y _=>
   by_cases q:v=x
   ·clear o;subst q;refine Q (QD (Qj (t.symm.trans u)) ..) ?_;exact EqAt.same _
   ·exact EqAt.of_refs q (tZ s (l.Oa _ _ w).1 (l.Oa _ _ o).1 E y f g).1
theorem t7{m:V}(s:r.units<VZ)(t:aI b a h e c d.heap)(o:ah e m A)(E:bh e v G)(f:gL m v=some l):∃g:Qk→Bool,(∀c2,c2∈G.toArray→So r d c2 A (g c2))∧G.toArray.any g=l:=by
 have f:tb m.Ob m.Oz v=some l:=f;have p:∀{g:Qk→Bool}{q:Bool},(∀c2,c2∈G→So r d c2 A (g c2))→G.any g=q→q=l→∃g:Qk→Bool,(∀c2,c2∈G.toArray→So r d c2 A (g c2))∧G.toArray.any g=l:=
  λi n u=>(aU _ (λc2 w=>i c2 (Wx.mp w)) ((List.any_toArray).trans (n.trans u)))
 generalize Ny:m.Ob=x;induction x using Qm with
 |some y=>
  rw [Ny]at f;exact ae (bB f) λz i n=>p (qc (NP:=go) (λj k=>(j.Ob k).1) E (λj k=>qb (j.Ob k).2 (o.Ob Ny).2) i) (t4 (λj k=>(j.Ob k).1) E i) n
 |none=>
  rw [Ny]at f;exact ae (ci f) λy Ny f=>ae (bB f) λz i n=>p (qc (NP:=t6 e) nO E (λj k=>A6 s t j o k Ny) i) (t4 nO E i) n
theorem t8[DecidableEq MN]{e:V→MQ→Prop}{b:MN}:∀{u2:List (MN×MQ)}{O:List (MN×V)},u2.map (·.1)=O.map (·.1)→aM e (O.map (·.2)) (u2.map (·.2))→(∀p,bA b O=J p→∃A,(u2.find? λj=>decide (j.1=b)).map (·.2)=J A∧e p A)∧(bA b O=U→(u2.find? λj=>decide (j.1=b)).map (·.2)=U):=by
 intro u2;induction u2 with
 |nil=>intro O d f;obtain rfl:=Ti.mp d.symm;exact⟨λf a=>ag a,λf=>rfl⟩
 |cons j u2 h=>
  intro O d E;induction O using QH with
  |nil=>cases d
  |cons l O=>
   refine ar (Sd d) λg i=>?_;have k:=aM.hd E;have E:=aM.Pk E
   ·refine Q (TL ..) ?_;refine Q (ha ..) ?_;by_cases a:j.1=b
    ·refine Q (QD a ..) (Q (Qt (g.symm.trans a) ..) ?_);exact⟨λp c=>by obtain rfl:=Qj c;exact(aU _ rfl k),λc=>ag c.symm⟩
    ·refine Q (Qx a ..) (Q (Qs (λc=>a (g.trans c)) ..) ?_);exact h i E
section
theorem qd{a:am}{b:List (am×V)}(c:v2.map (·.1)=b.map (·.1))(E:bh e (b.map (·.2)) (v2.map (·.2))):(∀p,bA a b=J p→∃A,valueAt v2 a=J A∧ah e p A)∧(bA a b=U→valueAt v2 a=U):=t8 c E
theorem aM.snd{b:u5→MQ→Prop}(c:Nf→MQ):∀{u3:List u5}{b2:List Nf},aM b u3 (b2.map c)→aM (λi w=>b i (c w)) u3 b2:=by
 intro u3 b2;induction b2 generalizing u3 with
 |nil=>intro a;cases a;exact .nil
 |cons w b2 d=>intro a;cases a with|cons i E=>exact .cons i (d E)
theorem aM.map{a:u5→MQ→Prop}(b:Nf→MQ){c:List u5}(d:aM (λi w=>a i (b w)) c b2):aM a c (b2.map b):=by
 induction d with
 |nil=>exact .nil
 |cons i _ e=>exact .cons i e
theorem qe{a:ai}{b:List (ai×V)}(d:u2.map (·.1)=b.map (·.1))(E:bh e (b.map (·.2)) (u2.map (·.2.2))):(∀p,bA a b=J p→∃A,UX u2 a=J A∧ah e p A.2)∧(bA a b=U→UX u2 a=U):=
 t8 (e:=λp (A:Qo×Qk)=>ah e p A.2) d (aM.map (a:=λp (A:Qo×Qk)=>ah e p A.2) (λc:ai×Qo×Qk=>c.2) (aM.snd (λc:ai×Qo×Qk=>c.2.2) E))
theorem A7{a:am}{b:List (am×V)}(f:v2.map (·.1)=b.map (·.1))(E:bh e (b.map (·.2)) (v2.map (·.2))):(valueAt v2 a).isSome=(bA a b).isSome:=by
 have c:=qd f E (a:=a);generalize d:bA a b=g;induction g using Qm with
 |none=>refine Q (c.2 d ..) ?_;rfl
 |some h=>refine ae (c.1 h d) λi c j=>?_;refine Q (c ..) ?_;rfl
theorem A8{a:ai}{b:List (ai×V)}(f:u2.map (·.1)=b.map (·.1))(E:bh e (b.map (·.2)) (u2.map (·.2.2))):(UX u2 a).isSome=(bA a b).isSome:=by
 have c:=qe f E (a:=a);generalize d:bA a b=g;induction g using Qm with
 |none=>refine Q (c.2 d ..) ?_;rfl
 |some h=>refine ae (c.1 h d) λi c j=>?_;refine Q (c ..) ?_;rfl
end
theorem t9{z:V}{F:Qk}(v:iT h)(w:bZ C r)(i:aI b a h e c d.heap)(p:ah e z A)(K:ah e c2 F)(f:l7 z c2 c=some l)
  :((∀D,o (.bool l) {d with toks:=D})→QQ (QO b a) r (UO .In A F) o B d)∧((∀D,o (.bool (!l)) {d with toks:=D})→QQ (QO b a) r (UO .NotIn A F) o B d):=by
 induction K using ah.casesOn with
 |@tup _ m x T G E L=>
  refine ae (t7 w.OR i p E f) λq j k=>?_;clear f;subst k;have s:TB d.heap m x.toArray:=⟨_,(i.Oa _ _ G).1,rfl,T,rfl⟩;exact⟨λg=>in_tupleAt q s j (g d.toks),λg=>notIn_tupleAt q s j (g d.toks)⟩
 |@lst _ m x T G E L=>
  refine ae (t7 w.OR i p E f) λq j k=>?_;clear f;subst k;have s:d.heap.IsList m x.toArray:=⟨_,(i.Oa _ _ G).1,rfl,T,rfl⟩;exact⟨λg=>in_listAt q s j (g d.toks),λg=>notIn_listAt q s j (g d.toks)⟩
 |ref m=>
  have f:k4 z (c m)=some l:=f;generalize n:c m=M;induction M using Qm with
  |none=>rw [n]at f;exact ag f
  |some N=>
   rw [n]at f;have aj:=i.mt _ _ n;induction N using aK.casesOn with
   |dict O=>
    refine ae (bB f) λH j k=>?_;clear f;clear f;subst k;refine ft aj λR t I E y=>?_;have u:=A7 I E (a:=H);exact⟨λg=>wpAny_in_of (p.Ob j).2 (lc v i n) t.mapOf (by refine Q (u ..) ?_;exact g _),λg=>wpAny_notIn_of (p.Ob j).2 (lc v i n) t.mapOf (by refine Q (u ..) ?_;exact g _)⟩
   |N5 O=>
    refine bE λS P=>ae (bB f) λH j k=>?_;clear f;clear f;subst k;refine ft aj λW t I E y=>iC (nN i p j) λm x T k y y Ny y=>?_;clear p;subst k;refine P ?_;have u:=A8 I E (a:=H);exact⟨λg=>wpAny_in_heap (knd:=Sy (ds b a)) w.OR Ny (lc v i n) t (by refine Q (u ..) ?_;exact g _),λg=>wpAny_notIn_heap (knd:=Sy (ds b a)) w.OR Ny (lc v i n) t (by refine Q (u ..) ?_;exact g _)⟩
   |_=>exact ag f
 |_=>exact ag f
theorem ub{a:V}(c:ah e a A)(b:iI a=J l):(A== .none)=l:=by
 induction c using ah.casesOn<;>first|exact ag b|exact Qj b
theorem uc{a:V}(b:pN a c2=J l):c2=.none∧iI a=J l:=by
 induction c2 using V.casesOn<;>first|exact ag b|exact⟨rfl,b⟩
theorem A9{c:Int→Int→Bool}{a:V}(b:k2 c a c2=J l):∃z l1,a=.int z∧c2=.int l1∧c z l1=l:=by
 induction a using V.casesOn with
 |int z=>induction c2 using V.casesOn<;>first|exact ag b|exact(ee _ _ rfl rfl (Qj b))
 |_=>exact ag b
theorem nP{k:Q5}{u:V}{v:Qk}(z:iT h)(s:bZ C r)(t:aI b a h e c d.heap)(g:ah e u A)(i:ah e c2 v)(f:kb k u c2 c=J l)
  (j:∀D,o (.bool l) {d with toks:=D}):QQ (QO b a) r (UO k A v) o B d:=by
 have m:∀{k:Q5}{F:Int→Int→Bool},k2 F u c2=J l→(∀{w x:Int}{D E:Tok},o (.bool (F w x)) d→QQ (QO b a) r (UO k (.int w D) (.int x E)) o B d)→QQ (QO b a) r (UO k A v) o B d:=λf H=>by
  refine bQ (A9 f) λw x p y I=>?_;subst p y;induction g using ah.Oq;induction i using ah.Oq;exact H (by refine Q (I ..) ?_;exact j d.toks)
 induction k using PySem.CmpOp.casesOn
 ·exact(t3 s t g i f).1 b a B o (j d.toks)
 ·refine ae (bB f) λG n q=>(t3 s t g i n).2 b a B o (Q (q ..) ?_);exact j d.toks
 ·exact m f PyProof.Rows.lt_int
 ·exact m f PySem.P.le_int
 ·exact m f PyProof.Rows.gt_int
 ·exact m f PySem.P.ge_int
 ·refine ar (uc f) λp f=>?_;subst p;clear m;induction i using ah.Pl;refine is_none (Q (ub g f ..) ?_);exact j d.toks
 ·refine ae (bB f) λG n q=>ar (uc n) λp y=>?_;clear f n;subst p;clear m;induction i using ah.Pl;refine isNot_none (Q (ub g y ..) (Q (q ..) ?_));exact j d.toks
 ·exact(t9 z s t g i f).1 j
 ·refine ae (bB f) λG n q=>(t9 z s t g i n).2 (Q (q ..) ?_);exact j
end
section
variable(b:QG)(a:QV)(h:Q9)(f0:bp)(x:aO)(w:aR)(C:Nat)
def qf(e:QN)(g:WJ Bool)(f:ax)(c:I)(d:Ql)(i:(Bool→I→Prop)→aV→I→Prop):Prop:=
 ∀{o:Bool→I→Prop}{B:aV}{ht:Bool→Ql→Prop}{hx:Qk→Ql→Prop},i o B c→mf b a h f c d o ht→fU f0 f c d e B hx→QQ (QO b a) e g ht hx d
def eu(i:aL)(j:Qy)(k:aa):Prop:=∀{r:QN}{y:Sj}{t:aq}{e:ax}{c:I}{lb:QA→Option Qk}{d:Ql},bZ C r→aI b a h e c d.heap→bg r y i t e c d.heap lb→
 ∀{f:WJ Qk}{g:aD→aV→I→Prop},fF b a h f0 r f e c d g→qf b a h f0 r (isTrue j y f) e c d (bN x w k g t)
def ev(c:aL)(d:List Qy)(e:List aa):Prop:=aM (λs D=>bj b a h f0 x w C c s D∧eu b a h f0 x w C c s D∧eX s=Qq) d e
end
section
theorem mf.back{f:Bool→I→Prop}{g:Bool→Ql→Prop}(i:aS e c d M0 bl MP)(j:mf b a h e c d f g):mf b a h M0 bl MP f g:=
 λk l m n o p q=>j k l m n o (i.trans p) q
theorem p7.back{f:List V→I→Prop}{g:List Qk→Ql→Prop}(i:aS e c d M0 bl MP)(j:p7 b a h e c d f g):p7 b a h M0 bl MP f g:=
 λk l m n o p q r s=>j k l m n o p (i.trans q) r s
theorem ue{g:Bool→I→Prop}{i:Bool→Ql→Prop}(l:aS m L ap e c d)(j:aI b a h e c d.heap)(n:ah e p A)
  (f:gM p g c)(o:mf b a h m L ap g i):QQ (QO b a) r (truthy A) i hx d:=
 f.elim λq f=>qa j n f.1 λk=>o _ _ _ _ f.2 (l.trans (.toks k)) (j.toks k)
def uf:aa→Bool
 |.not _=>Qq
 |.and _=>Qq
 |.or _=>Qq
 |.Oe .. =>Qq
 |.cmp .. =>Qq
 |_=>Qp
theorem Ba(e:uf D=Qp){a:aD→aV→I→Prop}{b:Bool→I→Prop}{d:aV}(f:bN x w D a t b d c):a (λp bl=>gM p b bl) d c:=by
 induction D using aa.casesOn<;>first|exact bG e.symm|exact f
theorem fV(d:∀y (f:WJ Qk),isTrue s y f=(do let p ←f;standAt s.pos;UD [p] (truthy p)))
  (e:uf D=Qp):eu b a h f0 x w C n s D:=by
 intro r y t u v z A Nc N B f E g F G H I i j k;exact wpAny_isTrue_value (g (Ba e i) (λc c c c c l m o q=>ue m o q l j) k) (d y f)
theorem Bb(e:bj b a h f0 x w C n s D):bj b a h f0 x w C n (.UnaryOp .Not s l2) (.not D):=by
 intro u v y z A B E Nc N f g F G H i j k;refine wpAny_UnaryOp (e Nc N f i (λI K L M O c l m o=>not_of ?_) k);exact ue (g:=λp q=>g (.bool (!p)) q) l m o c λd d d d c r t=>j _ _ _ _ _ c r t (.bool _)
theorem Bc(d:bj b a h f0 x w C n s D)(e:eu b a h f0 x w C n s D):eu b a h f0 x w C n (.UnaryOp .Not s l2) (.not D):=by
 intro m o p q r t u Nc N c v y z A B E F f g i;exact wpAny_isTrue_Not (e Nc N c (d Nc N c) f (λG H I K j k l=>g _ _ _ _ j k l) i)
theorem Bd(d:bj b a h f0 x w C n s D):bj b a h f0 x w C n (.UnaryOp .USub s l2) (.neg D):=by
 intro o p q r t u v Nc N e y z A B f g i;refine wpAny_UnaryOp (d Nc N e f (λE F G H I c j k l=>?_) i);refine ae (fT c) λK m c=>?_;subst m;induction l using ah.Oq;exact PySem.P.neg_int (ju k c (g.back j))
theorem Be:eu b a h f0 x w C n (.UnaryOp .USub s l2) (.neg D):=fV (λc c=>rfl) rfl
theorem Bf(Nr:d3 f0){e g:Qy}{i:aa}(m:bj b a h f0 x w C n e D)(o:eu b a h f0 x w C n e D)(p:bj b a h f0 x w C n g i)(q:bj b a h f0 x w C n s c2):
  bj b a h f0 x w C n (.IfExp e g s l2) (.Oe D i c2):=by
 intro u v y z A B E Nc N d F G H I r j f;refine wpAny_IfExp (o Nc N d (m Nc N d) r (λt K L M k c l=>?_) f);induction t using Qz
 ·exact q Nc l (d.ext c) (k.2 rfl) (j.back c) (f.back Nr c)
 ·exact p Nc l (d.ext c) (k.1 rfl) (j.back c) (f.back Nr c)
theorem Bg(Nr:d3 f0){f g:Qy}{j:aa}(o:bj b a h f0 x w C n f D)(p:eu b a h f0 x w C n f D)(q:bj b a h f0 x w C n g j)(r:eu b a h f0 x w C n g j)(t:bj b a h f0 x w C n s c2)(u:eu b a h f0 x w C n s c2):
  eu b a h f0 x w C n (.IfExp f g s l2) (.Oe D j c2):=by
 intro v d F G H I y Nc N e K L M O P z A B l k;show QQ (QO b a) v (do if←isTrue f d (TD f d)then isTrue g d (TD g d)else isTrue s d (TD s d)) z A y;refine Qn (p Nc N e (o Nc N e) B (λE Q R S m c i=>?_) k);induction E using Qz
 ·exact u Nc i (e.ext c) (t Nc i (e.ext c)) (m.2 rfl) (l.back c) (k.back Nr c)
 ·exact r Nc i (e.ext c) (q Nc i (e.ext c)) (m.1 rfl) (l.back c) (k.back Nr c)
def ug(a:QG)(b:QV)(f:Q9)(f0:bp)(g:QN)(h:Sj)(i:aL)(j:aq)(k:QA→Option Qk)(l:WJ Qk)(m:aD→aV→I→Prop):Prop:=∀{e:ax}{c:I}{d:Ql},aI a b f e c d.heap→bg g h i j e c d.heap k→fF a b f f0 g l e c d m
def cO(a:QG)(b:QV)(f:Q9)(f0:bp)(g:QN)(h:Sj)(i:aL)(j:aq)(k:QA→Option Qk)(l:WJ Bool)(m:(Bool→I→Prop)→aV→I→Prop):Prop:=∀{e:ax}{c:I}{d:Ql},aI a b f e c d.heap→bg g h i j e c d.heap k→qf a b f f0 g l e c d m
def Bh(a:QG)(b:QV)(f:Q9)(f0:bp)(g:QN)(h:Sj)(i:aL)(k:aq)(l:QA→Option Qk)(m:Qk→WJ Qk)(n:V→aD→aV→I→Prop):Prop:=∀{e:ax}{c:I}{d:Ql}{j:V}{A:Qk},aI a b f e c d.heap→bg g h i k e c d.heap l→ah e j A→fF a b f f0 g (m A) e c d (n j)
def Bi(a:QG)(b:QV)(f:Q9)(f0:bp)(g:QN)(h:Sj)(i:aL)(k:aq)(l:QA→Option Qk)(m:Qk→WJ Bool)(n:V→(Bool→I→Prop)→aV→I→Prop):Prop:=∀{e:ax}{c:I}{d:Ql}{j:V}{A:Qk},aI a b f e c d.heap→bg g h i k e c d.heap l→ah e j A→qf a b f f0 g (m A) e c d (n j)
section
variable(Nr:d3 f0)(Nc:bZ C r)(Nv:ev b a h f0 x w C n O ML)(l2:Si)
include Nr Nc Nv
theorem Bj:cO b a h f0 r y n t lb (allTrue .And O y) (hP x w ML t):=by
 induction Nv with
 |nil=>intro l m o N c p q s u f d g;exact wpAny_allTrue_And_nil (d _ _ _ _ f .refl N)
 |cons i A v=>
  intro l m o N c p q s u f d g;refine wpAny_allTrue_And_cons (i.2.1 Nc N c (i.1 Nc N c) f (λz B C D j e k=>?_) g);induction z using Qz
  ·exact d _ _ _ _ (j.2 rfl) e k
  ·exact v k (c.ext e) (j.1 rfl) (d.back e) (g.back Nr e)
theorem Bk:cO b a h f0 r y n t lb (allTrue .Or O y) (hQ x w ML t):=by
 induction Nv with
 |nil=>intro l m o N c p q s u f d g;exact wpAny_allTrue_Or_nil (d _ _ _ _ f .refl N)
 |cons i A v=>
  intro l m o N c p q s u f d g;refine wpAny_allTrue_Or_cons (i.2.1 Nc N c (i.1 Nc N c) f (λz B C D j e k=>?_) g);induction z using Qz
  ·exact v k (c.ext e) (j.2 rfl) (d.back e) (g.back Nr e)
  ·exact d _ _ _ _ (j.1 rfl) e k
theorem Bl:ug b a h f0 r y n t lb (boolOp l2 .And (UF O y)) (kd x w ML t):=by
 induction Nv with
 |nil=>intro l m o N c p q s u d e f;exact d.elim
 |cons v z C=>
  induction z using aM.casesOn with
  |nil=>intro l m o N c p q s u d e f;exact v.1 Nc N c d e f
  |@cons F _ O _ G z=>
   intro l m o N c p q s u d e f;refine Qn (v.1 Nc N c d (λH I K L M g D j A=>?_) f);refine ae g λE B g=>Qn (Rf (Qn (Q4 (qa j A B λk=>?_))));have i:=D.trans (aS.toks k);clear B;induction E using Qz
   ·exact QM (e _ _ _ _ _ (g.2 rfl) i (j.toks k) A)
   ·exact C (j.toks k) (c.ext i) (g.1 rfl) (e.back i) (f.back Nr i)
theorem Bm:ug b a h f0 r y n t lb (boolOp l2 .Or (UF O y)) (iK x w ML t):=by
 induction Nv with
 |nil=>intro l m o N c p q s u d e f;exact d.elim
 |cons v z C=>
  induction z using aM.casesOn with
  |nil=>intro l m o N c p q s u d e f;exact v.1 Nc N c d e f
  |@cons F _ O _ G z=>
   intro l m o N c p q s u d e f;refine Qn (v.1 Nc N c d (λH I K L M g D j A=>?_) f);refine ae g λE B g=>Qn (Rf (Qn (Q4 (qa j A B λk=>?_))));have i:=D.trans (aS.toks k);clear B;induction E using Qz
   ·exact C (j.toks k) (c.ext i) (g.2 rfl) (e.back i) (f.back Nr i)
   ·exact QM (e _ _ _ _ _ (g.1 rfl) i (j.toks k) A)
end
section
variable(Nr:d3 f0)(Nv:ev b a h f0 x w C n O ML)
include Nr Nv
theorem Bn:eu b a h f0 x w C n (.BoolOp .And O l2) (.and ML):=by
 intro g i j k l m o Nc N c p q r s t u v d e f;exact wpAny_isTrue_BoolOp (Bj Nr Nc Nv N c d e f)
theorem Bo:eu b a h f0 x w C n (.BoolOp .Or O l2) (.or ML):=by
 intro g i j k l m o Nc N c p q r s t u v d e f;exact wpAny_isTrue_BoolOp (Bk Nr Nc Nv N c d e f)
theorem Bp:bj b a h f0 x w C n (.BoolOp .And O l2) (.and ML):=by
 intro g i j k l m o Nc N c p q r s d e f;exact Q (arm_eval_BoolOp ..) (Bl Nr Nc Nv l2 N c d e f)
theorem Bq:bj b a h f0 x w C n (.BoolOp .Or O l2) (.or ML):=by
 intro g i j k l m o Nc N c p q r s d e f;exact Q (arm_eval_BoolOp ..) (Bm Nr Nc Nv l2 N c d e f)
end
section
variable(Nr:d3 f0)(Nt:iT h)(Nc:bZ C r)(l2:Si)(Nv:ev b a h f0 x w C n O ML)
include Nr Nt Nc Nv
theorem Br:∀{Nk:List Q5},Bh b a h f0 r y n t lb (λA=>compareChain l2 A Nk (UF O y)) (λj o B c=>iL x w j Nk ML t (λE L=>o (.bool E) L) B c):=by
 induction Nv with
 |nil=>intro Nk;induction Nk using QH with
  |nil=>intro l c m j A N e i o B p q d f g;exact d.elim
  |cons R Nk=>induction Nk using QH<;>(intro l c m j A N e i o B p q d f g;exact d.elim)
 |cons F E G=>
  intro Nk;induction Nk using QH with
  |nil=>intro l c m j A N e i o B p q d f g;exact d.elim
  |cons S Nk=>
   induction Nk using QH with
   |nil=>
    clear G;induction E using aM.casesOn with
    |cons _ _=>intro l c m j A N e i o B p q d f g;exact d.elim
    |nil=>
     intro l c m j A N e i o B p q d f g;refine chain_last (F.1 Nc N e d (λI K M P Q k v s z=>?_) g);exact ae k λH C k=>nP Nt Nc s (i.mono v.mono) z C λu=>f _ _ _ _ _ k (v.trans (.toks u)) (s.toks u) (.bool _)
   |cons T Nk=>
    induction E using aM.casesOn with
    |nil=>intro l c m j A N e i o B p q d f g;exact d.elim
    |cons V E=>
     intro l c m j A N e i o B p q d f g;refine chain_link (F.1 Nc N e d (λI K M P Q k v s z=>?_) g);refine ae k λH C k=>nP Nt Nc s (i.mono v.mono) z C λu=>S6 ?_;have D:=v.trans (aS.toks u);clear C;induction H using Qz
     ·exact f _ _ _ _ _ (k.2 rfl) D (s.toks u) (.bool _)
     ·exact G (s.toks u) (e.ext D) z (k.1 rfl) (f.back D) (g.back Nr D)
theorem Bs:∀{Nk:List Q5},Bi b a h f0 r y n t lb (λA=>testChain l2 A Nk (UF O y)) (λj=>iL x w j Nk ML t):=by
 induction Nv with
 |nil=>intro Nk;induction Nk using QH with
  |nil=>intro k l m j A N d g o p q s c e f;exact c.elim
  |cons Q Nk=>induction Nk using QH<;>(intro k l m j A N d g o p q s c e f;exact c.elim)
 |cons F E G=>
  intro Nk;induction Nk using QH with
  |nil=>intro k l m j A N d g o p q s c e f;exact c.elim
  |cons R Nk=>
   induction Nk using QH with
   |nil=>
    clear G;induction E using aM.casesOn with
    |cons _ _=>intro k l m j A N d g o p q s c e f;exact c.elim
    |nil=>
     intro k l m j A N d g o p q s c e f;refine test_last (F.1 Nc N d c (λI K L M P i z u B=>?_) f);exact ae i λH C i=>nP Nt Nc u (g.mono z.mono) B C λv=>S6 (e _ _ _ _ i (z.trans (.toks v)) (u.toks v))
   |cons S Nk=>
    induction E using aM.casesOn with
    |nil=>intro k l m j A N d g o p q s c e f;exact c.elim
    |cons T E=>
     intro k l m j A N d g o p q s c e f;refine test_link (F.1 Nc N d c (λI K L M P i z u B=>?_) f);refine ae i λH C i=>nP Nt Nc u (g.mono z.mono) B C λv=>S6 ?_;have D:=z.trans (aS.toks v);clear C;induction H using Qz
     ·exact e _ _ _ _ (i.2 rfl) D (u.toks v)
     ·exact G (u.toks v) (d.ext D) B (i.1 rfl) (e.back D) (f.back Nr D)
end
theorem uh{a:List Q5}:∀{O:List Qy},((a.zip O).all λs=>!VK s.1 s.2)=Qp→lastMarks a O=Qq:=by
 induction a with
 |nil=>intro O g;rfl
 |cons e a c=>
  intro O b;induction O using QH with
  |nil=>clear c b;induction a using QH<;>rfl
  |cons s O=>
   refine ar (QC.mp b) λf d=>?_;induction a using QH with
   |nil=>clear b d;induction O using QH with
    |nil=>exact iM f
    |cons _ _=>rfl
   |cons e a=>exact c d
section
variable(Nr:d3 f0)(Nt:iT h){b2:Qy}{i:aa}{Nk:List Q5}(NQ:((Nk.zip O).all λs=>!VK s.1 s.2)=Qp)(NR:bj b a h f0 x w C n b2 i)(Nv:ev b a h f0 x w C n O ML)
include Nr Nt NQ NR Nv
theorem Bt:bj b a h f0 x w C n (.Compare b2 Nk O l2) (.cmp i Nk ML):=by
 intro g d s t u v j Nc N e y z k l m o f;show QQ (QO b a) g (do compareChain l2 (←TD b2 d) Nk (markedEach Nk O (UF O d))) k l j;exact Q (TP _ _ _ (uh NQ) ..) (Qn (NR Nc N e m (λA B D E F p c q r=>Br Nr Nt Nc l2 Nv q (e.ext c) r p (o.back c) (f.back Nr c)) f))
theorem Bu:eu b a h f0 x w C n (.Compare b2 Nk O l2) (.cmp i Nk ML):=by
 intro g d s t u v j Nc N e y z A B D k l m o f;show QQ (QO b a) g (do testChain l2 (←TD b2 d) Nk (markedEach Nk O (UF O d))) k l j;exact Q (TP _ _ _ (uh NQ) ..) (Qn (NR Nc N e m (λE F G H I p c q r=>Bs Nr Nt Nc l2 Nv q (e.ext c) r p (o.back c) (f.back Nr c)) f))
end
end
section
theorem jv(a:eX s=Qq):SW (s::rest) y=(Qq,TD s y)::SW rest y:=by
 induction s using Rl<;>first|rfl|exact bG a
abbrev Bv(b:QG)(c:QV)(d:Q9)(e:Nat)(f:ax)(g:I)(h:Ql)(o:List V→I→Prop)(i:List Qk→Ql→Prop):Prop:=
 ∀p fw a M hn,o p fw→aS f g h hn fw M→aI b c d hn fw M.heap→bh hn p a→p.length=e→i a M
theorem mh(p:d3 f0)(q:Si)(s:ev b a h f0 x w C n O ML)(u:bZ C r):∀{e:ax}{c:I}{d:Ql},aI b a h e c d.heap→bg r y n t e c d.heap lb→
  ∀{o:List V→I→Prop}{B:aV}{ht:List Qk→Ql→Prop}{hx:Qk→Ql→Prop},d0 x w ML t o B c→Bv b a h O.length e c d o ht→fU f0 e c d r B hx→QQ (QO b a) r (spliced (T7 q (SW O y))) ht hx d:=by
 induction s with
 |nil=>intro e c d N f o B ht hx g i j;exact U3 (i _ _ _ _ _ g .refl N .nil rfl)
 |cons l K v=>
  intro e c d N f o B ht hx g i j;refine TR (l.1 u N f g (λL M P Q R z k A D=>?_) j) (jv l.2.2);exact v A (f.ext k) z (λS T W X Y E m F G H=>i _ _ _ _ _ E (k.trans m) F (.cons (D.mono m.mono) G) (QP S9 H)) (j.back p k)
theorem Bw(f:d3 f0){g:Nat}(c:O.length≤64)(i:ev b a h f0 x w C n O ML):bj b a h f0 x w C n (.Tuple O g l2) (.tup ML):=by
 intro s t u v y z A j N k B D E F l m o;refine wpAny_Tuple (mh f l2 i j N k l (λG H I K L p q r d e=>?_) o);exact⟨by refine Q (d.length ..) (Q (e ..) ?_);exact Qv c (by decide),AJ r d (by refine Q (e ..) ?_;exact Qv c (by decide)) p (m.back q)⟩
theorem Bx(e:d3 f0)(f:ev b a h f0 x w C n O ML):bj b a h f0 x w C n (.List O l2) (.lst ML):=by
 intro p q r s t u v g N i y z A B j k l;refine wpAny_List (mh e l2 f g N i j (λD E F G H c m o d I=>?_) l);exact⟨by refine Q (d.length ..) ?_;exact Qv c.1 (by decide),nI o d c (k.back m)⟩
theorem qg(a:Qy)(b c:Qk):∃Nk,subscripted a Qq b c=operate Nk (getItem b c):=by
 induction a using Rl with
 |Slice d e H f=>induction H using Qm<;>exact⟨_,rfl⟩
 |_=>exact⟨_,rfl⟩
set_option tactic.hygienic true in
theorem By{a:Int}(b:a.toNat<T)(c:T≤1000000):a<1000000:=by exact(bx 48859737305349633129036919775676708) b c (cz _)
theorem Bz{a:Int}(b:0≤a+(T:Int))(c:T≤1000000): -1000000≤a:=by exact(aC 6832039058344973688) b c
theorem BA{a:Int}{b:Nat}(c:0≤a)(d:a.toNat<b)(e:T=b):a<(T:Int):=by exact(bM 20185345937994932607500703365702370168) c d e (cz _)
theorem qh{a:Int}(h:bh e v G)(i:v.length≤a4)(c:bW v a=J p):
  ∃l1 A,seqIndex? a G.length=J l1∧G[l1]? =J A∧ah e p A∧-(2^63)≤a∧a<2^63∧((0≤a∧l1=a.toNat)∨(a<0∧-(G.length:Int)≤a∧l1=(a+G.length).toNat)):=by
 have d:=h.length;unfold a4 at i;unfold bW at c;have k:∀{T:Nat},v[T]? =J p→T<v.length:=λl=>by
  by_cases m:(by assumption:Nat)<v.length
  ·exact m
  ·rw [R8 ‹(au 12737415465300) d m›]at l;exact ag l
 by_cases b:0≤a
 ·rw [Qt b]at c;refine ae (h.get c) λA f j=>?_;have:=k c;refine⟨a.toNat,A,?_,f,j,Tm (by decide) b,Int.lt_of_lt_of_le (By this i) (by decide),.inl ⟨b,rfl⟩⟩;unfold seqIndex?;have n:=BA b this d;have:¬a<0:=by exact(ay 511710072) b
  simp [this];exact⟨b,n⟩
 ·rw [Qs b]at c;split at c
  ·rename_i g;refine ae (h.get c) λA f j=>?_;have:=k c;rw [←d]at f g;refine⟨(a+G.length).toNat,A,?_,f,j,Tm (by decide) (Bz g (Qv (RT d) i)),Ur (Wo.mp b) (by decide),.inr ⟨by exact(ay 511388172) b,by exact(aC 228610479480) g,rfl⟩⟩;unfold seqIndex?;have:a<0:=by exact(ay 511388172) b
   simp [this];exact(aC 55739502920254789042252486008) g b
  ·exact ag c
theorem c6{f:Int}{h:Tok}{o j:Qy}(q:d.heap.get? i=J (listOf G.toArray T))(s:bh e v G)(t:v.length≤a4)(u:bW v f=J p)
  (k:∀A,ah e p A→ht A d):QQ (QO b a) r (RV o j (.ref i) (.int f h)) ht hx d:=by
 refine sA (qh s t u) λC A w l m x y z=>bY (qg j (.ref i) (.int f h)) λD n=>?_;have c:d.heap.IsList i G.toArray:=⟨_,q,rfl,T,rfl⟩;clear w;rcases z with⟨g,rfl⟩|⟨g,B,rfl⟩
 ·exact RX c.typeIs UC.lookup (wpAny_getItem_list c g y (by simpa using l) (k A m)) n
 ·exact RX c.typeIs UC.lookup (V7 c g (by simpa using B) x (by simpa using l) (k A m)) n
theorem qi{c:Int}{f:Tok}{j g:Qy}(k:d.heap.get? i=J (hV G T))(l:bh e v G)(m:v.length≤a4)(n:bW v c=J p)
  (o:∀A,ah e p A→ht A d):QQ (QO b a) r (RV j g (.ref i) (.int c f)) ht hx d:=by
 refine sA (qh l m n) λy A q s t u w z=>bY (qg g (.ref i) (.int c f)) λB x=>?_;have h:TB d.heap i G.toArray:=⟨_,k,rfl,T,rfl⟩;exact RX h.typeIs PyProof.Rows.slot_tuple_getitem.lookup (PyProof.Rows.getItem_tuple h u w (by simpa using q) (by simpa using s) (o A t)) x
theorem BB{N:V}{k:Qk}{P y:Qy}(R:bZ C r)(i:aI b a h e c d.heap)(S:ah e N A)(m:ah e c2 k):
  fF b a h f0 r (RV P y A k) e c d (λo Z c=>hb N c2 o c):=by
 intro o ak W X f s al;have t:∀{l:Qo}{u:List V}{v:List Qk}{T:Nat},d.heap.get? l=some (listOf v.toArray T)→bh e u v→u.length≤a4→nv u c2 o c→QQ (QO b a) r (RV P y (.ref l) k) W X d:=λY g n f=>by
  refine ae (fT f) λw z p=>ae p λaj j B=>?_;clear f;clear f;subst z;induction m using ah.Oq;exact c6 Y g n j λA D=>s _ _ _ _ _ B .refl i D
 induction S using ah.casesOn with
 |tup E g n=>
  refine ae (fT (a:=λw=>cm _ λk=>o k c) f) λw z p=>ae p λaj j B=>?_;clear f;subst z;clear t;induction m using ah.Oq;exact qi (i.Oa _ _ E).1 g n j λA D=>s _ _ _ _ _ B .refl i D
 |lst E g n=>exact t (i.Oa _ _ E).1 g n f
 |ref l=>
  have f:nw (c l) c2 o c:=f;refine bY (qg y (.ref l) k) λam Q=>?_;generalize x:c l=aa;induction aa using Qm with
  |none=>rw [x]at f;exact f.elim
  |some F=>
   rw [x]at f;have aj:=i.mt _ _ x;clear x;induction F using aK.casesOn with
   |list u=>exact aj.elim λv aj=>aj.elim λT aj=>t aj.1 aj.2.1 aj.2.2 f
   |dict O=>
    exact bE λab G=>ae f λad j f=>ae (ci j) λw H I=>ft aj λan q K g Z=>ae ((qd K g).1 _ I) λA L M=>G (RX q.mapOf.typeIs PySem.slot_dict_getitem.lookup (wpAny_getItem_of (m.Ob H).2 q.mapOf L (s _ _ _ _ _ f (.toks _) (i.toks _) M)) Q)
   |N5 O=>
    refine bE λab G=>ae f λad j f=>ae (ci j) λw H I=>ft aj λao q K g Z=>iC (nN i m H) λap v T p Z Z af Z=>?_;clear m t;subst p;refine ae ((qe K g).1 _ I) λA L M=>G (RX ?_ PySem.slot_dict_getitem.lookup (wpAny_getItem_heap (knd:=Sy (ds b a)) R.OR af q L (s _ _ _ _ _ f (.toks _) (i.toks _) M)) Q);exact iA q λF aq ar ag ai Z=>⟨F,ag,ai.1⟩
   |_=>exact f.elim
 |_=>exact f.elim
theorem BC(g:d3 f0){i j:Qy}{k:aa}(m:bj b a h f0 x w C n i k)(o:bj b a h f0 x w C n j c2):bj b a h f0 x w C n (.Subscript i j l2) (.sub k c2):=by
 intro z A B D E F G d N l H I K L p q e;refine Uo (m d N l p ?_ e);intro M O P Q R r c s t;refine o d s (l.ext c) r ?_ (e.back g c);intro S T V W X u f v y;exact BB d v (t.mono f.mono) y u (q.back (c.trans f)) (e.back g (c.trans f))
end
section
theorem aI.off(j:aI b a h e c u)(g:∀l,l≠i→ho.get? l=u.get? l)(m:e i=U)(n:c i=U):aI b a h e c ho:=by
 have k:∀l f,e l=J f→l≠i:=λl f d=>by clear g n;rintro rfl;rw [m]at d;exact ag d
 refine⟨j.zero,λl f d=>⟨(g l (k l f d)).trans (j.Oa l f d).1,(j.Oa l f d).2⟩,λl f d=>?_⟩;have p:l≠i:=by clear g m k;rintro rfl;rw [n]at d;exact ag d
 exact fE.heap (g l p) (λo q r s=>(g o (k o q r)).trans s) (j.mt l f d)
theorem aI.put(j:aI b a h e c u)(k:∀l,l≠i→ho.get? l=u.get? l){g:aK}(q:e i=U)(o:fE b a e ho i g):aI b a h e (c.set i g) ho:=by
 have n:∀l g,e l=J g→l≠i:=λl g d=>by clear k o;rintro rfl;rw [q]at d;exact ag d
 refine⟨j.zero,λl f d=>⟨(k l (n l f d)).trans (j.Oa l f d).1,?_⟩,λl f d=>?_⟩
 ·unfold I.set;rw [Qs (n l f d)];exact(j.Oa l f d).2
 ·unfold I.set at d;by_cases m:l=i
  ·rw [Qt m]at d;obtain rfl:=Qj d;exact m▸o
  ·rw [Qs m]at d;exact fE.heap (k l m) (λp r s t=>(k p (n p r s)).trans t) (j.mt l f d)
theorem aS.put{D:Nat}{h:aK}(b:Sp i d.heap ho)(j:c i=J h):aS e c d e (c.set i L) {d with heap:=ho,toks:=D}:=
 ⟨λk k l=>l,λf n m a=>by
  have g:f≠i:=by clear b;rintro rfl;rw [j]at a;exact ag a.symm
  exact⟨(b.2 f g).trans m,by unfold I.set;rw [Qs g];exact a,rfl⟩,rfl,rfl⟩
theorem KX:Sp i u (u.update i f):=RK ..
set_option tactic.hygienic true in
theorem BD{d:List V}(a:tg v p=J d):∃T:Nat,p=.int T∧d=v.take T:=by
 induction p using V.casesOn<;>first|exact ag a|skip
 rename_i b;by_cases c:0≤b∧b≤a4
 ·have a:=(Qt c).symm.trans a;exact⟨b.toNat,by rw [Sm c.1],(Qj a).symm⟩
 ·exact ag ((Qs c).symm.trans a)
set_option tactic.hygienic true in
theorem BE{d:List V}(a:th v p=J d):∃T:Nat,p=.int T∧d=v.drop T:=by
 induction p using V.casesOn<;>first|exact ag a|skip
 rename_i b;by_cases c:0≤b∧b≤a4
 ·have a:=(Qt c).symm.trans a;exact⟨b.toNat,by rw [Sm c.1],(Qj a).symm⟩
 ·exact ag ((Qs c).symm.trans a)
inductive hX(e:ax):Option V→Value→Prop
 |none:hX e none .none
 |some {p:V}{A:Value}:ah e p A→hX e (some p) A
theorem hX.mono(c:∀i q,e i=J q→hn i=J q){b:Option V}(a:hX e b A):hX hn b A:=by
 induction a using hX.casesOn with
 |none=>exact .none
 |some a=>exact .some (a.mono c)
abbrev mi(a:QG)(b:QV)(f:Q9)(f0:bp)(h:aO)(i:aR)(j:Nat)(k:aL)(l:Option Qy)(m:Option aa):Prop:=∀{r:QN}{y:Sj}{t:aq}{e:ax}{c:I}{lb:QA→Option Qk}{d:Ql},bZ j r→aI a b f e c d.heap→bg r y k t e c d.heap lb→
 ∀{o:Option V→I→Prop}{B:aV}{ht:Qk→Ql→Prop}{hx:Qk→Ql→Prop},ke h i m t o B c→(∀p fw g M hn,o p fw→aS e c d hn fw M→aI a b f hn fw M.heap→hX hn p g→ht g M)→fU f0 e c d r B hx→QQ (QO a b) r (evalPart l y) ht hx d
theorem BF:mi b a h f0 x w C n U U:=by
 intro e f g i j k l m N o p q r s c d t;exact QM (d _ _ _ _ _ c .refl N .none)
theorem BG(c:bj b a h f0 x w C n s D):mi b a h f0 x w C n (J s) (J D):=by
 intro o p q r t u v d N e y z A B f g i;exact c d N e f (λE F G H I j k l m=>g _ _ _ _ _ j k l (.some m)) i
theorem BH(E:d3 f0){p:Qy}{q r:Option Qy}{F:aa}{G H:Option aa}{I W:Si}(X:bj b a h f0 x w C n p F)(Y:mi b a h f0 x w C n q G)(Z:mi b a h f0 x w C n r H):
  bj b a h f0 x w C n (.Subscript p (.Slice q r none I) W) (.O2 F G H):=by
 intro ab aB aC aD aE aF aG s N t ad aH af ai aj ak u;refine Uo (X s N t aj (λaI aJ aK aL aM al f am K=>?_) u);refine wpAny_Slice (Y s am (t.ext f) al (λan aN g aO aP L m ao v=>?_) (u.back E f));refine Z s ao (t.ext (f.trans m)) L (λap aq i c ar j M O o=>?_) (u.back E (f.trans m));refine QM (bE λaQ P=>ae (pV (a:=λQ=>cm (j5 Q an ap) λe=>eW e ad aq) j) λQ as d=>ae d λau k j=>iB (t1 O (K.mono (m.trans M).mono) as) λR e T d av y aw=>?_);clear K;subst d;refine P ?_;have S:∀(z A:Option Int) (B:List Qk),IsPart g z→IsPart i A→slicePick e.toArray z A none=B.toArray→bh ar au B→QQ (QO b a) ab (RV p (.Slice q r none I) (.ref R) (.ref c.heap.objs.size)) af ai {c with heap:=c.heap.push {cls:=.type "slice",data:=.fields #[g,i,.none]}}:=by
  intro z A B ax ay az aA;have V:(c.heap.push {cls:=.type "slice",data:=.fields #[g,i,.none]}).IsList R e.toArray:=⟨_,QT _ av,rfl,T,rfl⟩;refine RX (Heap.IsList.typeIs (s:={c with heap:=c.heap.push {cls:=.type "slice",data:=.fields #[g,i,.none]}}) V) UC.lookup (wpAny_getItem_list_slice V (Heap.IsSliceOf.new ..) ax ay .none (by simp) ?_ (Qv (RT y.length) (Qv aw (by decide)))) rfl;rw [az];exact nI (d:={c with heap:=c.heap.push {cls:=.type "slice",data:=.fields #[g,i,.none]}}) (O.push _) aA j (ak.back ((f.trans (m.trans M)).trans (aS.push _ c.toks)))
 induction v using hX.casesOn with
 |none=>
  induction o using hX.casesOn with
  |none=>exact ag k
  |some o=>
   refine ae (BD k) λl d D=>?_;subst d;subst D;induction o using ah.Oq;refine S none (some l) (e.take l) .none (.int _ _) ?_ (y.take _);rw [slicePick_upto']
 |some v=>
  induction o using hX.casesOn with
  |some _=>exact ag k
  |none=>
   refine ae (BE k) λl d D=>?_;clear L j;subst d;clear j k;subst D;clear P;induction v using ah.Oq;refine S (some l) none (e.drop l) (.int _ _) .none ?_ (y.drop _);rw [slicePick_from']
end
section
abbrev ui(a:ax):=aM λ(as:V×V) (hv:Qk×Qk)=>ah a as.1 hv.1∧ah a as.2 hv.2
noncomputable def nQ:List (V×V)→List V
 |[]=>[]
 |(i,l)::E=>i::l::nQ E
theorem uj(a:List (V×V)):k6 (nQ a)=a:=by
 induction a with
 |nil=>rfl
 |cons b a c=>exact QP (b::·) c
abbrev le(a:QG)(b:QV)(c:Q9)(f0:bp)(d:aO)(e:aR)(f:Nat)(g:aL)(h:List (Option Qy))(i:List aa):Prop:=aM (λq D=>∃s,q=J s∧bj a b c f0 d e f g s D) h i
theorem BI(z:d3 f0)(D:Si)(A:bZ C r){j:List aa}(f:le b a h f0 x w C n MO j):∀{v:List Qy}{Nh:List aa},ev b a h f0 x w C n v Nh→j.length=Nh.length→
  ∀{e:ax}{c:I}{d:Ql},aI b a h e c d.heap→bg r y n t e c d.heap lb→
  ∀{o:List V→I→Prop}{B:aV}{ht:List (Qk×Qk)→Ql→Prop}{hx:Qk→Ql→Prop},d0 x w (ki j Nh) t o B c→
   (∀aB fw L M hn,o (nQ aB) fw→aS e c d hn fw M→aI b a h hn fw M.heap→ui hn aB L→aB.length=j.length→ht L M)→fU f0 e c d r B hx→QQ (QO b a) r (evalPairs (UL MO v y D)) ht hx d:=by
 induction f with
 |nil=>
  intro v Nh g k e c d N l o B ht hx q s m;induction g using aM.casesOn with
  |nil=>exact evalPairs_nil (s [] _ _ _ _ q .refl N .nil rfl)
  |cons _ _=>cases k
 |cons f Z E=>
  intro v Nh g k e c d N l o B ht hx q s m;induction g using aM.casesOn with
  |nil=>cases k
  |cons g F=>
   obtain⟨ab,rfl,f⟩:=f;refine pairTrees_cons_walk (f A N l q (λG ad ae af ag H i K O=>?_) m);refine g.1 A K (l.ext i) H (λP ah ai aj ak Q p R S=>?_) (m.back z i);refine E F (UK k) R (l.ext (i.trans p)) Q (λaB al L am an T u W X Y=>?_) (m.back z (i.trans p));exact s ((G,P)::aB) _ _ _ _ T ((i.trans p).trans u) W (.cons ⟨O.mono (p.trans u).mono,S.mono u.mono⟩ X) (QP S9 Y)
theorem BJ{f:List (V×V)}(j:ui e f k):∀{O:List (am×V)},nA f=J O→∃v2:List (am×Qk),Carries (ds b a) k v2∧v2.map (·.1)=O.map (·.1)∧bh e (O.map (·.2)) (v2.map (·.2)):=by
 induction j with
 |nil=>intro O c;obtain rfl:=Qj c;exact⟨[],trivial,rfl,.nil⟩
 |cons g s l=>
  intro O c;refine bE λt m=>bQ (gn c) λu O h n d=>?_;subst d;refine ae (bB h) λi o d=>?_;clear h c;subst d;exact bk (l n) λv2 p q r=>m (⟨(i,_)::v2,⟨(g.1.Ob o).2,rfl,p⟩,QP (i::·) q,.cons g.2 r⟩)
theorem uk:∀{lb:List MQ},fg f b2=J lb→lb.length=b2.length:=by
 induction b2 with
 |nil=>intro lb a;obtain rfl:=Qj a;rfl
 |cons e b2 b=>
  intro lb a;refine bQ (gn a) λg h i c d=>?_;clear a;subst d;exact QP S9 (b c)
theorem aS.tail{f:Nat}{g:aK}(a:aS e c d hn fw M)(h:d.heap.objs.size≤i)(j:∀l,l<d.heap.objs.size→ho.get? l=M.heap.get? l):aS e c d hn (fw.set i g) {M with heap:=ho,toks:=f}:=
 ⟨a.mono,λl k b m=>by
  refine bf (a.same l k b m) λn o p=>?_;exact⟨(j l (Rs b)).trans n,by unfold I.set;refine Q (Qs (RA (SP (Rs b) h)) ..) ?_;exact o,p⟩,a.gens,a.os⟩
abbrev hf:Tp:={cls:=.type "dict",data:=.dict #[]}
theorem qj(c:u.get? i=J hf):u.DictOf (ds b a) i []:=
 ⟨_,#[],0,c,⟨rfl,rfl,rfl⟩,rfl,λe d=>by simp at d,Pairs.nil,Rq⟩
theorem qk{c:List aa}(d:le b a h f0 x w C n MO c):MO.all (·.isSome)=Qp:=by
 induction d with
 |nil=>rfl
 |cons e i f=>refine ae e λj g k=>?_;subst g;exact f
theorem ul{i:List (V×V)}{f:List (am×V)}{j:Nat}{k:aD}(l:MT=d.heap.objs.size)(r:aS e c d M0 bl MP)(s:aI b a h M0 bl MP.heap)(m:bl MT=U)(n:M0 MT=U)
  (t:nA i=J f)(u:mb i k bl)(o:v2.map (·.1)=f.map (·.1))(v:bh M0 (f.map (·.2)) (v2.map (·.2)))(p:ho.DictOf (ds b a) MT (UN [] v2))(q:Sp MT MP.heap ho)(w:gp b a h e c d k ht)(x:f≠[]):ht (.ref MT) {MP with heap:=ho,toks:=j}:=by
 refine ft u λF y z A g=>?_;obtain rfl:=Qj (t.symm.trans y);rw [merged_nil_of_nodup _ (by refine Q (o ..) ?_;exact A)]at p;have B:=(s.off q.2 n m).add (i:=MT) (q:=.dict f) n ⟨v2,p,o,v,Qv z (by decide)⟩;have C:=r.tail (g:=.dict f) (f:=j) (RT l.symm) λD E=>q.2 D (by refine Q (l ..) ?_;exact RA E);rcases g with g|⟨rfl,_⟩
 ·exact w _ _ _ _ _ (g _ m) C B (.ref _)
 ·exact Rz rfl x
theorem BK(k:d3 f0){l:List Qy}{c:List aa}(d:le b a h f0 x w C n MO c)(m:ev b a h f0 x w C n l Nh)(o:c.length=Nh.length)(p:MO≠[])(s:c.length≤15):
  bj b a h f0 x w C n (.Dict MO l l2) (.Of (ki c Nh)):=by
 intro T V W t u X e v N y Y Z ab ad z A B;have f:=d.length;have q:=gP N (Qu _);have g:=aS.push (e:=t) (c:=u) (d:=e) hf e.toks;refine wpAny_Dict_walk (knd:=ds b a) (qk d) (f.symm.trans (o.trans m.length)) p (f▸s) (BI k l2 v d m o (N.push hf) (y.ext g) z (λaB af ag ah ai i r D E F=>?_) (B.back k g));rw [uj]at i;refine bE λaj G=>ae (id i) λO j ak=>bk (BJ (b:=b) (a:=a) E j) λH I K bq=>bf (r.same e.heap.objs.size hf (Rg _ rfl) q.1) λL M P=>?_;refine G ⟨H,I,qj L,λal Q R=>?_⟩;refine ul rfl (g.trans r) D M (P.trans q.2) j i K bq Q R A λS=>p (Tz.mp ?_);rw [←f,←F,←uk j,S];rfl
theorem BL(c:u.get? i=J hf):u.DictOfH (Sy (ds b a)) i []:=
 ⟨_,#[],0,c,⟨rfl,rfl,rfl⟩,rfl,rfl,(λd u=>nomatch u),Rq⟩
theorem BM:bj b a h f0 x w C n (.Dict [] [] l2) (.Of []):=by
 intro q r s i j t e u N v y z A B k f D;have d:=gP N (Qu _);have g:=aS.push (e:=i) (c:=j) (d:=e) hf e.toks;refine wpAny_Dict_empty (ft k λO l m o c=>?_);clear m o;obtain rfl:=Qj l;rcases c with c|⟨_,c⟩
 ·exact f _ _ _ _ _ (c _ d.1) (g.add (Qu _)) ((N.push hf).add d.2 ⟨[],qj (Rg _ rfl),rfl,.nil,by decide⟩) (.ref _)
 ·exact f _ _ _ _ _ (c _ d.1) (g.add (Qu _)) ((N.push hf).add d.2 ⟨[],BL (Rg _ rfl),rfl,.nil,(λE p=>nomatch p),by decide⟩) (.ref _)
theorem um(i:bj b a h f0 x w C n s (.k p))(q:bZ C r)(j:aI b a h e c d.heap)(k:bg r y n t e c d.heap lb)
  (f:∀A M hn,aS e c d hn c M→aI b a h hn c M.heap→ah hn p A→ht A M):QQ (QO b a) r (TD s y) ht hx d:=
 i q j k (o:=λl m=>l=p∧m=c) (B:=λg=>False) ⟨rfl,rfl⟩ (λl m E M hn o u v z=>by refine ar o λB D=>?_;clear i;subst B;clear j k o;subst D;exact f _ _ _ u v z) λg g g f=>f.elim
theorem un(a:kh D=Qp):∃A,D=.k A:=by
 induction D using aa.casesOn<;>first|exact bG a.symm|exact⟨_,rfl⟩
theorem BN{l:aV}{a:List aa}:∀{Nh:List aa},a.all kh=Qp→Nh.all kh=Qp→a.length=Nh.length→∀{o:List V→I→Prop},d0 x w (ki a Nh) t o l c→∃aB:List (V×V),a=aB.map (λas=>aa.k as.1)∧Nh=aB.map (λas=>aa.k as.2)∧o (nQ aB) c:=by
 induction a with
 |nil=>intro Nh e e b o d;clear e;induction Nh using QH with
  |nil=>exact⟨[],rfl,rfl,d⟩
  |cons _ _=>cases b
 |cons z a m=>
  intro Nh f g b o d;induction Nh using QH with
  |nil=>cases b
  |cons A Nh=>
   refine ar (QC.mp f) λh n=>ar (QC.mp g) λi p=>?_;have q:=UK b;refine bY (un h) λj r=>bY (un i) λk s=>?_;clear f g h i;subst r s;exact bk (m n p q d) λaB u v y=>⟨(j,k)::aB,QP (aa.k j::·) u,QP (aa.k k::·) v,y⟩
theorem BO{a:am}{b:Qk}:UN [] (v2++[(a,b)])=Vj (UN [] v2) a b:=by simp [UN]
theorem aS.PZ{f:Nat}(a:aS e c d hn fw M)(g:∀l,l<d.heap.objs.size→ho.get? l=M.heap.get? l):aS e c d hn fw {M with heap:=ho,toks:=f}:=
 ⟨a.mono,λl h b i=>by
  refine bf (a.same l h b i) λj k m=>?_;exact⟨(g l (Rs b)).trans j,k,m⟩,a.gens,a.os⟩
structure ql(b:Program)(a:World)(h:Heap)(F0:ax)(c:I)(s0:Shared)(MT:Addr)(O:List (am×V))(v2:List (am×Value))(e:ax)(d:Shared):Prop where
 ext:aS F0 c s0 e c d
 Pc:aI b a h e c d.heap
 dict:d.heap.DictOf (ds b a) MT (merged [] v2)
 keys:v2.map (·.1)=O.map (·.1)
 vals:bh e (O.map (·.2)) (v2.map (·.2))
 PL:e MT=none
theorem BP{o:Ql}{E:PUnit→Ql→Prop}(F:bZ C r)(G:bg r y n t ap c o.heap lb)(X:o.heap.objs.size≤MT)(H:c MT=U){g:List (V×V)}:∀{MO:List (Option Qy)}{v:List Qy}{O:List (am×V)},
  le b a h f0 x w C n MO (g.map λas=>aa.k as.1)→ev b a h f0 x w C n v (g.map λas=>aa.k as.2)→nA g=J O→∀{k:List (am×V)}{v2:List (am×Qk)}{e:ax}{d:Ql},ql b a h ap c o MT k v2 e d→
  v2.length+g.length≤64→(∀bd hn M,ql b a h ap c o MT (k++O) bd hn M→E VT M)→
  QQ (QO b a) r (forIn (UL MO v y l2) VT λ(j:WJ Qk×WJ Qk) (_:PUnit)=>(do
    let L ←j.1
    let bi ←UD [L] j.2
    UD [L,bi] (dictSet MT L bi)
    pure (ForInStep.yield VT):WJ (ForInStep PUnit))) E hx d:=by
 induction g with
 |nil=>
  intro MO v O p q s k v2 e d f l z;have Y:=aM.PE p;have Z:=aM.PE q;clear p q;subst Y;subst Z;obtain rfl:=Qj s;rw [UL,List.forIn_nil]
  ·exact QM (z _ _ _ (by rw [RI];exact f))
  ·intro aB MO aC v i;cases i
 |cons as g ab=>
  intro MO v O I K s k v2 e d f l z;refine bQ (gn s) λi aD m ad A=>?_;subst A;refine ae (bB m) λN af A=>?_;clear m s;subst A;refine bQ (aM.PF I) λaE MO i m p=>?_;clear I;subst i
  ·refine bQ (aM.PF K) λaF v i ag q=>?_;clear K;subst i
   ·refine ae m λaG i ah=>?_;clear m;subst i;rw [UL,WM];refine Qn (Qn (um ah F f.Pc (G.ext f.ext) λaH aI aJ u ai aj=>Qn (Q4 (Qn (um ag.1 F ai (G.ext (f.ext.trans u)) λal aK an B ao aq=>Qn (Rf (QM (Qn (Q4 ?_)))))))));obtain⟨P,ar,au,qm,av⟩:=id f.dict;obtain⟨aw,aL,ay⟩:=(u.trans B).same MT P qm H;have D:=merged_length_le [] v2;have l:v2.length+(g.length+1)≤64:=l;have D:(UN [] v2).length≤0+v2.length:=D;refine wpAny_dictSet_pairs (aj.Ob af).2 ⟨P,ar,au,aw,av⟩ (λaN R S=>QM ?_) (hsz:=by refine Q (T6 ..) ?_;exact Qv D (Qv (RT (RJ _)) (Qv (QU _ _) (Qv l (by decide)))));rw [←BO]at R;have T:=ay.trans f.PL;refine ab p q ad (k:=k++[(N,as.2)]) (v2:=v2++[(N,al)]) (e:=an) ⟨?_,?_,R,?_,?_,T⟩ (by refine Q (Qr ..) ?_;show v2.length+1+g.length≤64;exact(ak 4035991253857063212) l) λbd hn M W=>z _ _ _ (by rw [QW]at W;exact W)
    ·exact(f.ext.trans (u.trans B)).PZ λaz aA=>S.2 az (RA (SP aA X))
    ·exact ao.off S.2 T H
    ·refine Q (Rp ..) (Q (Rp ..) (Q (f.keys ..) ?_));rfl
    ·refine Q (Rp ..) (Q (Rp ..) ?_);exact(f.vals.mono (u.trans B).mono).append (.cons aq .nil)
theorem BQ{i:List Qy}{d:List aa}(p:le b a h f0 x w C n MO d)(y:ev b a h f0 x w C n i Nh)(z:d.length=Nh.length)(A:MO≠[])(j:¬d.length≤15)(k:d.length<17)(B:d.all kh=Qp)(D:Nh.all kh=Qp):
  bj b a h f0 x w C n (.Dict MO i l2) (.Of (ki d Nh)):=by
 intro H s W t E X c I N K Y Z L F G M ab;have e:=p.length;have f:=y.length;refine bk (BN B D z G) λaB P R u=>?_;clear B;subst P;clear D G;subst R;rw [uj]at u;have v:=gP N (Qu _);have S:=aS.push (e:=t) (c:=E) (d:=c) hf c.toks;have q:=pairTrees_length MO i s l2 (qk p) ‹(aE 5324826884143209884283006118692) k z e f j›;have T:UL MO i s l2≠[]:=by
  intro l;rw [l]at q;exact A (Tz.mp q.symm)
 simp only [QL]at e f j k;refine Q (arm_eval_Dict ..) (Q (zip_pairTrees MO i s l2 (qk p) ‹(au 336004598100) f e› ..) (Q (dictDisplay_pairs _ T ‹(aE 300085969039622730493338226551588) k q e f j› ..) ?_));refine Qn (Rf (Qn ?_));unfold subDict;refine Qn (wpAny_alloc (Qn (Q4 ?_)));refine Q (Qs ‹(aE 2367422726369176242704815627463460) k q e f j› ..) (Qn (wpAny_rule ?_));refine ae (id u) λO l m=>?_;have aj:ql b a h t E c c.heap.objs.size [] [] t {c with heap:=c.heap.push hf}:=⟨S,N.push hf,qj (Rg _ rfl),rfl,.nil,v.2⟩;have V:=BP (l2:=l2) (E:=λm r=>QQ (QO b a) H (pure (Sr c.heap.objs.size)) L F r) (hx:=F) I K (Qu _) v.1 p y l aj (by simp;exact(ak 251044003937412406340388) k f j) λad af r g=>QM ?_
 ·exact Qn (Sg V (λm m o=>QM (QM o)) λm m o=>o)
 refine ul (ho:=r.heap) (j:=r.toks) rfl g.ext g.Pc v.1 g.PL l u g.keys g.vals g.dict (UP _ _) M λo=>A (Tz.mp ?_);refine Q (Rj (e ..)) (Q (Rj (uk l ..)) (Q (o ..) ?_));rfl
end
structure fG(it:Frag)(h:Heap)(x:aO):Prop where
 Pm:it.In h
 fld:∀hc T,x.fld hc T=true→plainGet it hc T=true∧hasDictIn it hc=true∧findIn it (.ref hc) T=some none∧findIn it (.ref hc) "__setattr__" =some (some (.builtin "object.__setattr__"))∧plainOver it hc=true∧takerIn it hc T=some none
 NY:∀hc T f,x.NY hc T=some f→plainGet it hc T=true∧findIn it (.ref hc) T=some (some (.ref f))∧isFn it (.ref f)=true
section
theorem uo(a b:QA)(c:Tok):(UY a c).isStr b=decide (a=b):=by
 show(a==b)=_;by_cases d:a=b<;>simp [d]
theorem dE.noRef(a:dE e u3 MS):MS.any (·.refKey)=Qq:=by
 induction a with
 |nil=>rfl
 |cons _ _ b=>exact b
theorem dE.length(a:dE e u3 MS):MS.length=u3.length:=by
 induction a with
 |nil=>rfl
 |cons _ _ b=>exact QP S9 b
theorem dE.find{T:QA}(c:dE e u3 MS):(∀p,fi T u3=J p→∃s,MS.find? (·.key.isStr T)=J s∧ah e p s.val)∧(fi T u3=U→MS.find? (·.key.isStr T)=U):=by
 induction c with
 |nil=>exact⟨λd a=>ag a,λd=>rfl⟩
 |@cons f p i u3 MS j k g c h=>
  rw [TL,uo];rw [tf];by_cases a:f=T
  ·rw [QD a,Qt a];exact⟨λp b=>by obtain rfl:=Qj b;exact(aU _ rfl g),λb=>ag b.symm⟩
  ·rw [Qx a,Qs a];exact h
theorem dE.got{a:QA}(b:dE e u3 MS)(c:fi a u3=J p):∃A,getL a MS=J (J A)∧ah e p A:=by
 exact ae ((b.find (T:=a)).1 p c) λd f g=>(aU d.val (by unfold getL;rw [f]) g)
theorem dE.none{a:QA}(b:dE e u3 MS)(c:fi a u3=U):getL a MS=J U:=by
 unfold getL;rw [(b.find (T:=a)).2 c,b.noRef];rfl
theorem dE.put{T:QA}{D:Tok}(c:ah e p A)(b:dE e u3 MS):dE e (fh T p u3) (WH T hsh (.str T D) A MS):=by
 induction b with
 |nil=>exact .cons c .nil
 |@cons d h i u3 MS j k f b g=>
  rw [pK];unfold WH;rw [uo];by_cases a:d=T
  ·rw [Qt a,QD a];exact .cons c b
  ·rw [Qs a,Qx a];exact .cons f g
theorem BR(b:QA)(d:V)(a:List (QA×V)):(fh b d a).length≤a.length+1:=by
 induction a with
 |nil=>exact Qu _
 |cons e g f=>
  rw [pK];by_cases c:e.1=b
  ·rw [Qt c];exact Q1 _
  ·rw [Qs c];exact R3 f
theorem BS(a:ah e p A)(b:l8 p=Qp):handedIn A=Qp:=by
 induction a using ah.casesOn<;>first|rfl|cases b
theorem qn(d:aI b a h e c u)(j:ah e (.inst hc ua i) A)(k:c ua=J (.ns u3)):
  A=.ref i∧e i=J (R7 hc ua)∧∃MS T,u.get? ua=J (TF MS T)∧dE e u3 MS∧We u i (R7 hc ua) hc (J (TF MS T)):=by
 induction j using ah.PX with
 |inst f=>
  exact dY (d.mt _ _ k) λMS T g l=>⟨rfl,f,MS,T,g,l,⟨(d.Oa _ _ f).1,rfl,rfl,g⟩⟩
theorem fG.at(i:fG it h x)(d:aI b a h e c u):it.In u:=i.Pm.keeps λf g j=>(d.Oa f g (d.zero f g j)).1
theorem up{f:V}{j:QA}(k:fG it h x)(g:aI b a h e c d.heap)(l:ah e f A):fF b a h f0 r (getAttr A j expr) e c d (λo Z c=>cB x f j o c):=by
 intro o G H I m p K;induction f using V.casesOn<;>first|exact m.elim|skip
 refine bE λL q=>ae (tu m) λM s i=>ft i λN t u v w=>bf (qn g l s) λi Z y=>bQ y λO P Q z B=>?_;clear l;subst i;exact ae (z.got t) λR C n=>cY (k.fld _ _ u) λD E F Z=>q (get_value (k.at g) B (Vo D).1 (findObj_own E F rfl (by rw [lookIn_dict];exact C)) (BS n v) (p _ _ _ _ _ w (.toks _) (g.toks _) n))
set_option tactic.hygienic true in
theorem qo(a:la q=Qq):attributeBase q attr y f=f:=by
 induction q using Rl<;>first|rfl|skip
 rename_i b c d e;induction b using Rl<;>first|rfl|skip
 induction c using QH<;>first|rfl|skip
 induction d using QH<;>first|rfl|exact bG a
theorem BU(f:fG it h x){c:QA}(g:d3 f0)(i:la q=Qq)(j:bj b a h f0 x w C n q D):bj b a h f0 x w C n (.Attribute q c l2) (.attr D c):=by
 intro t u v y z A B k N l E F G H m o d;refine Attribute_any_ (j k N l m ?_ d) (by rw [arm_eval_Attribute,qo i]);intro I K L M O p e r s;exact up f r s p (o.back e) (d.back g e)
theorem BV{f:Qo}{c:Qk}{g:Except Qk VP→Ql→Prop}(h:it.In d.heap)(i:We d.heap f (R7 hc ua) hc (J (TF MS T)))
  (e:d.heap.get? ua=J (TF MS T))(k:Wb it hc=Qp)(l:T3 it hc Np=J U)(m:Wc it hc=Qp)(n:MS.any (·.refKey)=Qq)(o:(WH Np (SU a.params Np) (.str Np d.toks) c MS).length≤1000)
  (p:∀ho,ho.get? ua=J (TF (WH Np (SU a.params Np) (.str Np d.toks) c MS) (putN Np MS T))→Sp ua d.heap ho→g (.ok (.ret .none)) {d with heap:=ho,toks:=d.toks+1}):
  Ub (QO b a) r (.call (.builtin "object.__setattr__") ⟨[.ref f,.str Np L,c],[]⟩) g d:=by
 refine osa_open h i k l λv=>ae (any_some m) λw q s=>?_;have j:(d.heap.update ua (Obj.putName Np (SU a.params Np) (.str Np d.toks) c)).get? ua=J (TF (WH Np (SU a.params Np) (.str Np d.toks) c MS) (putN Np MS T)):=
  Su _ e (by rw [putName_dict];rfl)|>.trans (by rw [putName_dict])
 have t:=p _ j (RK ..);refine Qn (QM (Qn (Qn (Vi i.at_ (Qn ((Vp h q).here ?_))))));rw [s];refine QM (a:=J ua) (Qn (QM (Qn ?_)));unfold nsSet;refine Qn (Qn (wpAny_askSetting (QM (Qn (wpAny_mkText (Qn (Vi e ?_)))))));have u:(!MS.toArray.any (·.key.isStr Np)&&MS.toArray.any (·.refKey))=Qq:=by
  have:MS.toArray.any (·.refKey)=Qq:=by rw [←Array.any_toList];exact n
  rw [this,Bool.and_false]
 dsimp only;rw [aRefKeyMayBeTheName_at,u];refine wpAny_updatePart e (Qn (wpAny_lookBehind j (pastItsLine_dict (by rw [Ra,T6];exact(aN 3502935436044) o)) ?_));exact QM t
theorem uq{i:V}{m:Qk}{f:QA}{n:I→Prop}{o:Unit→Ql→Prop}(j:fG it h x)(g:aI b a h e c d.heap)(p:ah e i A)(q:ah e c2 m)(s:hN x i f c2 n c)
  (v:∀fw M hn,n fw→aS e c d hn fw M→aI b a h hn fw M.heap→o () M):QQ (QO b a) r (setAttr A f m) o hx d:=by
 induction i using V.casesOn<;>first|exact s.elim|skip
 refine bE λN w=>ft (tu s) λy k z B C=>bf (qn g p k) λD O E=>bQ E λP Q F l t=>?_;clear p;subst D;refine sx (j.fld _ _ z) λR G S H dO K=>w (set_plain (j.at g) t H (BV (d:={d with toks:=d.toks+1}) (j.at g) t F dO K G l.noRef ?_ λT L u=>?_))
 ·rw [(dE.put (T:=f) (hsh:=SU a.params f) (D:=d.toks+1) q l).length];exact Qv (BR f c2 y) (Qv (R3 B) (by decide))
 ·exact v _ _ e C (aS.put u k) (g.put u.2 (g.O5 k) ⟨_,_,L,dE.put q l⟩)
end
section
variable(b:QG)(a:QV)(h:Q9)(f0:bp)(w:aR)(C:Nat)(it:Q3)
structure jw:Prop where
 keep:∀{f v o B c},w f v o B c→(∃id,f=.NS (.builtin id))∨(∃i,f=.NS (.ref i)∧keepIn it (.ref i)=true)
 ok:AC b a h f0 w C
end
section
theorem qp(c:ev b a h f0 x w C n O ML):(T7 l2 (SW O y)).any (·.1)=Qq:=by
 induction c with
 |nil=>rfl
 |cons d f e=>refine Q (jv d.2.2 ..) ?_;exact e
theorem qq{e:Args→Ql→Prop}(f:ev b a h f0 x w C n O ML)
  (c:QQ (QO b a) r (spliced (T7 l2 (SW O y))) (λv M=>e ⟨v,[]⟩ M) B d):QQ (QO b a) r (WD m Qp (T7 l2 (SW O y)) []) e B d:=by
 induction f using aM.casesOn with
 |nil=>
  unfold WD;refine Qn (Sg c (λv M g=>?_) λi i j=>j);exact Qn (QM (Q4 (Qn (QM (Qn (QM (QM g)))))))
 |cons k l=>
  rw [jv k.2.2]at c⊢;exact TV c
theorem ur(i:d3 f0)(H:fG it h x)(A:jw b a h f0 w C it)(g:ev b a h f0 x w C n O ML)(j:bZ C r)(D:aI b a h e c d.heap)(k:bg r y n t e c d.heap lb)
  {first:List V}{E:List Qk}(l:ah e m L)(I:bh e first E):fF b a h f0 r (callWith l2 L E (T7 l2 (SW O y)) []) e c d (λo B c=>d0 x w ML t (λv ap=>w m (first++v) o B ap) B c):=by
 intro o B Y Z p K q;by_cases F:(∃id,m=.NS (.builtin id))∨(∃s,m=.NS (.ref s)∧Tf it (.ref s)=Qp)
 ·refine Vr (P:=it.In) (by refine Q (qp g ..) ?_;rfl) (λM N=>?_) ?_
  ·clear p;rcases F with⟨id,rfl⟩|⟨s,rfl,P⟩
   ·induction l using ah.OK;exact(aU .machine (.inr (.inl rfl)) (Tw rfl))
   ·induction l using ah.OK;exact keeps_K P M N
  ·refine qq g (mh i l2 g j D k p ?_ q);intro v R S T W u f z G X;exact⟨H.at z,A.ok j (k.ext f).OE z (l.mono f.mono) ((I.mono f.mono).append G) u (K.back f) (q.back i f)⟩
 ·
  unfold callWith;refine Qn (Q4 (qq g (mh i l2 g j D k p ?_ q)));intro v R S T W u f z G X;exact Rz (A.keep u) F
theorem qr{a:List Qy}(b:∀q T as,f≠.Attribute q T as):TD (.Call f a [] l2) y=(do callWith l2 (←TD f y) [] (T7 l2 (SW a y)) (WF l2 (UV [] y))):=by
 induction f using Rl<;>first|rfl|exact Rz rfl (b _ _ _)
theorem BW(d:d3 f0)(j:fG it h x)(k:jw b a h f0 w C it)(l:∀q T as,f≠.Attribute q T as)(m:bj b a h f0 x w C n f D)(o:ev b a h f0 x w C n O ML):bj b a h f0 x w C n (.Call f O [] l2) (.call D ML):=by
 intro v y z A B E F e N g G H I K p r i;refine Q (qr l ..) (Qn (m e N g p ?_ i));intro L M P R S s c t u;exact ur d j k o e t (g.ext c) u .nil s (r.back c) (i.back d c)
theorem BX{c:QA}{id:String}(a:pO c=J id):Slot "list" c id∧typeOf (.builtin id)=pure (.type "method_descriptor"):=by
 unfold pO at a;by_cases b:c=("append" :QA)
 ·subst b;rw [Qt rfl]at a;obtain rfl:=Qj a;exact⟨PySem.F.slot_list_append,rfl⟩
 rw [Qs b]at a;by_cases b:c=("pop" :QA)
 ·subst b;rw [Qt rfl]at a;obtain rfl:=Qj a;exact⟨PySem.F.slot_list_pop,rfl⟩
 rw [Qs b]at a;by_cases b:c=("index" :QA)
 ·subst b;rw [Qt rfl]at a;obtain rfl:=Qj a;exact⟨PySem.F.slot_list_index,rfl⟩
 rw [Qs b]at a;exact ag a
theorem BY{c:QA}{id:String}(a:ma c=J id):Slot "dict" c id∧typeOf (.builtin id)=pure (.type "method_descriptor"):=by
 unfold ma at a;by_cases b:c=("get" :QA)
 ·subst b;rw [Qt rfl]at a;obtain rfl:=Qj a;exact⟨PySem.F.slot_dict_get,rfl⟩
 rw [Qs b]at a;by_cases b:c=("pop" :QA)
 ·subst b;rw [Qt rfl]at a;obtain rfl:=Qj a;exact⟨PySem.F.slot_dict_pop,rfl⟩
 rw [Qs b]at a;by_cases b:c=("update" :QA)
 ·subst b;rw [Qt rfl]at a;obtain rfl:=Qj a;exact⟨WK,rfl⟩
 rw [Qs b]at a;exact ag a
set_option tactic.hygienic true in
theorem BZ{H:QN}{r:ax}{k:I}{n:Ql}{w l:V}{K:Qk}{e:QA}{first:List V}{L:WJ Bool}{y:Qk×List Qk→Ql→Prop}{M:Qk→Ql→Prop}(N:fG it h x)(z:aI b a h r k n.heap)(A:ah r w K)(c:pQ x w e k=some (l,first))
  (B:∀ap eh,ah r l ap→bh r first eh→y (ap,eh) n):QQ (QO b a) H (VY K e L) y M n:=by
 have s:∀{f:Qo}{C:Tp},n.heap.get? f=some C→C.cls=.type "dict" ∧C.dict=none→(ma e).map (λid=>(V.NS (.builtin id),[V.ref f]))=some (l,first)→QQ (QO b a) H (VY (.ref f) e L) y M n:=λm P c=>by
  refine bE λR o=>ae (bB c) λid Y c=>ar (Va c) λd j=>?_;subst d;clear c;clear c;subst j;exact ar (BY Y) λD E=>o (getMethod_builtin ⟨_,m,P.1⟩ PySem.F.plainAttrs_dict D E (λg F=>by cases F;exact(aU _ m P.2)) (B _ _ (.NS _) (.cons (.ref _) .nil)))
 induction w using V.casesOn<;>first|exact ag c|skip
 ·rename_i g;induction A using ah.OM;have c:pP e (.ref g) (k g)=some (l,first):=c;generalize i:k g=p;induction p using Qm with
  |none=>rw [i]at c;exact ag c
  |some f=>
   rw [i]at c;have aj:=z.mt _ _ i;clear i;induction f using aK.casesOn with
   |list ao=>
    refine bE λR o=>dY aj λaq S T t=>ae (bB c) λid m c=>ar (Va c) λd j=>?_;subst d;clear s c;subst j;exact ar (BX m) λD E=>o (getMethod_builtin ⟨_,T,rfl⟩ PySem.F.plainAttrs_list D E (λg F=>by cases F;exact(aU _ T rfl)) (B _ _ (.NS _) (.cons (.ref _) .nil)))
   |dict O=>
    exact ae aj λZ d t=>iB d λf aa ab G q ad t=>s G ⟨q.1,q.2.1⟩ c
   |N5 O=>
    exact ae aj λZ d t=>iB d λf aa ab G q ad t=>s G ⟨q.1,q.2.1⟩ c
   |ns=>exact ag c
 ·rename_i u v g;have c:nz x u e (.inst u v g) (k v)=some (l,first):=c;generalize i:k v=p;induction p using Qm with
  |none=>rw [i]at c;exact ag c
  |some f=>
   rw [i]at c;induction f using aK.casesOn<;>first|exact ag c|skip
   rename_i W;have c:ti x u e (.inst u v g) (fi e W)=some (l,first):=c;generalize af:fi e W=p at c;induction p using Qm with
   |some _=>exact ag c
   |none=>
    refine bE λR o=>ae (bB c) λas m c=>ar (Va c) λd j=>?_;subst d;clear s c;subst j;refine bf (qn z A i) λd au j=>bQ j λai S av ak al=>?_;subst d;refine bf (N.NY _ _ _ m) λX am an=>o (method_fn (N.at z) al (Vo X).1 (Vo X).2 am (Sn.mp an) ?_ (B _ _ (.NS _) (.cons A .nil)));show(lookIn e (TF ai S)).map _=_;refine Q (lookIn_dict ..) (Q (ak.none af ..) ?_);rfl
theorem B0(d:ev b a h f0 x w C n O ML)(e:O.length<30):Vk (O.length+([]:List Wg).length) (backTo l2 (starEach O y)) (WF l2 (UV [] y))=true:=by
 unfold Vk;have f:=qp (l2:=l2) (y:=y) d;have g:(backTo l2 (starEach O y)).all (!·.1)=true:=by
  rw [Rc];intro c i;have:¬∃j∈backTo l2 (starEach O y),j.1=true:=by
   rw [←R1,f];simp
  generalize k:c.1=l;induction l using Qz with
  |false=>rfl
  |true=>exact Rz (aU c i k) this
 have m:WF l2 (UV [] y)=[]:=rfl;refine Q (g ..) (Q (m ..) ?_);simp;exact e
theorem B1(f:d3 f0)(g:fG it h x)(p:jw b a h f0 w C it){i:QA}{c:Si}(r:la q=Qq)(s:c.endLine=l2.line)(t:O.length<30)(u:bj b a h f0 x w C n q D)(j:ev b a h f0 x w C n O ML):
  bj b a h f0 x w C n (.Call (.Attribute q i c) O [] l2) (.NY D i ML):=by
 intro H v I K L M P k N l R S T V y z m;refine Q (arm_eval_Call ..) (Q (qo r ..) ?_);refine Qn (u k N l y ?_ m);intro W X Y Z aa d e o A;refine Qn (Rf ?_);unfold methodCall;refine Q (B0 j t ..) (dY d λab first B d=>Qn (Q4 (BZ g o A B λad eh E F=>?_)));refine Qn ?_;have G:Ut Qp q v c l2=pure l2:=by unfold Ut;refine Q (s ..) ?_;simp
 exact Q (G ..) (QM (ur f g p j k o (l.ext e) E F d (z.back e) (m.back f e)))
end
open PySem.SeqAt
section
variable[DecidableEq MN]
theorem KY{a:List (MN×Qk)}{b:MN}(c:b∉a.map (·.1)):(a.any λf=>decide (f.1=b))=Qq:=by
 rw [Wn];intro d e;simp only [decide_eq_true_eq];rintro rfl;exact c (RH.mpr (aU d e rfl))
theorem B2{a:List (MN×Qk)}{b:MN}(d:b∉a.map (·.1)):a.map (λf=>if f.1=b then(f.1,A)else f)=a:=by
 conv=>rhs;rw [←List.map_id a]
 refine Tj λc e=>?_;have:c.1≠b:=by rintro rfl;exact d (RH.mpr (aU c e rfl))
 rw [Qs this];rfl
theorem B3{b:List (MN×Qk)}{c:MN}(d:((f::b).map (·.1)).Nodup):Vj (f::b) c A=if f.1=c then(f.1,A)::b else f::Vj b c A:=by
 simp only [Rv,QZ]at d;by_cases a:f.1=c
 ·rw [Qt a];subst a;unfold Vj;simp only [T2,decide_true,Bool.true_or,if_true,Rv];rw [B2 d.1]
 ·rw [Qs a];unfold Vj;simp only [T2,Qx a,Bool.false_or,Rv,Qs a];split<;>rfl
theorem ut{b:MN}(i:ah e p A){a:List (MN×V)}:∀{v2:List (MN×Qk)},v2.map (·.1)=a.map (·.1)→(v2.map (·.1)).Nodup→bh e (a.map (·.2)) (v2.map (·.2))→
  (Vj v2 b A).map (·.1)=(bC b p a).map (·.1)∧bh e ((bC b p a).map (·.2)) ((Vj v2 b A).map (·.2)):=by
 induction a with
 |nil=>intro v2 d h h;clear h;clear h;obtain rfl:=Ti.mp d;exact⟨rfl,.cons i .nil⟩
 |cons r a l=>
  intro v2 d j c;induction v2 using QH with
  |nil=>cases d
  |cons m v2=>
   refine ar (Sd d) λf k=>?_;have n:=aM.hd c;have c:=aM.Pk c
   ·rw [B3 j];rw [hM];by_cases g:m.1=b
    ·rw [Qt g,Qt (f.symm.trans g)];exact⟨Sw.mpr ⟨f,k⟩,.cons i c⟩
    ·rw [Qs g,Qs (λaj=>g (f.trans aj))];exact ar (l k (QZ.mp j).2 c) λo q=>⟨Sw.mpr ⟨f,o⟩,.cons n q⟩
theorem fW(b:MN)(d:V)(a:List (MN×V)):(bC b d a).length≤a.length+1:=by
 induction a with
 |nil=>exact Qu _
 |cons e g f=>
  rw [hM];by_cases c:e.1=b
  ·rw [Qt c];exact Q1 _
  ·rw [Qs c];exact R3 f
theorem uu{b:List (MN×Qk)}(c:u.DictOf f i b):(b.map (·.1)).Nodup:=by
 refine m8 c λa a a a a a a a T=>?_;exact T
theorem B4{c:MN}{b:List (MN×V)}:∀{l1:Nat},(b.map (·.1))[l1]? =J c→(b.map (·.1)).Nodup→iH c b=b.eraseIdx l1:=by
 induction b with
 |nil=>intro l1 a;exact Rz a (by simp)
 |cons j d e=>
  intro l1 a f;rw [nu];induction l1 using Rn with
  |zero=>rw [Qt (Qj a)];rfl
  |succ l1=>
   have a:(d.map (·.1))[l1]? =J c:=a;refine ar (QZ.mp f) λg h=>?_;rw [Qs λi=>g (QB (i▸a)),e a h];rfl
theorem aM.dropLast{a:u5→MQ→Prop}{b:List u5}{c:List MQ}(d:aM a b c):aM a b.dropLast c.dropLast:=by
 rw [Vu,Vu,d.length];exact d.take _
theorem lf(b:u5→MQ)(a:List u5):∀(l1:Nat),(a.eraseIdx l1).map b=(a.map b).eraseIdx l1:=by
 induction a with
 |nil=>intro l1;rfl
 |cons c a d=>intro l1;induction l1 using Rn with
  |zero=>rfl
  |succ l1=>exact QP (b c::·) (d l1)
end
section
theorem aS.grown{b:Nat}(f:∀l q,d.heap.get? l=J q→ho.get? l=J q):aS e c d e c {d with heap:=ho,toks:=b}:=
 ⟨λg g a=>a,λi q h a=>(bw (f _ _ h) a rfl),rfl,rfl⟩
end
open PySem.SeqAt
section
theorem KZ(a:Nat):aS e c d e c {d with toks:=a}:=.toks a
theorem B5{s:ai}(l:r.in1.units<VZ)(t:Vt (ds b a) d.heap s i)(m:d.heap.DictOfH (Sy (ds b a)) MT u2)(u:u2.length≤Tl)
  {j:Qo×Qk}(g:u2[l1]? =J (s,j))(p:∀ho D,ho.DictOfH (Sy (ds b a)) MT (u2.eraseIdx l1)→Sp MT d.heap ho→o j.2 {d with heap:=ho,toks:=D}):
  QQ (QO b a) r (TE (.builtin "dict.pop") [.ref MT,.ref i]) o B d:=by
 refine Wa PySem.F.slot_dict_pop m.typeIs PySem.F.entry_dict_pop (PySem.F.args_dict_pop_2 _ _) (S:=λr v c=>r.in1.units<VZ∧c=d∧∀ho D,ho.DictOfH (Sy (ds b a)) MT (u2.eraseIdx l1)→Sp MT d.heap ho→v (.ok (.ret j.2)) {d with heap:=ho,toks:=D}) (.of_wp λr v c ⟨l,z,w⟩=>?_) ⟨l,rfl,λho D i A=>p ho D i A⟩;subst z;refine m8 (id m) λL O C h E e f q n=>?_;have x:O.isEmpty=Qq:=by
  rw [←Array.isEmpty_toList,f];clear u m p w f q n;induction u2 using QH with
  |nil=>simp at g
  |cons _ _=>rfl
 have F:l1<u2.length:=by
  by_cases y:l1<u2.length
  ·exact y
  ·rw [R8 ‹(ak 5778972) y›]at g;exact ag g
 unfold Builtin.«dict.pop»;refine Qn ?_;unfold Builtin.Dict.keyAndDefault;refine Qn (wpAny_notOrdered_dict m.typeIs ?_);show QQ _ _ (pure (MT,Sr i,U)) _ _ _;refine QM ?_;dsimp only [keyPart,Option.isSome];simp only [Rd,Sx];refine Qn (wpAny_dictEntries h e (Qn (QM ?_)));rw [x];simp only [Rd,Sx];refine Qn ?_;unfold Builtin.Dict.takeOut;refine Q4 (Qn ((Sy (ds b a)).pyHash l t ?_));refine Qn (wpAny_dictFind_heap (knd:=Sy (ds b a)) (s:={c with toks:=c.toks+_}) l t h e f q n ?_ ?_)
 ·intro G;exact Rz g (G l1 j)
 ·intro k M H;have:k=l1:=idxH_unique n H g;clear p F;subst this;refine Qn (wpAny_dictEntries (s:={c with toks:=c.toks+_}) h e ?_);rw [entry_at f k,g];dsimp only [Uv];refine Qn (wpAny_updateDictKeys (hz:=by rw [size_of_entries f];exact u) (s:={c with toks:=c.toks+_}) h e (QM ?_) (hf:=by
   have:(O.eraseIdxIfInBounds k).size≤O.size:=by unfold Array.eraseIdxIfInBounds;split<;>simp
   exact RW this))
  simp only [Option.isNone_some,Rd,Sx];refine Qn (wpAny_letGo (QM (aU j.2 rfl (w _ _ ⟨_,_,C+1,Su _ h (Obj.isFreed_of_dict (VN e _)),E.mapDictKeys _,VN e _,?_,?_,?_⟩ (RK ..)))))
  ·have:(O.eraseIdxIfInBounds k).toList=O.toList.eraseIdx k:=by
    clear e f x;obtain⟨N⟩:=O;simp
   rw [this,f,lf]
  ·intro I K;exact(Sy (ds b a)).keeps (q I (U0 K)) h e (RK ..)
  ·rw [lf];exact n.sublist (List.eraseIdx_sublist _ _)
end
open PySem.SeqAt
theorem B6{a:Int}:(if a<0 then-a else a)=(a.natAbs:Int):=by
 by_cases b:a<0
 ·rw [Qt b];exact(Int.ofNat_natAbs_of_nonpos (Tn b)).symm
 ·rw [Qs b];exact(Int.natAbs_of_nonneg (SS.mp b)).symm
section
theorem B7{a:ai}{c:Qo×Qk}(e:UX u2 a=J c):∃l1:Nat,u2[l1]? =J (a,c):=by
 obtain⟨f,d,g⟩:=bB e;obtain⟨l1,h⟩:=TQ.mp (List.mem_of_find?_eq_some d);have b:=List.find?_some d;have b:f.1=a:=Re b;exact⟨l1,h.trans (by rw [←b,←g])⟩
theorem B8[DecidableEq MN](b:MN)(e:V){c:MN}{d:List (MN×V)}:c∈(bC b e d).map (·.1)→c=b∨c∈d.map (·.1):=by
 induction d with
 |nil=>intro a;exact .inl (Rk.mp a)
 |cons f h g=>
  rw [hM];by_cases a:f.1=b
  ·rw [Qt a];exact .inr
  ·rw [Qs a];intro hv;rcases QX.mp hv with hv|hv
   ·exact .inr (QX.mpr (.inl hv))
   ·rcases g hv with aj|aj
    ·exact .inl aj
    ·exact .inr (QX.mpr (.inr aj))
theorem B9[DecidableEq MN](b:MN)(d:V){c:List (MN×V)}:(c.map (·.1)).Nodup→((bC b d c).map (·.1)).Nodup:=by
 induction c with
 |nil=>intro k;exact QZ.mpr ⟨(λa=>by cases a),Rq⟩
 |cons f l g=>
  intro e;obtain⟨h,i⟩:=QZ.mp e;rw [hM];by_cases a:f.1=b
  ·rw [Qt a];exact e
  ·rw [Qs a];exact QZ.mpr ⟨λj=>(B8 b d j).elim a h,g i⟩
theorem Ca{a:List (am×V)}:∀{f:List (am×Qk)},f.map (·.1)=a.map (·.1)→bh e (a.map (·.2)) (f.map (·.2))→∀{O:List (am×V)}{v2:List (am×Qk)},v2.map (·.1)=O.map (·.1)→(v2.map (·.1)).Nodup→bh e (O.map (·.2)) (v2.map (·.2))→
  (UN v2 f).map (·.1)=(a.foldl (λE s=>bC s.1 s.2 E) O).map (·.1)∧bh e ((a.foldl (λE s=>bC s.1 s.2 E) O).map (·.2)) ((UN v2 f).map (·.2)):=by
 induction a with
 |nil=>intro f c k O v2 s g E;clear k;obtain rfl:=Ti.mp c;exact⟨s,E⟩
 |cons l a m=>
  intro f c d O v2 s g E;induction f using QH with
  |nil=>cases c
  |cons i f=>
   obtain⟨b,n⟩:=Sd c;have o:=aM.hd d;have d:=aM.Pk d
   ·obtain⟨h,j⟩:=ut (b:=i.1) o s g E;have b:i.1=l.1:=b;rw [b]at h j;have aj:=m n d h (by rw [h];exact B9 _ _ (by rw [←s];exact g)) j;rw [←b]at aj;rw [Tc,←b];exact aj
theorem Cb{a:List (am×V)}:∀(O:List (am×V)),(a.foldl (λE s=>bC s.1 s.2 E) O).length≤O.length+a.length:=by
 induction a with
 |nil=>intro O;exact Qu _
 |cons s E b=>
  intro O;refine Qv (b (bC s.1 s.2 O)) (Qv (Ta (fW s.1 s.2 O) _) (RT ?_));rw [Qw,S8,Uq 1]
theorem nR{b:V→Prop}(No:bh e MJ G)(a:mc MJ b):∃p A,G=[A]∧ah e p A∧b p:=by
 induction No using aM.casesOn with
 |nil=>exact a.elim
 |cons c d=>induction d using aM.casesOn with
  |nil=>exact(ee _ _ rfl c a)
  |cons _ _=>exact a.elim
theorem kk{c:V→V→Prop}(No:bh e MJ G)(a:jo MJ c):∃p A f g,G=[A,g]∧ah e p A∧ah e f g∧c p f:=by
 induction No using aM.casesOn with
 |nil=>exact a.elim
 |cons d b=>induction b using aM.casesOn with
  |nil=>exact a.elim
  |cons h b=>induction b using aM.casesOn with
   |nil=>exact(lU _ _ _ _ rfl d h a)
   |cons _ _=>exact a.elim
section
variable(Nc:bZ C r)(N:aI b a h e c d.heap)(No:bh e MJ G){o:aD}(Nm:gp b a h e c d o ht)
include N No Nm
theorem Cc(f:tk MJ o c):QQ (QO b a) r (TE (.builtin "len") G) ht hx d:=by
 obtain⟨t,u,rfl,k,f⟩:=nR No f;have l:∀{i:List V}{m:List Qk},m.length=i.length→o (.int i.length) c→ht (.int m.toArray.size (d.toks+1)) {d with toks:=d.toks+1+1}:=λn f=>Nm _ c _ _ e f (.toks _) (N.toks _) (by rw [Ra,n];exact .int _ _);clear No;rcases nL N k with⟨h,p⟩|⟨i,v,G,T,h,rfl,q,g,j⟩
 ·rw [h]at f;clear h;induction k using ah.casesOn with
  |tup s g j=>exact PyProof.Rows.len_tuple (items:=_) ⟨_,(N.Oa _ _ s).1,rfl,_,rfl⟩ (mg (Qv (RT g.length) j)) (l g.length f)
  |lst=>exact Rz rfl (p _)
  |_=>exact f.elim
 ·rw [h]at f;exact call_len_list (items:=G.toArray) ⟨_,q,rfl,T,rfl⟩ (mg (Qv (RT g.length) j)) (l g.length f)
theorem Cd(e:tl MJ o c):QQ (QO b a) r (TE (.builtin "abs") G) ht hx d:=by
 obtain⟨h,f,rfl,g,e⟩:=nR No e;obtain⟨i,rfl,e⟩:=fT e;clear No;induction g using ah.Oq;refine PyProof.Rows.call_abs_int λf j=>?_;rw [B6];exact Nm _ _ _ _ _ e (.toks _) (N.toks _) (.int _ _)
include Nc
theorem Ce(e:tm MJ o c):QQ (QO b a) r (TE (.builtin "max") G) ht hx d:=by
 obtain⟨p,q,s,t,rfl,i,j,e⟩:=kk No e;obtain⟨k,l,e⟩:=fT e;obtain⟨m,n,f⟩:=fT e;subst l n;induction i using ah.Oq;clear No;induction j using ah.Oq;refine max_two_ints Nc.1 λu v g=>?_;by_cases h:m>k
 ·rw [Qt h]at f⊢;exact Nm _ _ _ _ _ f (.grown g) (N.grow g) (.int _ _)
 ·rw [Qs h]at f⊢;exact Nm _ _ _ _ _ f (.grown g) (N.grow g) (.int _ _)
omit Nc
theorem Cf(e:tn MJ o c):QQ (QO b a) r (TE (.builtin "isinstance") G) ht hx d:=by
 obtain⟨k,l,m,n,rfl,g,h,i,p,f,e⟩:=kk No e;subst i;induction h using ah.OK;clear No;induction g using ah.casesOn with
 |int=>obtain rfl:=Qj f;exact call_isinstance (isinstance_false_int (T:= "tuple") (by decide) rfl (by rw [isSubtype_type];kernel_rfl)) (Nm _ _ _ _ _ e (.toks _) (N.toks _) (.bool _))
 |tup j=>obtain rfl:=Qj f;exact call_isinstance (isinstance_true (Tx:= "tuple") (T:= "tuple") rfl isSubtype_tuple_tuple) ⟨⟨_,(N.Oa _ _ j).1,rfl⟩,Nm _ _ _ _ _ e .refl N (.bool _)⟩
 |_=>exact ag f
theorem Cg(e:to MJ o c):QQ (QO b a) r (TE (.builtin "list.append") G) ht hx d:=by
 obtain⟨p,q,s,t,rfl,j,k,e⟩:=kk No e;obtain⟨u,v,rfl,f,w,rfl,l,e⟩:=kf e;clear No;induction j using ah.OM;obtain⟨G,T,m,g,n⟩:=N.mt _ _ f;refine Uu m (λx h i=>?_) (by rw [Ra,g.length];exact Qv n (by decide:a4≤Tl));rw [List.push_toArray]at i;exact Nm _ _ _ _ _ e (aS.put (D:=d.toks) h f) (N.put h.2 (N.O5 f) ⟨_,_,i,g.append (.cons k .nil),by rw [Qr];exact l⟩) .none
theorem Ch(e:tp MJ o c):QQ (QO b a) r (TE (.builtin "list.pop") G) ht hx d:=by
 obtain⟨n,j,rfl,p,e⟩:=nR No e;obtain⟨u,v,rfl,f,w,rfl,n,k,e⟩:=kf e;clear No;induction p using ah.OM;obtain⟨G,T,g,h,l⟩:=N.mt _ _ f;have m:=h.length;rw [List.getLast?_eq_getElem?]at k;obtain⟨j,q,s⟩:=h.get k;refine Vm PySem.F.slot_list_pop ⟨_,g,rfl⟩ PySem.F.entry_list_pop (PySem.F.args_list_pop_1 _) (PySem.MeetsSeq.list_pop_last _ G.toArray T j (by rw [Ra,m,List.getElem?_toArray];exact q) (by rw [Ra,m];exact Qv l (by decide))) ⟨g,?_⟩;have a5:=PySem.IsL.update (show PySem.IsL d.heap _ G.toArray T from g) (λi=>i.eraseIdxIfInBounds (G.toArray.size-1));have t:G.toArray.eraseIdxIfInBounds (G.toArray.size-1)=G.dropLast.toArray:=by
  simp [List.eraseIdx_length_sub_one]
 rw [t]at a5;exact Nm _ _ _ _ _ e (aS.put (D:=d.toks) (RK ..) f) (N.put (RK (f:=Obj.mapSeq λi=>i.eraseIdxIfInBounds (G.toArray.size-1)) ..).2 (N.O5 f) ⟨_,_,a5,h.dropLast,by rw [List.length_dropLast];exact Qv (Wi _ _) l⟩) s
theorem Ci(e:tq MJ o c):QQ (QO b a) r (TE (.builtin "list.index") G) ht hx d:=by
 obtain⟨K,L,M,O,rfl,x,y,e⟩:=kk No e;obtain⟨P,Q,rfl,z,R,rfl,T,f,e⟩:=kf e;clear No;induction x using ah.OM;obtain⟨G,A,s,n,B⟩:=N.mt _ _ z;obtain⟨h,C,f⟩:=ci f;obtain⟨i,t,f⟩:=ci f;by_cases p:(i.any λj=>decide (j=h))=Qp
 ·rw [Qt p]at f;obtain rfl:=Qj f;obtain⟨S,u,D⟩:=n.Ob t;have k:i.findIdx (λq=>decide (q=h))<i.length:=List.findIdx_lt_length.mpr (R1.mp p);have v:∀g (m:g<G.toArray.size),decide (go G.toArray[g]=J h)=decide (i[g]? =J h):=by
   intro g m;obtain⟨V,E,F,_⟩:=D g G.toArray[g] (by simp at m;simp [m]);rw [E,F]
  refine Vm PySem.F.slot_list_index ⟨_,s,rfl⟩ PySem.F.entry_list_index (PySem.F.args_list_index_2 _ _)
   (list_indexAt _ G.toArray A _ _ _ (λj=>decide (go j=J h)) (i.findIdx λq=>decide (q=h)) (by rw [Ra,←u];exact k) (Ua (TO.mpr (TJ (SP k (by rw [u,n.length];exact B)))) (by decide:((a4:Nat):Int)<2^63-1)) ?_ ?_) (bw s (λj H=>qc (NP:=go) (λe l=>(e.Ob l).1) n (λe l=>qb (e.Ob l).2 (y.Ob C).2) t j (Wx.mp H)) (Nm _ _ _ _ _ e (.toks _) (N.toks _) (.int _ _)))
  ·rw [v,Rh k];exact QD (QP J (Re (List.findIdx_getElem (w:=k))))
  ·intro g m w;have I:g<i.length:=TH w k;rw [v,Rh I];have:=List.not_of_lt_findIdx w;exact Qx λl=>by rw [QD (Qj l)]at this;exact bG this
 ·rw [Qs p]at f;exact ag f
variable(Nt:iT h)
include Nt
theorem Cj(f:tr MJ o c):QQ (QO b a) r (TE (.builtin "dict.get") G) ht hx d:=by
 obtain⟨g,m,x,y,rfl,n,p,f⟩:=kk No f;obtain⟨z,A,rfl,h,O,rfl,i,q,f⟩:=kf f;clear No;induction n using ah.OM;obtain⟨B,j,s,t,_⟩:=N.mt _ _ h;refine Wa PySem.F.slot_dict_get j.typeIs PySem.F.entry_dict_get (PySem.F.args_dict_get_2 _ _) (meets_dict_get (ds b a) _ (p.Ob q).2 (lc Nt N h)) (aU _ j.mapOf ?_);have k:=qd s t (a:=i);refine Nm _ _ _ _ e f (.toks _) (N.toks _) ?_;generalize l:bA i O=u;induction u using Qm with
 |none=>rw [k.2 l];exact .none
 |some g=>obtain⟨m,v,w⟩:=k.1 g l;rw [v];exact w
theorem Ck(f:tt MJ o c):QQ (QO b a) r (TE (.builtin "dict.update") G) ht hx d:=by
 obtain⟨D,E,F,H,rfl,q,s,f⟩:=kk No f;obtain⟨I,K,rfl,g,f⟩:=kf f;obtain⟨L,M,rfl,i,O,t,rfl,rfl,u,j,f⟩:=kf f;induction q using ah.OM;clear No;induction s using ah.OM;obtain⟨k,h,l,v,P⟩:=N.mt _ _ g;obtain⟨m,w,n,x,Q⟩:=N.mt _ _ i;have y:k.length=O.length:=by rw [←QL,l,QL]
 have z:m.length=t.length:=by rw [←QL,n,QL]
 refine Wa WK h.typeIs PySem.F.entry_dict_update (PySem.F.args_dict_update_2 _ _) (meets_dict_update (ds b a) _ _ u (lc Nt N i)) (ji k m h w (by rw [y,z];exact Qv (TJ j) (by decide)) (λR A S p=>?_));obtain⟨B,C⟩:=Ca n x l (uu h) v;exact Nm _ _ _ _ e f (aS.put (D:=d.toks) p g) (N.put p.2 (N.O5 g) ⟨_,A,B,C,Qv (Cb O) (TJ j)⟩) .none
omit Nt
include Nc
theorem Cm(f:ts MJ o c):QQ (QO b a) r (TE (.builtin "dict.pop") G) ht hx d:=by
 obtain⟨u,v,P,Q,rfl,i,w,f⟩:=kk No f;obtain⟨R,l,rfl,h,O,rfl,x,y,u,z,f⟩:=kf f;induction i using ah.OM;obtain⟨A,m,g,n,B,p⟩:=N.mt _ _ h;clear No;obtain⟨S,G,T,rfl,_,_,C,_⟩:=nN N w y;obtain⟨v,D,E⟩:=(qe g n).1 _ z;obtain⟨q,s⟩:=B7 D;have F:A.length=O.length:=by rw [←QL,g,QL]
 have H:(O.map (·.1)).Nodup:=by rw [←g];obtain⟨_,_,_,_,_,_,_,_,T⟩:=m;exact T
 have j:=B4 (by rw [←g,Rb,s];rfl:(O.map (·.1))[q]? =J x) H;refine B5 Nc.OR C m (by rw [F];exact Qv p (by decide)) s λV W I k=>Nm _ _ _ _ e f (aS.put k h) (N.put k.2 (N.O5 h) ⟨_,I,?_,?_,λK i=>?_,?_⟩) E
 ·rw [j,lf,lf,g]
 ·rw [j,lf,lf];exact n.eraseIdx q
 ·obtain⟨l,t,L⟩:=B K (U0 i);exact(aU l t ((k.2 _ λM=>by have:=N.O5 h;rw [←M,t]at this;exact ag this.symm).trans L))
 ·rw [j];exact Qv (List.length_eraseIdx_le _ _) p
end
theorem Cn{g:QN}{f:ax}{e:I}{i:Ql}{id:String}{j:List V}{k:List Qk}(Nt:iT h)(Nc:bZ C g)(N:aI b a h f e i.heap)(No:bh f j k):fF b a h f0 g (TE (.builtin id) k) f e i (λo Z e=>et id j o e):=by
 intro o l m n d Nm p;unfold et at d;by_cases c:id= "len"
 ·subst c;rw [Qt rfl]at d;exact Cc N No Nm d
 rw [Qs c]at d;clear c;by_cases c:id= "abs"
 ·subst c;rw [Qt rfl]at d;exact Cd N No Nm d
 rw [Qs c]at d;clear c;by_cases c:id= "max"
 ·subst c;rw [Qt rfl]at d;exact Ce Nc N No Nm d
 rw [Qs c]at d;clear c;by_cases c:id= "isinstance"
 ·subst c;rw [Qt rfl]at d;exact Cf N No Nm d
 rw [Qs c]at d;clear c;by_cases c:id= "list.append"
 ·subst c;rw [Qt rfl]at d;exact Cg N No Nm d
 rw [Qs c]at d;clear c;by_cases c:id= "list.pop"
 ·subst c;rw [Qt rfl]at d;exact Ch N No Nm d
 rw [Qs c]at d;clear c;by_cases c:id= "list.index"
 ·subst c;rw [Qt rfl]at d;exact Ci N No Nm d
 rw [Qs c]at d;clear c;by_cases c:id= "dict.get"
 ·subst c;rw [Qt rfl]at d;exact Cj N No Nm Nt d
 rw [Qs c]at d;clear c;by_cases c:id= "dict.pop"
 ·subst c;rw [Qt rfl]at d;exact Cm Nc N No Nm d
 rw [Qs c]at d;clear c;by_cases c:id= "dict.update"
 ·subst c;rw [Qt rfl]at d;exact Ck N No Nm Nt d
 rw [Qs c]at d;exact d.elim
end
theorem mj(b:(n.map (·.1)).Nodup)(c:n[z]? =J (j,a2))(d:n[l1]? =J (j,g)):z=l1:=by
 have a:(n.map (·.1))[z]? =J j:=by refine Q (Rb ..) (Q (c ..) ?_);rfl
 have e:(n.map (·.1))[l1]? =J j:=by refine Q (Rb ..) (Q (d ..) ?_);rfl
 obtain⟨f,h⟩:=QE.mp a;exact(List.getElem?_inj f b).mp (a.trans e.symm)
theorem kl(b:(n.map (·.1)).Nodup)(a:n[z]? =J (j,a2)):n.lookup j=J a2:=by
 induction n generalizing z with
 |nil=>simp at a
 |cons d i c=>
  obtain⟨e,k⟩:=d;simp only [Rv,QZ]at b;refine Q (Rx ..) ?_;induction z using Rn with
  |zero=>
   simp only [List.getElem?_cons_zero,Tb,Prod.mk.injEq]at a;refine ar a λf g=>?_;subst f;clear c a;subst g;simp
  |succ z=>
   simp only [List.getElem?_cons_succ]at a;have h:j≠e:=by
    rintro rfl;exact b.1 (RH.mpr (aU _ (QB a) rfl))
   exact Q (Q0.mpr h ..) (c b.2 a)
theorem lg(a:z<t.length):((t.set z (J p))[z]?).join=J p:=by simp [a]
theorem hY(a:z≠l1):((t.set z (J p))[l1]?).join=(t[l1]?).join:=by exact Q (VC a ..) rfl
theorem d2.off(o:d2 r e c u)(b:∀l,l≠i→ho.get? l=u.get? l)(p:∀q,u.get? i=J q→∃f,ho.get? i=J f∧((∃O g,q.data=.dict O g)→∃O g,f.data=.dict O g)):d2 r e c ho:=by
 refine ae o.at_ λs t v=>⟨s,t,λw x=>?_⟩;refine ar (v w x) λd y=>fc y λa q h j k m dO=>?_;by_cases n:a=i
 ·clear b;subst n;exact ae (p q j) λf z A=>⟨d,a,f,h,z,A k,m,dO⟩
 ·exact⟨d,a,q,h,(b a n).trans j,k,m,dO⟩
theorem uv(a:u.Ns i lb):∃q,u.get? i=J q∧∃O f,q.data=.dict O f:=by
 exact iA a λq O f b c d=>⟨q,b,O,f,c⟩
theorem ml{b:List (QA×Qo)}(a:b.lookup j=J i):(j,i)∈b:=by
 induction b with
 |nil=>simp at a
 |cons e b c=>
  obtain⟨aj,f⟩:=e;rw [Rx]at a;by_cases d:j=aj
  ·subst d;simp at a;clear c;subst a;exact .head _
  ·rw [Q0.mpr d]at a;exact .tail _ (c a)
theorem uw:∀{bR:List (QA×Qo)},bR.Pairwise (λj c2=>j.2≠c2.2)→∀{j c2:QA}{i l:Qo},bR.lookup j=J i→bR.lookup c2=J l→j≠c2→i≠l
 |[],_,_,_,_,_,g,_,_=>by simp at g
 |(aj,h)::k,c,j,c2,i,l,b,a,e=>by
  rw [List.pairwise_cons]at c;rw [Rx]at b a;by_cases d:j=aj
  ·subst d;simp at b;subst b;rw [Q0.mpr (RY e)]at a;exact c.1 _ (ml a)
  ·rw [Q0.mpr d]at b;by_cases f:c2=aj
   ·clear d;subst f;simp at a;subst a;exact RY (c.1 _ (ml b))
   ·rw [Q0.mpr f]at a;exact uw c.2 b a e
section
structure dc(y:Env)(e:ax)(c:I)(d:Shared)(hn:ax)(fw:I)(M:Shared):Prop where
 mono:∀i q,e i=some q→hn i=some q
 same:∀i q,d.heap.get? i=some q→c i=none→i≠y.locals→(∀j ca a2,(j,a2)∈y.scope.names→a2=NameKind.cell∨a2=NameKind.free→y.cells.lookup j=some ca→i≠ca)→M.heap.get? i=some q∧fw i=none∧hn i=e i
 gens:M.gens=d.gens
 os:M.os=d.os
theorem aS.Oh(a:aS e c d hn fw M):dc y e c d hn fw M:=⟨a.mono,λb f g h i i=>a.same b f g h,a.gens,a.os⟩
theorem dc.trans(f:dc y e c d hn fw M)(g:dc y hn fw M k m L):dc y e c d k m L:=
 ⟨λa b j=>g.mono a b (f.mono a b j),λa b l n h i=>by
  refine bf (f.same a b l n h i) λo p q=>bf (g.same a b o p h i) λr s t=>?_;exact(bw r s (t.trans q)),g.gens.trans f.gens,g.os.trans f.os⟩
theorem nS(N:c1 n j=J z)(Y:aI b a h e c d.heap)(f:bg r y n t e c d.heap lb)(Z:ah e p A)
  (ai:y.cells.Pairwise λj c2=>j.2≠c2.2){aa:Unit→Ql→Prop}(ab:∀M ap,dc y e c d e c M→aI b a h e c M.heap→bg r y n (t.set z (J p)) e c M.heap ap→aa () M):QQ (QO b a) r (VX y j A) aa hx d:=by
 refine bk (iS N) λo P aj C=>?_;have H:y.kindOf j=J o:=by unfold SO;refine Q (f.names ..) ?_;exact P
 have ad:z<t.length:=by refine Q (f.len ..) ?_;exact(QE.mp C).1
 induction o using S1 with
 |«local»=>
  refine Wr H f.ns (λak R m=>ab _ (λc2=>if c2=j then J A else lb c2) ⟨λx x S=>S,λT V i g q x=>(bw ((m.2 T q).trans i) g rfl),rfl,rfl⟩ (Y.off m.2 f.own.1 f.own.2) ?_) (by refine Q (f.kind ..) ?_;rfl);refine⟨f.OE.off m.2 λV W=>?_,f.kind,f.names,f.glob,f.blt,R,f.own,by simp [f.len],f.nodup,λs u c2 i g=>?_,λc2 o i g=>?_,λs u c2 o i g q=>?_⟩
  ·refine ae (uv R) λal l v=>?_;exact(aU al l (λx=>v))
  ·by_cases k:z=s
   ·subst k;rw [lg ad]at i;obtain rfl:=Qj i;rw [C]at g;cases g;exact(aU A (Qt rfl) Z)
   ·rw [hY k]at i;refine ae (f.loc s u c2 i g) λF l v=>?_;have:c2≠j:=by clear N P H R;rintro rfl;exact k (mj f.nodup C g)
    exact⟨F,by refine Q (Qs this ..) ?_;exact l,v⟩
  ·exact fc (f.cells c2 o i g) λw u l v E I G=>(kX w u l (jt v (m.2 w G)) E I G)
  ·have k:z≠s:=by clear i;rintro rfl;rw [C]at g;cases g;rcases q with q|q<;>cases q
   rw [hY k]at i;refine bQ (f.ON s u c2 o i g q) λw F l v E=>fc (f.cells c2 o (QB g) q) λD as B x x x dO=>?_;rw [l]at B;clear x;obtain rfl:=Qj B;exact⟨w,F,l,jt v (m.2 w dO),E⟩
 |cell=>
  refine fc (f.cells j .cell (QB C) (.inl rfl)) λw au l v E I G=>?_;have af:(j,w)∈y.cells:=ml l;refine wpAny_storeName_cell f.kind H l v λak X m=>ab _ lb ⟨λx x S=>S,λT V i g x am=>(bw ((m.2 T (am j w .cell (by refine Q (f.names ..) ?_;exact QB C) (.inl rfl) l)).trans i) g rfl),rfl,rfl⟩ (Y.off m.2 E I) ?_;refine⟨f.OE.off m.2 λV W=>?_,f.kind,f.names,f.glob,f.blt,tU f.ns (m.2 _ (RY G)),f.own,by simp [f.len],f.nodup,λs u c2 i g=>?_,λc2 o i g=>?_,λs u c2 o i g q=>?_⟩
  ·refine ae X λan B K=>⟨an,B,λ⟨O,av,k⟩=>?_⟩;refine ae v λaw ao aq=>?_;rw [ao]at W;obtain rfl:=Qj W;rw [aq]at k;cases k
  ·have k:z≠s:=by clear i;rintro rfl;rw [C]at g;cases g
   rw [hY k]at i;exact f.loc s u c2 i g
  ·refine fc (f.cells c2 o i g) λD u B K L ag dO=>?_;by_cases k:D=w
   ·clear l v E I G af m;subst k;exact(kX D _ B X L ag dO)
   ·exact(kX D u B (jt K (m.2 D k)) L ag dO)
  ·by_cases k:z=s
   ·subst k;rw [lg ad]at i;obtain rfl:=Qj i;rw [C]at g;clear q;cases g;exact(ee w A l X Z)
   ·rw [hY k]at i;refine bQ (f.ON s u c2 o i g q) λD F B K L=>?_;have ar:c2≠j:=by clear N P H l af;rintro rfl;exact k (mj f.nodup C g)
    have:D≠w:=uw ai B l ar;exact⟨D,F,B,jt K (m.2 D this),L⟩
 |_=>exact bG aj.symm
end
abbrev ao(a:List Sj):List Qo:=a.filterMap (·.frame)
abbrev nT:=Q9→List Sj→Qo→Qk→Q9→Prop
def nU(a:Qk):nT:=λNs b2 b c u=>Heap.FlyingW Ns b2 b a c u
def jx(b:Qk):nT:=λNs b2 c d u=>∃y e a,b2=y::e∧y.frame=J a∧V0 Ns b2 c b d a u
def qs(c:Qk):nT:=λNs b2 b d u=>Ns.StaysIn u∧Ns.get? b=U∧u.FunFrames Ns b2∧∃a v,u.get? b=J a∧a.cls=c∧a.data=.fields v∧v[1]? =J .none∧v[0]? =J d
def gq(d:QN)(e:Qk)(a:Q9)(f:nT)(b:Q9):Prop:=
 ∃b2 Ns c g,d.frames=J b2∧e=.ref c∧(∀l q,a.get? l=J q→l∉ao b2→Ns.get? l=J q)∧a.UpToSlots b∧f Ns b2 c g b
section
variable(b:QG)(a:QV)(h:Q9)(cl:Qk)
def bc:bp:=λe c d r fw s M=>∃hn MU,aS e c d hn fw {M with heap:=MU}∧aI b a h hn fw MU∧gq r s MU (nU cl) M.heap
def fX(i:Bool)(j:aL)(g:Sj)(k:ax)(l:I)(m:Ql)(c:QN)(n:aq)(e:I)(f:Qk)(d:Ql):Prop:=
 ∃hn MU o,dc g k l m hn e {d with heap:=MU}∧aI b a h hn e MU∧bg c g j n hn e MU o∧(gq c f MU (nU cl) d.heap∨gq c f MU (jx cl) d.heap∨(i=Qp∧gq c f MU (qs cl) d.heap))
end
section
theorem bc.back:d3 (bc b a h cl):=⟨λc d=>dY d λe f g i=>⟨e,f,c.trans g,i⟩⟩
theorem fX.back{f:Qk}(g:dc y e c d M0 bl MP):fX b a h cl E n y M0 bl MP r m2 fw f M→fX b a h cl E n y e c d r m2 fw f M:=
 λi=>lT i λj k l m aj=>⟨j,k,l,g.trans m,aj⟩
theorem fX.of{f:Qk}(i:bg r y n t e c d.heap lb):bc b a h cl e c d r fw f M→fX b a h cl E n y e c d r t fw f M:=
 λj=>bQ j λk l g aj m=>⟨k,l,lb,g.Oh,aj,i.ext g,.inl m⟩
theorem fX.up{f:Qk}(g:Bool):fX b a h cl Qq n y e c d r t fw f M→fX b a h cl g n y e c d r t fw f M:=
 λi=>iB i λj k l m aj o hv=>⟨j,k,l,m,aj,o,by rcases hv with hv|hv|hv;exact .inl hv;exact .inr (.inl hv);cases hv.1⟩
theorem d2.PM{g:Q9}:∀{b2:List Sj},(∀y∈b2,y.scope.kind=.function∧∃f q,y.frame=J f∧u.get? f=J q∧(∃O k,q.data=.dict O k)∧e f=U∧c f=U)→(∀i,i∈ao b2→g.get? i=U)→u.FunFrames g b2
 |[],_,_=>trivial
 |y::b2,h,j=>by
  refine bE λv m=>ar (h y (.head _)) λn o=>fc o λf q l p r w dO=>j0 r λO k s=>m ?_;refine⟨by refine Q (n ..) ?_;decide,(ji f q l (j f (SK.mpr (aU y (.head _) l))) p (λx a=>by rw [s]at a;cases a)),d2.PM (λb d=>h b (.tail _ d)) λi t=>j i ?_⟩;exact ae (SK.mp t) λb d a=>SK.mpr (aU b (.tail _ d) a)
theorem Co{t:List Sj}{n:Qk}(X:r.frames=some t)(u:y.frame=some L)(af:aI b a h hn fw MU)(A:hn L=none∧fw L=none)
  (hv:gq (r.deeper y) n MU (nU cl) M.heap∨gq (r.deeper y) n MU (jx cl) M.heap∨gq (r.deeper y) n MU (qs cl) M.heap)(o:aS e c d hn fw {M with heap:=MU})(ah:d.heap.get? L=none)
  {F:Unit→Ql→Prop}(C:∀ap,bc b a h cl e c d r fw n ap→F () ap):QQ (QO b a) (r.deeper y) (leaving y n) F B M:=by
 have p:(r.deeper y).frames=some (y::t):=by show r.frames.map _=_;refine Q (X ..) ?_;rfl
 have G:∀{k:Q9}{l:Qo}{q:Qk}{D:Q9},n=.ref l→(∀g i,MU.get? g=some i→g∉ao (y::t)→k.get? g=some i)→Heap.FlyingW k t l cl q D→M.heap.UpToSlots D→MU.UpToSlots M.heap→F () {M with heap:=D}:=by
  intro k l q D ai Y aj ak al;refine C _ ⟨hn,Vx MU [L],⟨o.mono,λam i f an=>?_,o.gens,o.os⟩,af.off (i:=L) (λg m=>?_) A.1 A.2,t,k,l,q,X,ai,λg i m v=>?_,λg i m aq=>?_,aj⟩
  ·refine bf (o.same am i f an) λH s ar=>(bw (Vq [L] H λv=>?_) s ar);rw [Rk]at v;rw [v,ah]at f;exact ag f
  ·generalize hv:MU.get? g=I;induction I using Qm with
   |some i=>exact Vq [L] hv (by simpa using m)
   |none=>
    generalize as:(Vx MU [L]).get? g=I;induction I using Qm with
    |none=>rfl
    |some i=>have:=TU [L] as;rw [hv]at this;exact ag this
  ·refine Y g i (TU [L] m) λZ=>ae (SK.mp Z) λs K N=>?_;clear hv o p Y;rcases QX.mp K with rfl|K
   ·rw [u]at N;clear v Z;obtain rfl:=Qj N;rw [hideAll_none [L] (.head _)]at m;exact ag m
   ·exact v (SK.mpr (aU s K N))
  ·exact(al.trans ak) g i (TU [L] m) aq
 clear o;rcases hv with hv|hv|hv
 ·refine kW hv λaa k l q f j w x E=>?_;clear C hv;subst j;rw [p]at f;obtain rfl:=Qj f;exact wpAny_leaves_onW p u E λab O P=>G rfl w O P x
 ·refine kW hv λaa k l q f j w x z=>iA z λaA aB aC H s E=>?_;clear C hv;subst j;rw [p]at f;clear z;obtain rfl:=Qj f;cases H;rw [u]at s;obtain rfl:=Qj s;unfold leaving;refine Qn (V6 u E.2.2.2 (wpAny_landsW E λab O P=>?_));exact cY O λR S j T=>bf j λV V W=>G rfl w ⟨R,S,W,T⟩ P x
 ·refine zv hv λaa k l q f j w x au ad av z=>fc z λaD aE aw dO ax ay az=>?_;subst j;rw [p]at f;obtain rfl:=Qj f;clear z C hv;subst dO;exact wpAny_leaving_firstW p av u aw au ad ax ay az λab A=>cY A λR j W T=>bf j λV V S=>G rfl w ⟨R,ad,S,W⟩ T x
end
set_option tactic.hygienic true in
inductive hZ(e:ax):l5→Flow→Prop
 |NX:hZ e .NX .next
 |Ow:hZ e .Ow .cont
 |N9 {p:V}{A:Value}:ah e p A→hZ e (.N9 p) (.ret A)
structure h0(r:Around)(y:Env):Prop where
 top:∃outer,r.frames=some (y::outer)
 frame:y.frame=some y.locals
 apart:y.cells.Pairwise λj c2=>j.2≠c2.2
section
variable(b:QG)(a:QV)(h:Q9)(cl:Qk)(x:aO)(w:aR)(C:Nat)
abbrev iU(e:aL)(f:QN)(c:Sj)(g:ax)(i:I)(j:Ql)(o:bF)(k:VP→Ql→Prop):Prop:=
 ∀a1 m2 fw d M hn l,o a1 m2 fw→dc c g i j hn fw M→aI b a h hn fw M.heap→bg f c e m2 hn fw M.heap l→hZ hn a1 d→k d M
abbrev fY(c:Bool)(d:aL)(e:QN)(f:Sj)(g:ax)(i:I)(j:Ql)(B:bt)(k:Qk→Ql→Prop):Prop:=
 ∀s m2 fw M,B m2 fw→fX b a h cl c d f g i j e m2 fw s M→k s M
def gr(g:Bool)(f:aL)(i:List RU)(j:List N):Prop:=∀{r:QN}{y:Sj}{t:aq}{e:ax}{c:I}{lb:QA→Option Qk}{d:Ql},bZ C r→aI b a h e c d.heap→bg r y f t e c d.heap lb→h0 r y→
 ∀{o:bF}{B:bt}{ht:VP→Ql→Prop}{hx:Qk→Ql→Prop},aw x w j t o B c→iU b a h f r y e c d o ht→fY b a h cl g f r y e c d B hx→QQ (QO b a) r (execs i y) ht hx d
end
structure nV(h:Heap)(i:Addr)(MK:aY)(q:Obj)(u4:FuncData)(body:List Stmt)(aB:List Str):Prop where
 obj:h.get? i=some q
 data:q.data=.func u4
 P0:u4.body=.stmts body
 P1:u4.closure=[]
 Pn:u4.globals=mainGlobals
 blt:u4.builtins=builtinsNs
 kind:u4.scope.kind=.function
 gen:u4.scope.isGenerator=false
 co:u4.scope.isCoroutine=false
 code:h.CodeRec u4.code u4.qualname
 nodup:(u4.scope.names.map (·.1)).Nodup
 kinds:∀s∈u4.scope.names,s.2≠.free
 size:MK.size=u4.scope.names.length
 par:aM (λas z=>∃a2,u4.scope.names[z]? =some (as,a2)∧hd a2=true) aB MK.OB
 binds:∀{e:ax}{d:Shared}{MJ v:List V}{G:List Value},(∀l q,h.get? l=some q→e l=some q∧d.heap.get? l=some q)→gO MK.OB.length MK.dflt MJ=some v→bh e MJ G→∃ws',bh e v ws'∧BindsTo d u4 ⟨G,[]⟩ (aB.zip ws')
structure km(it:Frag)(h:Heap)(l0:Str→Option V)(i:Addr)(MK:aY)(q:Obj)(u4:FuncData)(body:List Stmt)(aB:List Str):Prop extends nV h i MK q u4 body aB where
 PN:fj l0 true u4.scope.names body=some MK.body
 keep:keepIn it (.ref i)=true
section
def h2(a:aL)(b:ax)(c:QF)(d:aq)(e:QA→Option Qk):Prop:=∀(z:Nat) (p:V) (j:QA),(d[z]?).join=J p→a[z]? =J (j,c)→∃A,e j=J A∧ah b p A
theorem K0:fB (z::MR) (p::v) t=fB MR v (t.set z (J p)):=rfl
theorem h2.put{c:QA}(i:(n.map (·.1)).Nodup)(f:n[z]? =J (c,g))(k:z<t.length)(l:ah e p A)(m:h2 n e g t lb):h2 n e g (t.set z (J p)) λj=>if j=c then J A else lb j:=by
 intro h o j a b;by_cases d:z=h
 ·subst d;rw [lg k]at a;obtain rfl:=Qj a;rw [f]at b;have q:j=c:=(QP Ug (Qj b)).symm;exact⟨A,Qt q,l⟩
 ·rw [hY d]at a;exact ae (m h o j a b) λr s u=>(aU r ((Qs (λaj=>d (mj i f (aj▸b)))).trans s) u)
theorem h2.off{c:QA}(d:n[z]? =J (c,g))(h:f≠g)(i:h2 n e f t lb):h2 n e f (t.set z (J p)) lb:=by
 intro j k l a b;rw [hY (λm=>h (QP Uf (Qj ((m▸d).symm.trans b))).symm)]at a;exact i j k l a b
theorem Cp(a:QA→Option QF)(b:QA)(d:Qk)(e:List (QA×Qk))(c:QA→Option Qk):bindL a ((b,d)::e) c=bindL a e (if a b=J .local then λc2=>if c2=b then J d else c c2 else c):=rfl
theorem Cq(a:QA→Option QF)(b:QA)(d:Qk)(e:List (QA×Qk))(c:QA→Option Qk):bindC a ((b,d)::e) c=bindC a e (if a b=J .local then c else λc2=>if c2=b then J d else c c2):=rfl
theorem Cr(i:(n.map (·.1)).Nodup)(k:aM (λas z=>∃a2,n[z]? =J (as,a2)∧hd a2=Qp) aB MR):∀{v:List V}{G:List Qk}{t m2:aq}{lb f:QA→Option Qk},bh e v G→fB MR v t=J m2→t.length=n.length→
  h2 n e .local t lb→h2 n e .cell t f→m2.length=n.length∧h2 n e .local m2 (bindL (λj=>n.lookup j) (aB.zip G) lb)∧h2 n e .cell m2 (bindC (λj=>n.lookup j) (aB.zip G) f):=by
 induction k with
 |nil=>
  intro v G t m2 lb f a b d g h;induction a using aM.casesOn with
  |nil=>obtain rfl:=Qj b;exact(bw d g h)
  |cons _ _=>exact ag b
 |@cons as z aB MR k u l=>
  intro v G t m2 lb f a b d g h;induction a using aM.casesOn with
  |nil=>exact ag b
  |@cons r w v G a m=>
   refine ae k λa2 c s=>?_;have o:=kl i c;have p:z<t.length:=by refine Q (d ..) ?_;exact(QE.mp c).1
   have q:(t.set z (J r)).length=n.length:=by exact Q (TK ..) (Q (d ..) rfl)
   rw [T5,Cp,Cq,o];clear o;induction a2 using S1 with
   |«local»=>
    rw [Qt rfl,Qt rfl];exact l m b q (g.put i c p a) (h.off c (by decide))
   |cell=>
    rw [Qs (by decide),Qs (by decide)];exact l m b q (g.off c (by decide)) (h.put i c p a)
   |_=>exact bG s.symm
set_option tactic.hygienic true in
theorem nW:∀(n:aL) (T:Nat) (f:List (QA×Qo)),(f.lookup j).isSome=Qp∨(j,RD)∈n→((cellsFrom T n f).lookup j).isSome=Qp
 |[],T,f,u=>by
  rcases u with u|u
  ·exact u
  ·exact fu u
 |(c,e)::b,T,f,u=>by
  unfold cellsFrom;split
  ·refine nW b (T+1) _ ?_;by_cases a:j=c
   ·clear u;subst a;exact .inl (by simp)
   ·rcases u with u|u
    ·exact .inl (by refine Q (Rx ..) (Q (Q0.mpr a ..) ?_);exact u)
    ·rcases QX.mp u with u|u
     ·cases u;exact Rz rfl a
     ·exact .inr u
  ·rename_i d;refine nW b T f ?_;rcases u with u|u
   ·exact .inl u
   ·rcases QX.mp u with u|u
    ·cases u;simp at d
    ·exact .inr u
theorem ux:¬((Q6 T (U:Option V))[z]?).join=J p:=by
 intro a;rw [RL]at a;split at a<;>simp at a
theorem qt{m:Tp}(al:h.NoLimit)(g:nV h i MK m u4 body aB)
  (am:r.depth<recursionLimit)(an:d2 r e c d.heap)(z:aI b a h e c d.heap)(ao:bh e MJ G)
  (aq:gO MK.OB.length MK.dflt MJ=J v)(as:fB MK.OB v (Q6 MK.size U)=J t)
  (au:∀{y:Sj}{L:Q9}{ap:Nat}{lb:QA→Option Qk},aI b a h e c L→bg (r.deeper y) y u4.scope.names t e c L lb→h0 (r.deeper y) y→y.locals=d.heap.objs.size→(∀l m,d.heap.get? l=J m→L.get? l=J m)→
   (∀{hn:ax}{fw:I}{M:Ql},dc y e c {d with heap:=L,toks:=ap} hn fw M→aS e c d hn fw M)→
   QQ (QO b a) (r.deeper y) (execs body y) (λbi M=>no (.ok (.ret (match bi with|.ret p=>p|_=>.none))) M)
    (λs M=>QQ (QO b a) (r.deeper y) (leaving y s) (λZ bd=>no (.error s) bd) (λca bd=>no (.error ca) bd) M) {d with heap:=L,toks:=ap}):Ub (QO b a) r (.call (.ref i) ⟨G,[]⟩) no d:=by
 have ab:∀l m,h.get? l=J m→e l=J m∧d.heap.get? l=J m:=λl m s=>⟨z.zero _ _ s,(z.Oa _ _ (z.zero _ _ s)).1⟩;have O:∀l m,h.get? l=J m→d.heap.get? l=J m:=λl m s=>(ab l m s).2;refine ae (g.binds ab aq ao) λP av K=>codeAny_call_function am (O _ _ g.obj) g.data g.co g.gen g.P0 (g.code.keeps O) (K _ _ _ _ ?_);refine Q (g.P1 ..) ?_;have aw:∀j∈aB.zip P,u4.scope.names.lookup j.1=J .local∨(u4.scope.names.lookup j.1=J .cell∧((cellsFrom (d.heap.objs.size+1) u4.scope.names []).lookup j.1).isSome=Qp):=by
  intro j ay;have az:j.1∈aB:=(List.of_mem_zip ay).1;have:∃(o:Nat) (k:QF),u4.scope.names[o]? =J (j.1,k)∧hd k=Qp:=by
   have aA:∀{aB:List QA}{ad:List Nat},aM (λA o=>∃k,u4.scope.names[o]? =J (A,k)∧hd k=Qp) aB ad→∀A∈aB,∃(o:Nat) (k:QF),u4.scope.names[o]? =J (A,k)∧hd k=Qp:=by
    intro aB ad aC;induction aC with
    |nil=>intro A D;exact fu D
    |cons aD _ aE=>
     intro A D;rcases QX.mp D with rfl|D
     ·refine bY aD λk E=>?_;exact(j2 _ k E)
     ·exact aE A D
   exact aA g.par _ az
  refine dY this λo k B q=>?_;have af:=kl g.nodup B;induction k using S1 with
  |«local»=>exact .inl af
  |cell=>exact .inr ⟨af,nW _ _ _ (.inr (QB B))⟩
  |_=>exact bG q.symm
 refine wpAny_newFunctionEnv_cells g.kind aw λy u aF j=>?_;have ag:aF.heap.NoLimit:=(al.keeps O).keeps j.toInCall.keep;refine⟨ag,codeAny_func ?_⟩;refine j0 j.toInCall.same λL ap R=>?_;clear ag;subst R;have w:y.locals=d.heap.objs.size:=by refine Q (u ..) ?_;rfl
 have aG:y.kindOf=λf=>u4.scope.names.lookup f:=by refine Q (u ..) ?_;rfl
 have S:∀l,d.heap.objs.size≤l→e l=U∧c l=U:=λl K=>⟨(gP z K).2,(gP z K).1⟩;have a8:aS e c d e c {d with heap:=L,toks:=ap}:=.grown j.toInCall.keep;have aH:=z.grow j.toInCall.keep;have aJ:(Q6 MK.size (U:Option V)).length=u4.scope.names.length:=by exact Q (List.length_replicate ..) (Q (g.size ..) rfl)
 refine bf (Cr (e:=e) g.nodup g.par (lb:=λZ=>U) (f:=λZ=>U) av as aJ (λo p f x Z=>Rz x ux) (λo p f x Z=>Rz x ux)) λaK ah bq=>?_;rw [←aG]at ah bq;refine ae an.at_ λT aL aN=>?_;have ai:(r.deeper y).frames=J (y::T):=by show r.frames.map _=_;refine Q (aL ..) ?_;rfl
 have ak:y.frame=J y.locals:=by refine Q (u ..) ?_;rfl
 refine lT j.toInCall.ns λaO aP aQ aR aT=>?_;have cellAt:∀f k,(f,k)∈u4.scope.names→k=.cell∨k=.free→∃n,y.cells.lookup f=J n∧L.IsCell n (bindC y.kindOf (aB.zip P) (λZ=>U) f)∧d.heap.objs.size<n:=by
  intro f k N C;rcases C with rfl|rfl
  ·have:(y.cells.lookup f).isSome=Qp:=by refine Q (u ..) ?_;exact nW _ _ _ (.inr N)
   refine bY (Rm.mp this) λn W=>⟨n,W,j.cell f n W,?_⟩;have:=j.above f n (ml W);rw [w]at this;exact this
  ·exact Rz rfl (g.kinds _ N)
 have aU:bg (r.deeper y) y u4.scope.names t e c L (bindL y.kindOf (aB.zip P) λZ=>U):=by
  refine⟨⟨y::T,ai,λq X=>?_⟩,by refine Q (u ..) ?_;exact g.kind,by refine Q (u ..) ?_;rfl,by refine Q (u ..) ?_;exact g.Pn,by refine Q (u ..) ?_;exact g.blt,j.toInCall.ns,by refine Q (w ..) ?_;exact S _ (Qu _),aK,g.nodup,λo p f x F=>?_,λf k N C=>?_,λo p f k x F C=>?_⟩
  ·rcases QX.mp X with E|X
   ·have aV:y=q:=E.symm;subst aV;refine⟨by refine Q (u ..) ?_;exact g.kind,y.locals,aO,ak,aR,(j2 aP aQ aT.1),?_⟩;refine Q (w ..) ?_;exact S _ (Qu _)
   ·exact ar (aN q X) λH R=>fc R λaW aX Y aY aZ a0 a1=>⟨H,aW,aX,Y,j.toInCall.keep _ _ aY,aZ,a0,a1⟩
  ·exact ah o p f x F
  ·refine bk (cellAt f k N C) λn B q aa=>?_;have:=S n (TJ aa);exact⟨n,_,B,q,this.1,this.2,by refine Q (w ..) ?_;exact Nat.ne_of_gt aa⟩
  ·refine bk (cellAt f k (QB F) C) λn B q aa=>?_;clear j;rcases C with rfl|rfl
   ·refine ae (bq o p f x F) λa2 a3 a4=>?_;rw [a3]at q;exact(ee n a2 B q a4)
   ·exact Rz rfl (g.kinds _ (QB F))
 have a5:∀{hn:ax}{fw:I}{M:Ql},dc y e c {d with heap:=L,toks:=ap} hn fw M→aS e c d hn fw M:=λ{hn fw M} f=>
  ⟨f.mono,λl a6 H Y=>f.same l a6 (j.toInCall.keep _ _ H) Y (by refine Q (w ..) ?_;exact RA (Rs H)) (λaj n Z Z Z a7 E=>by
   have:=j.above aj n (ml a7);rw [w]at this;rw [←E]at this;exact Rz (Rs H) (Wj.mpr (TJ this))),f.gens,f.os⟩
 exact au aH aU ⟨⟨T,ai⟩,ak,j.apart⟩ w j.toInCall.keep a5
theorem Cs{a:Nat}(b:a+5+10*C≤600):a+1+10*C≤600:=by exact(ak 205648654683540766611034668) b
theorem Ct{a:Nat}(b:a+30+60*C≤9000):a+3+60*C≤9000:=by exact(ak 14734402003485725135236911660) b
theorem uy{q:Tp}(D:h.NoLimit)(E:km it h l0 i MK q u4 body aB)(F:gr b a h cl x w C Qp u4.scope.names body MK.body)
  (f:r.handled=none∧r.depth+5+10*C≤600∧r.units+30+60*C≤9000)(t:d2 r e c d.heap)(H:aI b a h e c d.heap)(I:bh e MJ G):
  ∀{o:aD}{B:aV}{no:Q8→Ql→Prop},fD x w MK MJ o B c→gp b a h e c d o (λA M=>no (.ok (.ret A)) M)→fU (bc b a h cl) e c d r B (λs M=>no (.error s) M)→Ub (QO b a) r (.call (.ref i) ⟨G,[]⟩) no d:=by
 intro o B K j L N;refine ae j λap O P=>ae P λaq Q j=>qt D E.tonV (Tr (Qv (QU _ _) (Qv (QU _ _) f.2.1)) (by decide)) t H I O Q λ{k R S ar} T V u W as v=>?_;have X:bZ C (r.deeper k):=⟨f.1,Cs f.2.1,Ct f.2.2⟩;refine ae t.at_ λau Y av=>F X (d:={d with heap:=R,toks:=S}) T V u j (λa1 Z y aw M z aa g l ab ax ad=>?_) (λs Z y M g l=>?_)
 ·have m:∀A,ah z (fC a1) A→K (.ok (.ret A)) M:=λA n=>L _ _ _ _ _ g (v l) ab n;clear g;induction ad using hZ.casesOn with
  |NX=>exact m _ .none
  |Ow=>exact m _ .none
  |N9 n=>exact m _ n
 ·refine iB l λz ay aa af ag ai ak=>?_;have al:d.heap.get? k.locals=none:=by
   generalize am:d.heap.get? k.locals=an;induction an using Qm with
   |none=>rfl
   |some q=>have:=Rs am;rw [W]at this;exact Rz this (Vb _)
  exact Co Y u.frame ag ai.own (ak.elim .inl λp=>.inr (p.elim .inl λp=>.inr p.2)) (v af) al λao aj=>N s y ao g aj
theorem Cu{g:Tp}(j:h.NoLimit)(k:km it h l0 i MK g u4 body aB)(l:gr b a h cl x w C Qp u4.scope.names body MK.body)
  (f:bZ (C+1) r)(m:d2 r e c d.heap)(n:aI b a h e c d.heap)(p:bh e MJ G):
  fF b a h (bc b a h cl) r (TE (.ref i) G) e c d (λo B c=>fD x w MK MJ o B c):=
 λq s t=>TX (uy j k l (bw f.1 (by have:=f.2.1;exact(ak 205648658454322196999479596) this) (by have:=f.2.2;exact(ak 230225046382516007671603500) this)) m n p q s t)
end
section
theorem Cv{i:Tp}(P:fG it h x)(R:h.NoLimit)(S:km it h l0 Nn MK i u4 body aB)(T:gr b a h cl x w C Qp u4.scope.names body MK.body)
  (W:makesIn it hc=Qp)(X:Sb it (.ref hc) "__init__" =J (J (.ref Nn)))(Y:WI it (.ref Nn)=Qp)
  (p:bZ (C+1) r)(Z:d2 r e c d.heap)(l:aI b a h e c d.heap)(aa:bh e MJ G):
  fF b a h (bc b a h cl) r (TE (.ref hc) G) e c d (λo B c=>∀j ua,c j=U→c ua=U→j≠ua→fD x w MK (.inst hc ua j::MJ) (λE bl=>k3 E=Qp∧o (.inst hc ua j) bl) B (c.set ua (.ns []))):=by
 intro o B aD aE ab ad af;obtain⟨f,q,b7,s,t⟩:=d;have D:=gP l (Qu _);have m:=gP l (Q1 f.objs.size);have u:=P.at l;have F:f.objs.size+1≠f.objs.size:=Nat.succ_ne_self _;have ag:=ab _ _ m.1 D.1 F;refine TX (make_core (makes_of u W) (T1 u X) (λai=>bind_fn u ai (Sn.mp Y)) (.inl rfl) ?_);have H:∀v i,f.get? v=J i→((f.push Th).push (R7 hc f.objs.size)).get? v=J i:=λv i y=>QT _ (QT _ y);have al:((f.push Th).push (R7 hc f.objs.size)).get? (f.objs.size+1)=J (R7 hc f.objs.size):=by heap_get
 have j6:((f.push Th).push (R7 hc f.objs.size)).get? f.objs.size=J Th:=QT _ (Rg _ rfl);have am:aI b a h (e.put (f.objs.size+1) (R7 hc f.objs.size)) (c.set f.objs.size (.ns [])) ((f.push Th).push (R7 hc f.objs.size)):=by
  have hL:=l.grow H;have z:=hL.O7 al m.1 m.2;refine z.add (by refine Q (ax.OX _ _ (RY F) ..) ?_;exact D.2) ⟨[],0,j6,.nil⟩
 have n:aS e c ⟨f,q,b7,s,t⟩ (e.put (f.objs.size+1) (R7 hc f.objs.size)) (c.set f.objs.size (.ns [])) ⟨(f.push Th).push (R7 hc f.objs.size),q,b7,s,t⟩:=
  ⟨ax.O4 m.2,λaF aG g k=>(bw (H _ _ g) (by unfold I.set;refine Q (Qs (RA (Rs g)) ..) ?_;exact k) (ax.OX _ _ (RA (Nat.lt_succ_of_lt (Rs g))))),rfl,rfl⟩
 have K:ah (e.put (f.objs.size+1) (R7 hc f.objs.size)) (.inst hc f.objs.size (f.objs.size+1)) (.ref (f.objs.size+1)):=.inst (ax.O6 ..);refine uy R S T (d:=⟨(f.push Th).push (R7 hc f.objs.size),q,b7,s,t⟩) ?_ ?_ am (.cons K (aa.mono n.mono)) ag ?_ ?_
 ·refine(bw p.1 ?_ ?_)
  ·show r.depth+1+5+10*C≤600;have:=p.2.1;exact(ak 3290378535160888266319896876) this
  ·show r.units+1+30+60*C≤9000;have:=p.2.2;exact(ak 3683600742011982252047769900) this
 ·have:=Z.ext n;exact ae this.at_ λA an ao=>⟨A,an,ao⟩
 ·intro ap L aH M N g O z aq;refine ar g λg k=>?_;induction ap using V.casesOn<;>first|exact bG g.symm|skip
  induction aq using ah.Pl
  exact⟨rfl,ad _ _ _ _ _ k (n.trans O) z (K.mono O.mono)⟩
 ·intro y L M g k;exact bQ k λN as au aj av=>zu av λA aw ay az aA aC=>af y L M g ⟨N,as,n.trans au,aj,A,aw,ay,az,aA,aC⟩
structure uz(b:Program)(a:World)(it:Frag)(h:Heap)(l0:Str→Option V)(x:aO):Prop where
 k:fG it h x
 Py:iT h
 nl:h.NoLimit
 Pn:hW h l0
 fn:∀i MK,x.fn i=some MK→∃q u4 body aB,km it h l0 i MK q u4 body aB
 cls:∀i Nn,x.init i=some Nn→makesIn it i=true∧findIn it (.ref i) "__init__" =some (some (.ref Nn))∧isFn it (.ref Nn)=true∧keepIn it (.ref i)=true
inductive qu:V→Prop
 |bi (id:String):qu (.NS (.builtin id))
 |P2 (i:Addr):qu (.NS (.ref i))
set_option tactic.hygienic true in
theorem Cw{b:aD}{d:aV}(a:dr x (T+1) f MJ b d c):qu f:=by
 induction f using V.casesOn<;>first|exact a.elim|skip
 rename_i e;induction e using RZ<;>first|exact a.elim|constructor
theorem Cx{a:aD}{b:aV}(d:dr x (T+1) (.NS (.ref i)) MJ a b c)(e:x.fn i=some MK):fD x (dr x T) MK MJ a b c:=by
 change (match x.fn i with
  |some MK=>fD x (dr x T) MK MJ a b c
  |U=>_)at d
 rw [e]at d;exact d
theorem Cy{a:aD}{b:aV}(d:dr x (T+1) (.NS (.ref i)) MJ a b c)(e:x.fn i=U):cm (x.init i) λNn=>cm (x.fn Nn) λMK=>∀j ua,c j=U→c ua=U→j≠ua→fD x (dr x T) MK (.inst i ua j::MJ) (λE bl=>k3 E=Qp∧a (.inst i ua j) bl) b (c.set ua (.ns [])):=by
 change (match x.fn i with
  |some MK=>_
  |U=>cm (x.init i) λNn=>cm (x.fn Nn) λMK=>∀j ua,c j=U→c ua=U→j≠ua→fD x (dr x T) MK (.inst i ua j::MJ) (λE bl=>k3 E=Qp∧a (.inst i ua j) bl) b (c.set ua (.ns [])))at d
 rw [e]at d;exact d
theorem uA{b:aD}{d:aV}(a:dr x (T+1) f MJ b d c):(∃id,f=.NS (.builtin id)∧et id MJ b c)∨(∃i MK,f=.NS (.ref i)∧x.fn i=some MK∧fD x (dr x T) MK MJ b d c)∨
  ∃i Nn MK,f=.NS (.ref i)∧x.init i=some Nn∧x.fn Nn=some MK∧∀j ua,c j=none→c ua=none→j≠ua→fD x (dr x T) MK (.inst i ua j::MJ) (λE bl=>k3 E=Qp∧b (.inst i ua j) bl) d (c.set ua (.ns [])):=by
 cases Cw a with
 |bi id=>exact .inl (aU _ rfl a)
 |P2 i=>
  generalize e:x.fn i=g;induction g using Qm with
  |some MK=>exact .inr (.inl (ee i MK rfl e (Cx a e)))
  |none=>
   exact ae (Cy a e) λNn h k=>ae k λMK l a=>.inr (.inr (zA i Nn MK rfl h l a))
theorem Cz(d:uz b a it h l0 x)(s:∀{w:aR}{C:Nat},jw b a h (bc b a h cl) w C it→∀{n:aL}{f:List RU}{l:List N},fj l0 Qp n f=J l→gr b a h cl x w C Qp n f l):
  ∀T,jw b a h (bc b a h cl) (dr x T) T it:=by
 intro T;induction T with
 |zero=>exact⟨λc=>c.elim,λ{E F t G u H I K} _ _ _ _ _ {v y L M} c _ _=>c.elim⟩
 |succ T z=>
  refine⟨λ{u S v y t} c=>?_,λ{E F t G u H I K} j A N k m {v y L M} c o p=>?_⟩
  ·rcases uA c with⟨id,rfl,_⟩|⟨g,q,rfl,i,_⟩|⟨g,O,q,rfl,r,_⟩
   ·exact .inl ⟨_,rfl⟩
   ·exact pu (d.fn _ _ i) λB D f aB e=>.inr (aU g rfl e.keep)
   ·exact .inr (aU g rfl ((d.cls _ _ r).2.2.2))
  ·rcases uA c with⟨id,rfl,c⟩|⟨g,q,rfl,i,c⟩|⟨g,O,q,rfl,r,i,c⟩
   ·induction k using ah.OK;exact Cn d.Py j N m c o p
   ·induction k using ah.OK
    exact pu (d.fn _ _ i) λB D f aB e=>Cu d.nl e (s z e.PN) j A N m c o p
   ·induction k using ah.OK
    exact pu (d.fn _ _ i) λB D f aB e=>cY (d.cls _ _ r) λP Q R V=>Cv d.k d.nl e (s z e.PN) P Q R j A N m c o p
end
section
theorem CA{a:ai×Qo×Qk}{b:ai}(e:((a::u2).map (·.1)).Nodup):storedH (a::u2) b i A=if a.1=b then(a.1,a.2.1,A)::u2 else a::storedH u2 b i A:=by
 refine ar (QZ.mp e) λf l=>?_;by_cases c:a.1=b
 ·refine Q (Qt c ..) ?_;subst c;have d:(UX (a::u2) a.1).isSome=true:=by unfold UX;refine Q (TL ..) (Q (QD rfl ..) ?_);rfl
  unfold storedH;refine Q (Qt d ..) (Q (Rv ..) ?_);refine Sw.mpr ⟨Qt rfl,?_⟩;refine(Tj λg h=>?_).trans (List.map_id u2);exact Qs λj=>f (RH.mpr (aU g h j))
 ·refine Q (Qs c ..) ?_;have d:UX (a::u2) b=UX u2 b:=by unfold UX;exact Q (TL ..) (Q (Qx c ..) rfl)
  unfold storedH;refine Q (d ..) ?_;generalize(UX u2 b).isSome=k;induction k using Qz with
  |true=>refine Q (Qt rfl ..) (Q (Qt rfl ..) (Q (Rv ..) ?_));exact Sw.mpr ⟨Qs c,rfl⟩
  |false=>refine Q (Qs R6 ..) (Q (Qs R6 ..) ?_);rfl
theorem CB{a:ai}(l:ah e p A){b:List (ai×V)}:∀{u2:List (ai×Qo×Qk)},u2.map (·.1)=b.map (·.1)→(u2.map (·.1)).Nodup→bh e (b.map (·.2)) (u2.map (·.2.2))→
  (storedH u2 a i A).map (·.1)=(bC a p b).map (·.1)∧bh e ((bC a p b).map (·.2)) ((storedH u2 a i A).map (·.2.2))∧∀c2∈storedH u2 a i A,c2.2.1=i∨∃aj∈u2,aj.2.1=c2.2.1:=by
 induction b with
 |nil=>intro u2 f j j;clear j;clear j;obtain rfl:=Ti.mp f;exact(bw rfl (.cons l .nil) (λc2 c=>.inl ‹Q (Rk.mp c ..) rfl›))
 |cons v b o=>
  intro u2 f m d;induction u2 using QH with
  |nil=>cases f
  |cons k u2=>
   refine ar (Sd f) λg n=>?_;have q:=aM.hd d;have d:=aM.Pk d
   ·refine Q (CA m ..) (Q (hM ..) ?_);by_cases h:k.1=a
    ·refine Q (Qt h ..) (Q (Qt (g.symm.trans h) ..) ?_);exact(bw (Sw.mpr ⟨g,n⟩) (.cons l d) (λc2 c=>.inr ((QX.mp c).elim (λaj=>(aU _ (.head _) ‹Q (aj ..) rfl›)) λaj=>(aU c2 (.tail _ aj) rfl))))
    ·refine Q (Qs h ..) (Q (Qs (λaj=>h (g.trans aj)) ..) ?_);exact bf (o n (QZ.mp m).2 d) λr s t=>⟨Sw.mpr ⟨g,r⟩,.cons q s,λc2 c=>(QX.mp c).elim (λaj=>.inr ⟨_,.head _,by exact Q (aj ..) rfl⟩) λaj=>(t c2 aj).elim .inl λ⟨aj,u,k⟩=>.inr ⟨aj,.tail _ u,k⟩⟩
set_option tactic.hygienic true in
theorem uB{B D:V}{w:Qk}{x:I→Prop}{N:Unit→Ql→Prop}(Z:bZ C r)(m:aI b a h e c d.heap)(aa:ah e B A)(y:ah e D ap)(E:ah e c2 w)(f:iJ B D c2 x c)
  (F:∀fw M hn,x fw→aS e c d hn fw M→aI b a h hn fw M.heap→N () M):QQ (QO b a) r (setItem A ap w) N hx d:=by
 induction B using V.casesOn<;>first|exact f.elim|skip
 rename_i q;induction aa using ah.OM;have f:ny (c q) q D c2 x c:=f;generalize l:c q=ab;induction ab using Qm with
 |none=>rw [l]at f;exact f.elim
 |some j=>
  rw [l]at f;have es:=m.O5 l;have aj:=m.mt _ _ l;induction j using aK.casesOn with
  |list P=>
   refine ae (fT (a:=λg=>cm (gk P g c2) λz=>x (c.set q (.list z))) f) λg ad G=>ae G λaz s f=>?_;subst ad;induction y using ah.Oq;refine bQ aj λz T R n o=>?_;unfold gk at s;by_cases i:0≤g∧g<P.length
   ·rw [Qt i]at s;obtain rfl:=Qj s;refine ki_setAt R i.1 (Ur i.2 (mg o)) (by refine Q (Ra ..) (Q (n.length ..) ?_);exact i.2) ?_;have a5:=PySem.IsL.update (show PySem.IsL d.heap q z.toArray T from R) (·.setIfInBounds g.toNat w);rw [List.setIfInBounds_toArray]at a5;exact F _ _ _ f (aS.put (D:=d.toks) (RK ..) l) (m.put (RK (f:=Obj.mapSeq (·.setIfInBounds g.toNat w)) ..).2 es ⟨_,_,a5,n.set _ E,by refine Q (TK ..) ?_;exact o⟩)
   ·rw [Qs i]at s;exact ag s
  |dict O=>
   refine ae f λg i f=>ft aj λaA t u n o=>wpAny_setItem_pairs (y.Ob i).2 t (λS H p=>?_) (by refine Q (Rj (QL ..)) (Q (u ..) (Q (QL ..) ?_));exact Qv o (by decide));exact ar (ut (b:=g) E u (uu t) n) λK L=>F _ _ _ f.2 (aS.put p l) (m.put p.2 es ⟨_,H,K,L,Qv (fW g c2 O) f.1⟩)
  |N5 O=>
   refine bE λaB af=>ae f λg i f=>pt aj λai t u n ak o=>iC (nN m y i) λal z T G W am an k=>?_;clear y;subst G;refine af ?_;have ao:(ai.map (·.1)).Nodup:=by refine m8 t λk k k k k k k k T=>?_;exact T
   refine wpAny_setItem_heap (knd:=Sy (ds b a)) Z.OR an t (λS H p=>?_) (by refine Q (Rj (QL ..)) (Q (u ..) (Q (QL ..) ?_));exact Qv o (by decide));refine bf (CB (a:=g) (i:=al) E u ao n) λK L aq=>?_;have X:∀aj j,e aj=some j→d.heap.get? aj=some j→S.get? aj=some j:=λaj j as au=>
    (p.2 aj λv=>by rw [←v,as]at es;exact ag es.symm).trans au
   refine F _ _ _ f.2 (aS.put p l) (m.put p.2 es ⟨_,H,K,L,λaj av=>?_,Qv (fW g c2 O) f.1⟩);rcases aq aj av with v|⟨aw,ax,v⟩
   ·refine Q (v ..) ?_;exact(aU _ W (X _ _ W am))
   ·exact Q (Rj (v ..)) (ae (ak aw ax) λj Y ay=>(aU j Y (X _ _ Y ay)))
  |ns=>exact f.elim
end
section
variable(b:QG)(a:QV)(h:Q9)(cl:Qk)(x:aO)(w:aR)(C:Nat)
abbrev kn(d:aL)(e:QN)(c:Sj)(f:ax)(g:I)(i:Ql)(o:aq→I→Prop)(j:Unit→Ql→Prop):Prop:=
 ∀m2 fw M hn k,o m2 fw→dc c f g i hn fw M→aI b a h hn fw M.heap→bg e c d m2 hn fw M.heap k→j () M
def ko(f:aL)(g:Qy)(i:bH):Prop:=∀{r:QN}{y:Sj}{t:aq}{e:ax}{c:I}{lb:QA→Option Qk}{d:Ql}{p:V}{A:Qk},bZ C r→aI b a h e c d.heap→bg r y f t e c d.heap lb→h0 r y→ah e p A→
 ∀{o:aq→I→Prop}{B:aV}{ht:Unit→Ql→Prop}{hx:Qk→Ql→Prop},pT x w i t p o B c→kn b a h f r y e c d o ht→fU (bc b a h cl) e c d r B hx→QQ (QO b a) r (T8 g y A) ht hx d
def ek(g:Bool)(f:aL)(i:RU)(j:N):Prop:=∀{r:QN}{y:Sj}{t:aq}{e:ax}{c:I}{lb:QA→Option Qk}{d:Ql},bZ C r→aI b a h e c d.heap→bg r y f t e c d.heap lb→h0 r y→
 ∀{o:bF}{B:bt}{ht:VP→Ql→Prop}{hx:Qk→Ql→Prop},k7 x w j t o B c→iU b a h f r y e c d o ht→fY b a h cl g f r y e c d B hx→QQ (QO b a) r (exec i y) ht hx d
end
section
variable{E:Bool}
theorem fY.ex{f:bt}(g:bg r y n t e c d.heap lb)(i:fY b a h cl E n r y e c d f hx):fU (bc b a h cl) e c d r (λc=>f t c) hx:=
 λj k l m o=>i j t k l m (fX.of g o)
theorem fY.back{f:bt}(g:dc y e c d M0 bl MP)(i:fY b a h cl E n r y e c d f hx):fY b a h cl E n r y M0 bl MP f hx:=
 λj k l m o p=>i j k l m o (fX.back g p)
theorem fY.low{f:bt}(g:fY b a h cl E n r y e c d f hx):fY b a h cl Qq n r y e c d f hx:=
 λi j k l m o=>g i j k l m (fX.up E o)
theorem iU.back{f:bF}{g:VP→Ql→Prop}(i:dc y e c d M0 bl MP)(j:iU b a h n r y e c d f g):iU b a h n r y M0 bl MP f g:=
 λa1 k l m o p q s t u v w=>j a1 k l m o p q s (i.trans t) u v w
theorem kn.back{f:aq→I→Prop}{g:Unit→Ql→Prop}(i:dc y e c d M0 bl MP)(j:kn b a h n r y e c d f g):kn b a h n r y M0 bl MP f g:=
 λk l m o p q s t u=>j k l m o p q (i.trans s) t u
set_option tactic.hygienic true in
theorem kn.next{f:bF}{g:VP→Ql→Prop}(i:iU b a h n r y e c d f g):kn b a h n r y e c d (λm2 fw=>f .NX m2 fw) (λZ=>g .next):=
 λm2 fw j k l m o p q=>i .NX m2 fw .next j k l m o p q .NX
theorem CC(c:c1 n j=J z):ko b a h cl x w C n (.Name j as) (.name z):=by
 intro o p q r s t u v y A N d e f B D E F g i G;exact assign_Name (nS c N d f e.apart λH I k l m=>i _ _ _ _ _ g k l m)
theorem CD{d:QA}(g:fG it h x)(i:bj b a h (bc b a h cl) x w C n q D):ko b a h cl x w C n (.Attribute q d as) (.attr D d):=by
 intro v y z A B E F G H j N e I k K L M O l m o;refine Q (WG ..) (Qn (Q4 (i j N e l ?_ o)));intro P R S T V p c r s;refine Qn (Rf (Qn (Q4 (uq g r s (k.mono c.mono) p λW X Y t f u=>VG ?_))));exact m _ _ _ _ _ t (c.trans f).Oh u (e.ext (c.trans f))
theorem CE{g:Qy}(k:bj b a h (bc b a h cl) x w C n q D)(l:bj b a h (bc b a h cl) x w C n g M7):ko b a h cl x w C n (.Subscript q g as) (.item D M7):=by
 intro B E F G H I K L M e N f O m P R S T o p i;refine Q (arm_assign_Subscript ..) (Qn (Q4 (k e N f o ?_ i)));intro V W X Y Z r c s t;refine Qn (Q4 (l e s (f.ext c) r ?_ (i.back bc.back c)));intro aa ab ad ae af u d v y;refine Qn (Rf (Qn (Q4 (uB e v (t.mono d.mono) y (m.mono (c.trans d).mono) u λag ah ai z j A=>VG ?_))));exact p _ _ _ _ _ z ((c.trans d).trans j).Oh A (f.ext ((c.trans d).trans j))
def uC(a:Sj)(b:Qk→WJ Unit)(c:Nat)(e:aL):Prop:=∃j,c1 e j=J c∧∀{Nt:Model}{r:QN}{A:Qk}{o:Unit→Ql→Prop}{B:Qk→Ql→Prop}{d:Ql},QQ Nt r (VX a j A) o B d→QQ Nt r (b A) o B d
theorem uD(p:y.cells.Pairwise λj c2=>j.2≠c2.2)(i:aM (λH z=>uC y H z n) L MR):∀{v:List V}{k:List Qk}{t:aq}{lb:QA→Option Qk}{d:Ql}{ht:Unit→Ql→Prop},aI b a h e c d.heap→bg r y n t e c d.heap lb→bh e v k→fB MR v t=J m2→
  (∀M m,dc y e c d e c M→aI b a h e c M.heap→bg r y n m2 e c M.heap m→ht () M)→QQ (QO b a) r (assignInOrder L k) ht hx d:=by
 induction i with
 |nil=>
  intro v k t lb d ht N l f g o;induction f using aM.casesOn with
  |nil=>obtain rfl:=Qj g;exact QM (o d lb aS.refl.Oh N l)
  |cons _ _=>exact ag g
 |cons q E s=>
  intro v k t lb d ht N l f g o;induction f using aM.casesOn with
  |nil=>exact ag g
  |cons u f=>
   refine ae q λj w i=>Qn (Q4 (i (nS w N l u p λF G x A B=>?_)));exact s A B f g λM m C D bq=>o M m (x.trans C) D bq
theorem nX(b:jr n (s::b2)=J MR):∃j as z f,s=.Name j as∧c1 n j=J z∧jr n b2=J f∧MR=z::f:=by
 exact bE λm c=>bQ (gn b) λz f d e g=>ae (ci d) λo h i=>ae (bB h) λa k l=>c ((lU a.1 a.2 z f (k8 k) (by refine Q (l ..) ?_;exact i) e g))
theorem uE:∀{MR:List Nat},jr n b2=J MR→aM (λH z=>uC y H z n) ((Te b2 y).map (·.2)) MR∧(Te b2 y).findIdx? (·.1)=U∧(Te b2 y).length=b2.length∧b2.length=MR.length:=by
 induction b2 with
 |nil=>intro MR a;obtain rfl:=Qj a;exact(gf .nil rfl rfl rfl)
 |cons o b2 c=>
  intro MR a;refine j1 (nX a) λb d z p e f g h=>?_;subst e;clear a;subst h;refine cY (c g) λi j k l=>(gf (.cons ⟨b,f,λm=>assign_Name m⟩ i) ?_ (QP S9 k) (QP S9 l));show List.findIdx? (·.1) ((Qq,T8 (.Name b d) y)::Te b2 y)=U;refine Q (List.findIdx?_cons ..) (Q (j ..) ?_);rfl
theorem qv:∀{v:List V}{t m2:aq},fB MR v t=J m2→MR.length=v.length:=by
 induction MR with
 |nil=>intro v t m2 a;induction v using QH with
  |nil=>rfl
  |cons _ _=>exact ag a
 |cons c MR b=>intro v t m2 a;induction v using QH with
  |nil=>exact ag a
  |cons d v=>exact QP S9 (b a)
theorem nY(a:kc Qq b2 p t=J m2):∃v,p=.tup v∧fB b2 v t=J m2:=by
 induction p using V.casesOn<;>first|exact ag a|exact(aU _ rfl a)
theorem qw(k:aI b a h e c d.heap)(l:VA d.heap.objs.size d.heap ho):aS e c d e c {d with heap:=ho}∧aI b a h e c ho:=by
 have i:∀f g,d.heap.get? f=J g→ho.get? f=J g:=λf g j=>l f g (RA (Rs j)) j;exact⟨.grown i,k.grow i⟩
theorem CF{i:Nat}(j:jr n b2=J MR):ko b a h cl x w C n (.Tuple b2 i as) (.tup MR):=by
 intro E e F G H I K L M k N l m o O P R S d p V;obtain⟨W,c,d⟩:=d;obtain⟨X,rfl,c⟩:=nY c;obtain⟨Y,q,T,rfl,_,r,f,Z⟩:=p9 N o;obtain⟨s,t,u,v⟩:=uE (y:=e) j;refine Q (arm_assign_Tuple ..) (Qn (Rf ?_));unfold unpack;refine Q (t ..) (Qn (Q4 ?_));have y:(Te b2 e).length=q.toArray.size:=by exact Q (u ..) (Q (v ..) (Q (qv c ..) (Q (Ra ..) (Q (f.length ..) rfl))))
 refine Q (y ..) (SJ k.1 ⟨_,r,rfl,T,rfl⟩ λaa z=>?_);obtain⟨g,A⟩:=qw N z;exact uD m.apart s A (l.ext g) f c λab ad B D bq=>p _ _ _ _ _ d (g.Oh.trans B) D bq
theorem CG:ek b a h cl x w C E n (.Return U as) (.ret U):=by
 intro f g i j k l m o N c p q r s t d e u;exact wpAny_Return_none (e _ _ _ _ _ _ _ d aS.refl.Oh N c (.N9 .none))
theorem qx(e:bj b a h (bc b a h cl) x w C n s D):ek b a h cl x w C E n (.Return (J s) as) (.ret (J D)):=by
 intro o p q r t u v f N c y z A B F g i j;refine wpAny_Return_some (e f N c g ?_ (j.ex c));intro G H I K L k d l m;exact i _ _ _ _ _ _ _ k d.Oh l (c.ext d) (.N9 m)
theorem uF:ek b a h cl x w C E n (.Pass as) .pass:=by
 intro f g i j k l m o N c p q r s t d e u;exact wpAny_Pass (e _ _ _ _ _ _ _ d aS.refl.Oh N c .NX)
theorem qy:ek b a h cl x w C E n (.Continue as) .cont:=by
 intro f g i j k l m o N c p q r s t d e u;exact wpAny_Continue (e _ _ _ _ _ _ _ d aS.refl.Oh N c .Ow)
theorem CH{c:RU}:ek b a h cl x w C E n c .bad:=by
 intro e f g i j k l m N o p q r s t d u v;exact d.elim
theorem mm{g i:List RU}{j:List N}(p:bj b a h (bc b a h cl) x w C n s D)(q:eu b a h (bc b a h cl) x w C n s D)(r:gr b a h cl x w C E n g j)(t:gr b a h cl x w C E n i c2):
  ek b a h cl x w C E n (.If s g i as) (.iff D j c2):=by
 intro y z A B F G H e N d k I K L M u l f;refine wpAny_If (q e N d (p e N d) u ?_ (f.ex d));intro v O P Q m c o;induction v using Qz
 ·exact t e o (d.ext c) k (m.2 rfl) (l.back c.Oh) (f.back c.Oh)
 ·exact r e o (d.ext c) k (m.1 rfl) (l.back c.Oh) (f.back c.Oh)
theorem uG:gr b a h cl x w C E n [] []:=by
 intro f g i j k l m o N c p q r s t d e u;exact SX (e _ _ _ _ _ _ _ d aS.refl.Oh N c .NX)
theorem CI{i:RU}{j:N}{k:List N}(p:ek b a h cl x w C E n i j)(q:gr b a h cl x w C E n rest k):gr b a h cl x w C E n (i::rest) (j::k):=by
 intro v y z A B D F l N r m G H I K s d o;refine Td (p l N r m s ?_ o);intro a1 L M O P Q R e c f g t;induction t using hZ.casesOn with
 |NX=>exact q l f g m e (d.back c) (o.back c)
 |Ow=>exact d _ _ _ _ _ _ _ e c f g .Ow
 |N9 u=>exact d _ _ _ _ _ _ _ e c f g (.N9 u)
end
section
variable{E:Bool}
theorem qz{a:Option Qy}(b:md s=Qq):swapsWith s a line y=pure Qq:=by
 induction s using Rl<;>first|rfl|exact bG b
theorem qA(a:(hT ud&&hT s)=Qq)(b:∀b2 as,ud≠.List b2 as):VI [ud] s y=pure U:=by
 induction ud using Rl<;>first|exact Rz rfl (b _ _)|rfl|(induction s using Rl<;>first|rfl|exact bG a)
theorem qB(a:eX ud=Qq):(Te [ud] y).map (·.2)=[T8 ud y]:=by
 induction ud using Rl<;>first|rfl|exact bG a
set_option tactic.hygienic true in
theorem CJ{e:bH}{f:aa}(j:md s=Qq)(k:(hT ud&&hT s)=Qq)(l:∀b2 as,ud≠.List b2 as)(m:eX ud=Qq)(o:ko b a h cl x w C n ud e)(p:bj b a h (bc b a h cl) x w C n s f):
  ek b a h cl x w C E n (.Assign [ud] s as) (.asg e f):=by
 intro z A B D F G H g N c q I K L M r t i;refine Ul ?_ (qz j) (qA k l);refine Q (qB m ..) (p g N c r ?_ (i.ex c));intro O P R S T u d v y;exact o g v (c.ext d) q y u (kn.next (t.back d.Oh)) ((i.ex c).back bc.back d)
theorem CK{a:u5→Option MQ}{b:u5}{c d:MQ}(e:a b=J c)(f:a c2=J d):[b,c2].filterMap a=[c,d]:=by
 refine Q (U1 e ..) (Q (U1 f ..) ?_);rfl
theorem qm{a b:QA}(c:a≠b):([a,b]:List QA).eraseDups=[a,b]:=by
 have d:(b==a)=Qq:=Q0.mpr (RY c);rw [List.eraseDups_cons,WA,d];rfl
theorem CL{a b:QA}{d f:Si}{c:List Qy}{g:Nat}(h:y.kindOf a=J .local)(i:y.kindOf b=J .local)(j:y.blockKind=.function)(k:a≠b)(l:d.line=f.line)(m:c.length=2)(n:∀s∈c,eX s=Qq)(o:c.all (VJ 8)=Qq)(p:c.all (Vl 8)=Qq):VI [.Tuple [.Name a d,.Name b f] g Na] (.Tuple c L ap) y=pure (J [a,b]):=by
 unfold VI;dsimp only;rw [m,j,o,p,CK (c:=a) (d:=b),qm k]
 ·exact(Qs R6).trans ((Qs λe=>ae (R1.mp e) λq r e=>bG (e.symm.trans (n q r))).trans ((Qs R6).trans ((Qs R6).trans (Qs R6))))
 ·exact Qt (by refine Q (h ..) ?_;exact R9 d.line)
 ·exact Qt (by refine Q (i ..) (Q (Rj (l ..)) ?_);exact R9 d.line)
theorem CM{c d:QA}{r t:Si}{e:List Qy}{u:Nat}{v:aa}(y:c1 n c=J z)(A:c1 n d=J l1)(M:n.lookup c=J .local)(O:n.lookup d=J .local)(B:c≠d)(P:r.line=t.line)(R:e.length=2)(S:∀s∈e,eX s=Qq)
  (V:e.all (VJ 8)=Qq)(W:e.all (Vl 8)=Qq)(X:bj b a h (bc b a h cl) x w C n (.Tuple e L ap) v):
  ek b a h cl x w C E n (.Assign [.Tuple [.Name c r,.Name d t] u Na] (.Tuple e L ap) as) (.asg (.tup [z,l1]) v):=by
 intro au m av aw ax ay az D N f Y aA aB aC aD Z ab ad;have ae:m.kindOf c=J .local:=by unfold SO;refine Q (f.names ..) ?_;exact M
 have af:m.kindOf d=J .local:=by unfold SO;refine Q (f.names ..) ?_;exact O
 have ag:m.blockKind=.function:=by unfold Env.blockKind;refine Q (f.kind ..) ?_;rfl
 have ah:=CL (Na:=Na) (L:=L) (ap:=ap) (g:=u) ae af ag B P R S V W;refine Assign_Tuple_swapped (names:=[c,d]) ?_ rfl ah;refine X D N f Z ?_ (ad.ex f);intro aE aF aG aH aI o F G H;obtain⟨ai,i,o⟩:=o;obtain⟨aJ,rfl,i⟩:=nY i;have j:=qv i;obtain⟨aK,aj,T,rfl,_,I,g,ak⟩:=p9 G H;have K:([c,d]:List QA).length=aj.toArray.size:=by refine Q (Ra ..) (Q (g.length ..) (Q (Rj (j ..)) ?_));rfl
 refine Q (K ..) (SJ D.1 ⟨_,I,rfl,T,rfl⟩ λaL al=>?_);obtain⟨k,am⟩:=qw G al;induction g using aM.casesOn with
 |nil=>cases j
 |cons an g=>
  induction g using aM.casesOn with
  |nil=>cases j
  |cons ao g=>
   clear H ak left I K;induction g using aM.casesOn with
   |cons _ _=>cases j
   |nil=>
    have aq:z≠l1:=λar=>by
     obtain⟨_,_,_,l⟩:=iS y;obtain⟨_,_,_,p⟩:=iS A;rw [ar,p]at l;exact B (QP Ug (Qj l)).symm
    refine uD (MR:=[l1,z]) Y.apart (.cons ⟨d,A,λq=>wpAny_bindName q⟩ (.cons ⟨c,y,λq=>wpAny_bindName q⟩ .nil)) am ((f.ext F).ext k) (.cons (ao.mono k.mono) (.cons (an.mono k.mono) .nil)) (m2:=ai) ?_ λaN aO l p bq=>?_
    ·exact Q (Rj (i ..)) (QP J (List.set_comm _ _ (RY aq)))
    ·exact ab _ _ _ _ _ _ _ o ((F.trans k).Oh.trans l) p bq .NX
theorem uH{d:aa}(f:md s=Qq)(g:bj b a h (bc b a h cl) x w C n s d):ek b a h cl x w C E n (.Expr s as) (.expr d):=by
 intro r i t u v y z j N c A B D F G k l m;have o:UW i=Qq:=by unfold UW;refine Q (c.kind ..) ?_;rfl
 refine Q (arm_exec_Expr ..) (Q (o ..) (Q (qz f ..) ?_));refine Qn (Rf ?_);simp only [Rd,Sx];refine Qn (QM ?_);simp only [Rd,Sx];refine Qn (g j N c k ?_ (m.ex c));intro H I K L M p e q O;exact wpAny_dropValue (l _ _ _ _ _ _ _ p e.Oh q (c.ext e) .NX)
theorem qC{g:dP}(i:jq MZ=J g){j:V}{k:Qk}(l:aI b a h e c d.heap)(m:ah e j A)(n:ah e c2 k):
  fF b a h (bc b a h cl) r (inplaceOp MZ A k) e c d (λo Z c=>jn g j c2 o c):=by
 intro o u v w f p x;induction MZ using Vy<;>first|exact ag i|skip
 all_goals(obtain rfl:=Qj i)
 all_goals first|exact f.elim|skip
 refine ae (fT f) λy q f=>ae (fT f) λz s t=>?_;subst q s;induction m using ah.Oq;induction n using ah.Oq;exact PyProof.Rows.iadd_int (ju l t p)
theorem CN{f:QA}{g:dP}{i:aa}(m:jq MZ=J g)(j:c1 n f=J z)(o:bj b a h (bc b a h cl) x w C n s i):ek b a h cl x w C E n (.AugAssign (.Name f Na) MZ s as) (.aug (.name z) g i):=by
 intro I K L M O P Q p N c q R S T V e r k;refine ae e λW t e=>wpAny_AugAssign_Name (p8 j c t λX u=>?_);refine o p N c e ?_ (k.ex c);intro Y Z ab ad af v d y A;refine qC m y (u.mono d.mono) A v ?_ ((k.ex c).back bc.back d);intro ag ah ai aj ak B l D F;exact nS j D (c.ext (d.trans l)) F q.apart λal am G H bq=>r _ _ _ _ _ _ _ B ((d.trans l).Oh.trans G) H bq .NX
theorem CO{j:QA}{k:dP}{d:aa}(l:fG it h x)(q:jq MZ=J k)(r:bj b a h (bc b a h cl) x w C n L D)(t:bj b a h (bc b a h cl) x w C n s d):ek b a h cl x w C E n (.AugAssign (.Attribute L j Na) MZ s as) (.aug (.attr D j) k d):=by
 intro S T V W X Y Z m N c ab ad ae af ag u v g;refine wpAny_AugAssign_AttributeAny (r m N c u ?_ (g.ex c));intro ah ai aj ak al y e z o;refine up l z o y ?_ ((g.ex c).back bc.back e);intro am an ao ap aq A f B F;refine t m B (c.ext (e.trans f)) A ?_ ((g.ex c).back bc.back (e.trans f));intro ar au av aw ax G i H I;refine qC q H (F.mono i.mono) I G ?_ ((g.ex c).back bc.back ((e.trans f).trans i));intro ay az aA aB aC K p M O;refine uq l M (o.mono ((f.trans i).trans p).mono) O K λaD aE aF P Q R=>?_;have d:=((((e.trans f).trans i).trans p).trans Q);exact v _ _ _ _ _ _ _ P d.Oh R (c.ext d) .NX
set_option tactic.hygienic true in
theorem CP{a:Qy}(b:∀i l as,a≠.Slice i l none as):∀f g k,augStore a f g k=(do UD [k,f,g] (setItem f g k);release [k,f,g] [];pure .next):=by
 intro f g k;induction a using Rl with
 |Slice i l H as=>induction H using Qm with
  |none=>exact Rz rfl (b _ _ _)
  |some _=>rfl
 |_=>rfl
theorem CQ{k:V}{l:Qk}(I:bZ C r)(g:aI b a h e c d.heap)(s:ah e k A)(t:ah e c2 l):
  fF b a h (bc b a h cl) r (getItem A l) e c d (λo Z c=>∃i v a2 aj,k=.ref i∧c i=J (.list v)∧c2=.int a2∧bW v a2=J aj∧o aj c):=by
 intro o K L M f m N;obtain⟨i,v,a2,aj,rfl,u,rfl,w,f⟩:=f;induction s using ah.OM;induction t using ah.Oq;obtain⟨x,T,y,z,B⟩:=g.mt _ _ u;obtain⟨O,A,D,n,p,E,F,G⟩:=qh z B w;have q:d.heap.IsList i x.toArray:=⟨_,y,rfl,T,rfl⟩;clear D;rcases G with⟨j,rfl⟩|⟨j,H,rfl⟩
 ·exact wpAny_getItem_list q j F (by simpa using n) (m _ _ _ _ _ f .refl g p)
 ·exact V7 q j (by simpa using H) E (by simpa using n) (m _ _ _ _ _ f .refl g p)
theorem CR{o:dP}{p:aa}(u:∀i l as,L≠.Slice i l U as)(v:jq MZ=J o)(y:bj b a h (bc b a h cl) x w C n ap D)(z:bj b a h (bc b a h cl) x w C n L M7)(A:bj b a h (bc b a h cl) x w C n s p):ek b a h cl x w C E n (.AugAssign (.Subscript ap L Na) MZ s as) (.aug (.item D M7) o p):=by
 intro ab ad ae af ag ah ai g N c aj ak al am an B F j;refine wpAny_AugAssign_SubscriptAny (y g N c B ?_ (j.ex c)) (CP u);intro ao aq ar au av G d H q;refine z g H (c.ext d) G ?_ ((j.ex c).back bc.back d);intro aw ax ay az aA I e K r;refine CQ g K (q.mono e.mono) r I ?_ ((j.ex c).back bc.back (d.trans e));intro aB aC aD aE aF M f O P;refine A g O (c.ext ((d.trans e).trans f)) M ?_ ((j.ex c).back bc.back ((d.trans e).trans f));intro aG aH aI aJ aK Q k R S;refine qC v R (P.mono k.mono) S Q ?_ ((j.ex c).back bc.back (((d.trans e).trans f).trans k));intro aL aM aN aO aP T m V W;refine uB g V (q.mono (((e.trans f).trans k).trans m).mono) (r.mono ((f.trans k).trans m).mono) W T λaQ aR aS X Y Z=>?_;have t:=(((((d.trans e).trans f).trans k).trans m).trans Y);exact F _ _ _ _ _ _ _ X t.Oh Z (c.ext t) .NX
end
section
variable{E:Bool}
theorem CS{f:Qo}{m:Unit→Ql→Prop}(w:V0 base b2 f cls ap L d.heap)
  (x:∀ho,V0 base b2 f cls ap L ho→d.heap.UpToSlots ho→m () {d with heap:=ho}):QQ Nt r (setFlight (.ref f) (J L)) m B d:=by
 refine cY w λy z A C=>sE C λD i aa H n o E p q s t j g F=>?_;have u:3<n.size:=(UJ.mp F).1;have h:∀a,a≠aa→(d.heap.update aa (Tv (·.setIfInBounds 3 ((J L).elim Value.none λG=>rawInt G)))).get? a=d.heap.get? a:=
  λa b=>Vd _ _ (RY b)
 have v:∀a c,d.heap.get? a=J c→(∀i,c.data≠.fields i)→a≠aa:=λa c b e k=>by
  rw [k,j]at b;injection b with b;subst b;exact e n g
 unfold setFlight;refine Qn (WC o p q ?_);refine Q (Qt (show(Sr aa !=Value.none)=Qp from by simp) ..) ?_;refine wpAny_setField j g u (x _ ⟨λa c l=>(h a λk=>by rw [k,s]at l;exact ag l).trans (y a c l),z,
  A.of_keeps λa c b e=>(aU c ((h a (v a c b e)).trans b) rfl),?_⟩ λa c b e=>⟨c.slots,(h a (v a c b e)).trans b⟩)
 exact⟨D,i,aa,_,_,(h f (RY t)).trans o,E,p,q,s,t,Su _ j (Obj.isFreed_of_fields (Wf g _)),Wf g _,by simp [u]⟩
theorem uI{f:Qk}{o:Unit→Ql→Prop}(c:h0 r y)(hv:gq r f MU (nU cl) M.heap∨gq r f MU (jx cl) M.heap)
  (p:∀L,gq r f MU (jx cl) L→o () {M with heap:=L}):QQ (QO b a) r (noteFrame f y) o B M:=by
 refine bY c.top λq d=>?_;rcases hv with hv|hv
 ·refine kW hv λt h i j e k l m g=>?_;clear hv;subst k;rw [d]at e;obtain rfl:=Qj e;exact wpAny_looks_onW d c.frame g λu v w=>p u ⟨_,h,i,j,d,rfl,l,m.trans w,y,q,y.locals,rfl,c.frame,v⟩
 ·refine kW hv λt h i j e k l m s=>iA s λC D x z n g=>?_;clear hv;subst k;rw [d]at e;clear s;obtain rfl:=Qj e;cases z;have A:x=y.locals:=by rw [c.frame]at n;exact(Qj n).symm
  clear n;subst A;exact V6 c.frame g.2.2.2 (p M.heap ⟨_,h,i,j,d,rfl,l,m,y,q,y.locals,rfl,c.frame,g⟩)
theorem CT{c:Qk}(d:h0 r y)(g:gq r c MU (jx cl) M.heap)
  (m:∀k,gq r c MU (jx cl) k→B c {M with heap:=k}):Uy (QO b a) r y B c M:=by
 refine bE λH n=>bY d.top λo h=>kW g λI p q s i e t u j=>iA j λK L v w f l=>?_;clear g;subst e;refine n ?_;rw [h]at i;clear j;obtain rfl:=Qj i;cases w;have x:v=y.locals:=by rw [d.frame]at f;exact(Qj f).symm
 clear f;subst x;unfold Uy;have z:=l;refine cY z λN O P e=>zx e λR S aa T V A W C D X=>Qn (WC A C D ?_);exact Q (Qs (by simp) ..) (Q (d.frame ..) (CS l λE F G=>m E ⟨_,p,q,s,h,rfl,t,u.trans G,y,o,y.locals,rfl,d.frame,F⟩))
theorem uJ{g:Qk}(i:h0 r y)(j:fX b a h cl Qq n y e c d r m2 fw g M)
  (l:∀k,fX b a h cl E n y e c d r m2 fw g k→hx g k):notedBy (QO b a) r y (Uy (QO b a) r y hx) g M:=by
 exact iB j λm o p q s t f=>uI i (by rcases f with f|f|f;exact .inl f;exact .inr f;cases f.1) λv aj=>CT i aj λw u=>l _ ⟨m,o,p,q,s,t,.inr (.inl u)⟩
theorem dc.refl:dc y e c d e c d:=aS.refl.Oh
theorem lh{B:List RU}(X:bj b a h (bc b a h cl) x w C n s D)(Y:eu b a h (bc b a h cl) x w C n s D)(Z:gr b a h cl x w C false n B c2):
  ek b a h cl x w C E n (.While s B [] as) (.O3 D c2):=by
 intro k f aa o p ab F q N ad G ae H l g r I af;refine bY r λT r=>wpAny_While (codeAny_whileLoop (λT t=>∃d u c ag,dc f o p F u c t∧aI b a h u c t.heap∧bg k f n d u c t.heap ag∧ei (λd l g c=>bN x w D (av x w D d) d l g c) (λd l g c=>aw x w c2 d l g c) T d ae H c) ?_ T (lU aa o p ab dc.refl N ad r));intro m au K;refine j1 K λax ay az aA i L j M=>?_;have ah:fY b a h cl false n k f o p F H (notedBy (QO b a) k f (Uy (QO b a) k f g)):=
  λai aj ak aB al am=>uJ G am λan ao=>af ai aj ak an al ao
 have O:=ah.back i;clear K;induction m using Rn with
 |zero=>exact M.elim
 |succ m=>
  refine Y q L j (X q L j) M ?_ (O.ex j);intro ap aC aD aE P e Q;induction ap using Qz with
  |false=>
   exact SX (I _ _ _ _ _ _ _ (P.2 rfl) (i.trans e.Oh) Q (j.ext e) .NX)
  |true=>
   refine Z q Q (j.ext e) G (P.1 rfl) ?_ (O.back e.Oh);intro a1 R S aF aG V W v y z A aq;induction aq using hZ.casesOn with
   |NX=>exact⟨m,S7 _,R,V,S,W,(i.trans e.Oh).trans y,z,A,v⟩
   |Ow=>exact⟨m,S7 _,R,V,S,W,(i.trans e.Oh).trans y,z,A,v⟩
   |N9 ar=>exact I _ _ _ _ _ _ _ v ((i.trans e.Oh).trans y) z A (.N9 ar)
end
def uK:List String:=["enumerate", "zip", "dict_itemiterator", "dict_reverseitemiterator", "odict_iterator", "itertools.zip_longest", "itertools.pairwise"]
set_option tactic.hygienic true in
structure iV(b:Program)(a:World)(e:ax)(MV:Addr)(u2:List V)(St:Nat→Heap→Prop):Prop where
 dep:∀z u ho,St z u→(∀q,u.get? MV=some q→ho.get? MV=some q)→St z ho
 obj:∀z u,St z u→∃q T,u.get? MV=some q∧q.cls=.type T∧uK.contains T=false∧∃eh,q.data=.fields eh
 self:∀{r:Around}{B:Value→Shared→Prop}{o:Value→Shared→Prop}{d:Shared}{z:Nat},St z d.heap→o (.ref MV) d→wpAny (model b a) r (pyIter (.ref MV)) o B d
 next:∀{r:Around}{B:Value→Shared→Prop}{o:Option Value→Shared→Prop}{d:Shared}{z:Nat},r.handled=none→z≤u2.length→St z d.heap→(∀l q,e l=some q→d.heap.get? l=some q)→
  (match u2[z]?with
   |none=>∀ho,Heap.ExtBut MV d.heap ho→o none {d with heap:=ho}
   |some p=>∀ho A D,Heap.SameBut MV d.heap ho→St (z+1) ho→ah e p A→o (some A) {d with heap:=ho,toks:=D})→wpAny (model b a) r (pyNext (.ref MV)) o B d
section
variable{E:Bool}
set_option tactic.hygienic true in
theorem iV.mono{f g:ax}{h:Qo}{j:List V}{k:Nat→Q9→Prop}(c:iV b a f h j k)(l:∀i q,f i=J q→g i=J q):iV b a g h j k:=
 ⟨c.dep,c.obj,c.self,λm n o p e=>c.next m n o (λd q r=>p d q (l d q r)) (by
  split at e
  ·exact e
  ·exact λs t u i d v=>e s t u i d (v.mono l))⟩
theorem CU(h:e i=some (listOf G.toArray T))(j:bh e v G)(k:e MV=none):iV b a e MV v (λz u=>u.IsListIter MV i z):=by
 have E:i≠MV:=by rintro rfl;rw [h]at k;exact ag k.symm
 refine⟨λz u l ⟨f,g,c⟩ p=>⟨f,p _ g,c⟩,λz u ⟨f,g,c,b7⟩=>⟨f,_,g,c,by decide,_,b7⟩,λq c=>wpAny_pyIter_listiter q c,λ{F H I m z} r s n t u=>?_⟩;have o:m.heap.IsList i G.toArray:=⟨_,t _ _ h,rfl,T,rfl⟩;have w:=j.length;generalize d:v[z]? =x;induction x using Qm with
 |none=>
  rw [d]at u;exact wpAny_pyNext_list_end r n o (by have:=Se.mp d;simp;exact(au 38528137819572564) w this s) u
 |some K=>
  rw [d]at u;exact ae (j.get d) λy A B=>wpAny_pyNext_list_item n o (by simpa using A) λl C D=>u l y m.toks D C B
theorem CV(n:e i=some (hV G T))(h:bh e v G)(D:e MV=none):iV b a e MV v (λz u=>IsTupIter u MV i z):=by
 refine⟨λz u j ⟨f,g,c⟩ o=>⟨f,o _ g,c⟩,λz u ⟨f,g,c,b7⟩=>⟨f,_,g,c,by decide,_,b7⟩,λp c=>wpAny_pyIter_tupleiter p c,λ{E F H k z} q r l s u=>?_⟩;have m:TB k.heap i G.toArray:=⟨_,s _ _ n,rfl,T,rfl⟩;have t:=h.length;generalize d:v[z]? =w;induction w using Qm with
 |none=>
  rw [d]at u;exact next_tuple_end q l m (by have:=Se.mp d;simp;exact(au 38528137819572564) t this r) u
 |some I=>
  rw [d]at u;exact ae (h.get d) λx y A=>next_tuple_item l m (by simpa using y) λj B C=>u j x k.toks C B A
theorem qD(q:e i=some (listOf G.toArray T))(k:bh e v G)(H:e MV=none):iV b a e MV v.reverse (λz u=>u.IsRevIter MV i ((v.length:Int)-1-z)):=by
 refine⟨λz u l g r=>g.at r,λz u ⟨s,t,h,b7⟩=>⟨s,_,t,h,by decide,_,b7⟩,λg h=>WB g h,λ{I K L m z} w n d x u=>?_⟩;have y:m.heap.IsList i G.toArray:=⟨_,x _ _ q,rfl,T,rfl⟩;have j:=k.length;rw [SG]at n;generalize c:v.reverse[z]? =A;induction A using Qm with
 |none=>
  rw [c]at u;have:=Se.mp c;rw [SG]at this;have f:(v.length:Int)-1-z= -1:=by exact(au 30705894873614960729508180) j this n
  rw [f]at d;exact wpAny_pyNext_rev_end w d u
 |some M=>
  rw [c]at u;have o:z<v.length:=by
   have:=(QE.mp c).1;rwa [SG]at this
  rw [List.getElem?_reverse o]at c;refine ae (k.get c) λB C D=>?_;have f:(v.length:Int)-1-z=((v.length-1-z:Nat):Int):=by exact(bU 205637045302421644481922207009060) o j (az _ _) (az _ _)
  rw [f]at d;refine wpAny_pyNext_rev_item d y (by simpa using C) λl p E=>u l B m.toks E ?_ D;have F:((v.length-1-z:Nat):Int)-1=(v.length:Int)-1-((z+1:Nat):Int):=by exact(aE 103388465145548862614879415336912) f j
  rw [F]at p;exact p
theorem CW(c:Int)(a:Nat):(b9 c)[a]? =if(a:Int)<c then J (V.int a)else U:=by
 unfold b9;refine Q (Rb ..) ?_;by_cases b:(a:Int)<c
 ·refine Q (Qt b ..) (Q (VV ‹(bx 3405142281680893685458797600) b (cz _)› ..) ?_);rfl
 ·refine Q (Qs b ..) (Q (R8 (by simp;exact(aC 9526850028) b) ..) ?_);rfl
theorem uL(a:Int):(b9 a).length=a.toNat:=by simp [b9]
theorem kp{d:Int}:iV b a e MV (b9 d) (λz u=>IsRangeIter u MV z ((d.toNat:Int)-z) 1):=by
 refine⟨λz u g f k=>k _ f,λz u f=>⟨_,_,f,rfl,by decide,_,rfl⟩,λf c=>wpAny_pyIter_rangeiter f c,λ{p q r s z} l h i t u=>?_⟩;rw [uL]at h;rw [CW]at u;by_cases c:(z:Int)<d
 ·rw [Qt c]at u;refine wpAny_pyNext_range_item i ‹(bx 3584121837633420789230956178911790112) c h (cz _)› λg j m=>u g _ _ m ?_ (.int _ _);have n:(z:Int)+1=((z+1:Nat):Int):=by exact(aN 4277636)
  have o:(d.toNat:Int)-z-1=(d.toNat:Int)-((z+1:Nat):Int):=by exact(ak 4526001188265980)
  rw [n,o]at j;exact j
 ·rw [Qs c]at u;exact wpAny_pyNext_range_end l i ‹(bx 15862328863119932996537037902328300) c (cz _)› u
set_option tactic.hygienic true in
theorem uM{c:Tp}{e:String}{g:Unit→Ql→Prop}(i:d.heap.get? MV=J c)(j:c.cls=.type e)(k:uK.contains e=Qq)(f:g () d):QQ (QO b a) r (U4 ud (.ref MV) A) g B d:=by
 unfold U4;have l:QQ (QO b a) r (do
   let(.ref h,.ref m):=((Sr MV),A)|return
   let c ←load h
   match c.cls,c.data with
   |.type e,.fields n=>
    if ["enumerate", "zip", "dict_itemiterator", "dict_reverseitemiterator", "odict_iterator", "itertools.zip_longest", "itertools.pairwise"].contains e&&n[0]? ==J (rawInt m)then
     rule "for.unpacks-the-owned-tuple"
     updateField h 0 .none
   |_,_=>pure ()) g B d:=by
  induction A using RZ<;>first|exact QM f|skip
  refine Qn (wpAny_load i ?_);refine Q (j ..) ?_;have o:["enumerate", "zip", "dict_itemiterator", "dict_reverseitemiterator", "odict_iterator", "itertools.zip_longest", "itertools.pairwise"].contains e=Qq:=k;generalize c.data=p;induction p using Ve<;>first|exact QM f|(show QQ _ _ (if(_&&_)=Qp then _ else _) _ _ _;rw [o,Bool.false_and,Qs R6];exact QM f)
 induction ud using Rl<;>first|exact QM f|exact l
end
section
variable{E:Bool}
theorem aI.but(g:aI b a h e c u)(f:∀l q,l≠i→u.get? l=J q→ho.get? l=J q)(m:e i=U)(n:c i=U):aI b a h e c ho:=by
 have k:∀l q,e l=J q→l≠i:=λl q d=>by clear f n;rintro rfl;rw [m]at d;exact ag d
 refine⟨g.zero,λl q d=>⟨f l q (k l q d) (g.Oa l q d).1,(g.Oa l q d).2⟩,λl q d=>?_⟩;have r:l≠i:=by clear f m k;rintro rfl;rw [n]at d;exact ag d
 have aj:=g.mt l q d;exact bY aj.some_get λs j=>fE.heap ((f l s r j).trans j.symm) (λo p j t=>f o p (k o p j) t) aj
theorem bg.but(a:bg r y n t e c u lb){E:Array Qk}(o:u.get? i=J L)(b:L.data=.fields E∨∃T,L.data=.seq E T)(h:∀l q,l≠i→u.get? l=J q→ho.get? l=J q):bg r y n t e c ho lb:=by
 have F:∀{d f},u.IsCell d f→ho.IsCell d f:=λ{d f} ⟨q,g,j⟩=>⟨q,h _ _ (by clear h;rintro rfl;rw [o]at g;obtain rfl:=Qj g;rcases b with b|⟨_,b⟩<;>(rw [b]at j;cases j)) g,j⟩;refine⟨?_,a.kind,a.names,a.glob,a.blt,?_,a.own,a.len,a.nodup,a.loc,λp s k m=>?_,λH f p s k m I=>?_⟩
 ·refine ae a.OE.at_ λK k m=>⟨K,k,λv M=>?_⟩;refine bE λX N=>ar (m v M) λP Q=>hC Q λR q S w G V=>j0 G λO x z=>N ?_;exact⟨P,R,q,S,h _ _ (by clear h;rintro rfl;rw [o]at w;clear G;obtain rfl:=Qj w;rcases b with b|⟨_,b⟩<;>(rw [b]at z;cases z)) w,(j2 O x z),V⟩
 ·refine iA a.ns λq O x g A j=>?_;exact⟨q,O,x,h _ _ (by rintro v;rw [v,o]at g;obtain rfl:=Qj g;rcases b with b|⟨_,b⟩<;>(rw [b]at A;cases A)) g,A,j⟩
 ·exact bQ (a.cells p s k m) λd f B C D=>(ee d f B (F C) D)
 ·exact bQ (a.ON H f p s k m I) λd W B C D=>(ee d W B (F C) D)
theorem dc.but{D:Nat}(a:dc y e c d hn fw M)(g:d.heap.get? i=U)(f:∀l q,l≠i→M.heap.get? l=J q→ho.get? l=J q):dc y e c d hn fw {M with heap:=ho,toks:=D}:=
 ⟨a.mono,λl q b h j k=>by
  refine bf (a.same l q b h j k) λm n o=>?_;exact(bw (f l q (by clear f;rintro rfl;rw [g]at b;exact ag b) m) n o),a.gens,a.os⟩
def gQ(a:QG)(b:QV)(g:Q9)(i:Qk)(k:aO)(m:aR)(n:Nat)(p:aL)(s:Qy)(u:bo):Prop:=∀{r:QN}{y:Sj}{t:aq}{e:ax}{c:I}{lb:QA→Option Qk}{d:Ql},bZ n r→aI a b g e c d.heap→bg r y p t e c d.heap lb→
 ∀{o:List V→I→Prop}{B:aV}{ht:Qk→Ql→Prop}{hx:Qk→Ql→Prop},hR k m u t o B c→
  (∀v fw f ho D hn MV h,o v fw→aS e c d hn fw f→aI a b g hn fw f.heap→f.heap.get? MV=U→(∀l q,f.heap.get? l=J q→ho.get? l=J q)→hn MV=U→fw MV=U→iV a b hn MV v h→h 0 ho→v.length≤a4→ht (.ref MV) {f with heap:=ho,toks:=D})→
  fU (bc a b g i) e c d r B hx→QQ (QO a b) r (TD s y) (λj MP=>QQ (QO a b) r (V8 j) ht hx MP) hx d
def h3(a:Qy):Bool:=match cN a with
 |.set=>Qq
 |_=>Qp
theorem qE{a:Qk}(b:h3 s=Qp):UE s y a=pure a:=by
 induction s using Rl<;>first|rfl|exact bG b.symm
theorem li:u.get? u.objs.size=none:=by
 generalize a:u.get? u.objs.size=b;induction b using Qm with
 |none=>rfl
 |some c=>exact Rz (Rs a) (Vb _)
theorem nZ{a:Tp}:∀l f,u.get? l=J f→(u.push a).get? l=J f:=λb b c=>QT _ c
theorem gQ.run{M2:bo}(c:h3 s=Qp)(e:QQ (QO b a) r (TD s y) (λj MP=>QQ (QO b a) r (V8 j) ht hx MP) hx d):
  QQ (QO b a) r (do let j ←UE s y (←TD s y);standAt s.pos;UD [j] (V8 j)) ht hx d:=by
 refine Qn (Sg e (λj MP f=>?_) λg g h=>h);exact Q (qE c ..) (Qn (QM (Qn (Rf (Q4 f)))))
theorem h4(q:bj b a h (bc b a h cl) x w C n s D):gQ b a h cl x w C n s (.over D):=by
 intro z A B E F G H r N t I K L M u l v;refine q r N t u ?_ v;intro O m P f o g p d y;refine ae g λQ i g=>?_;have c:=gP d (Qu _);induction y using ah.casesOn with
 |lst e j k=>
  obtain rfl:=Qj i;exact wpAny_pyIter_list (items:=_) ⟨_,(d.Oa _ _ e).1,rfl,_,rfl⟩ (l _ m f _ f.toks o _ _ g p d li nZ c.2 c.1 (CU e j c.2) ⟨_,Rg _ rfl,rfl,rfl⟩ k)
 |tup e j k=>
  obtain rfl:=Qj i;exact iter_tuple (items:=_) ⟨_,(d.Oa _ _ e).1,rfl,_,rfl⟩ (l _ m f _ f.toks o _ _ g p d li nZ c.2 c.1 (CV e j c.2) ⟨_,Rg _ rfl,rfl,rfl⟩ k)
 |_=>exact ag i
set_option tactic.hygienic true in
theorem fH{X:bH}{c:List RU}(a3:h3 s=Qp)(a4:ko b a h cl x w C n ud X)(a5:gQ b a h cl x w C n s M2)(Y:gr b a h cl x w C Qq n c c2):
  ek b a h cl x w C E n (.For ud s c [] as) (.fr X M2 c2):=by
 intro B d a6 a7 a8 a9 ba D N Z aa bb ax ay ab bc aA aB;have bd:exec (.For ud s c [] as) d=(do
   standAt as
   let M2 ←(do let i ←UE s d (←TD s d);standAt s.pos;UD [i] (V8 i))
   runOwn (.forLoop ud M2 c [] d) d):=by
  refine Q (arm_exec_For ..) ?_;simp only [bind_assoc]
 refine Q (bd ..) (Qn (Rf (Qn (gQ.run (M2:=M2) a3 (a5 D N Z bc ?_ (aB.ex Z))))));intro f ad aC bP be af m bh o F bi ah ai aD aF r bj G;have bk:=Z.ext F;refine wpAny_runOwn (h:=none) ?_ (by intro i;exact ag i);have bl:fY b a h cl Qq n B d a7 a8 ba ax (notedBy (QO b a) B d (Uy (QO b a) B d ab)):=
  λH bm bn bR k p=>uJ aa p λbo I=>aB H bm bn bo k I
 have bp:=bl.back F.Oh;refine codeAny_forLoop_any (λT K=>∃e L M l bq,T=f.length-e∧e≤f.length∧dc d af ad aC M l K∧aI b a h M l K.heap∧bg B d n L M l K.heap bq∧bh e K.heap∧M m=none∧l m=none∧
  c0 x w X (λL ay ab l=>aw x w c2 L ay ab l) (f.drop e) L bb ax l) ?_ f.length (zD 0 a6 af ad a9 rfl (RO _) ((aS.grown ai).Oh) (bi.grow ai) (bk.ext (.grown (b:=be) ai)) bj aD aF o)
 intro T t aG;refine sE aG λe bS aH br bT j bs aj al aJ aK u P o=>?_;subst j;have bt:∀c g,aH c=some g→t.heap.get? c=some g:=λc g q=>(al.Oa c g q).1;refine hC (r.obj _ _ aK) λbU bV am bW bX j=>bY j λeh aL=>?_;have aM:=r.mono aj.mono;refine aM.next D.1 bs aK bt ?_;generalize an:f[e]? =bu;induction bu using Qm with
 |none=>
  intro R ao;have bv:f.length≤e:=Se.mp an;rw [Vg bv]at o;exact SX (aA _ _ _ _ _ _ _ o (F.Oh.trans (aj.but (D:=t.toks) ah ao)) (al.but ao u P) (aJ.but am (.inl aL) ao) .NX)
 |some bw=>
  intro R bZ aN aO aP bx;have v:e<f.length:=(QE.mp an).1;have bz:f.drop e=bw::f.drop (e+1):=by
   refine Q (UU v ..) ?_;congr 1;exact(QE.mp an).2
  rw [bz]at o;have S:∀c g,c≠m→t.heap.get? c=some g→R.get? c=some g:=λc g Y q=>(aO.2 c Y).trans q;have bA:=al.but S u P;have y:=aJ.but am (.inl aL) S;have V:dc d af ad aC aH br {t with heap:=R,toks:=aN}:=aj.but ah S;refine hC (r.obj _ _ aP) λbB b0 z bC bD j=>bY j λb1 aQ=>?_;have aR:=bp.back V;have bE:m≠d.locals:=by
   clear ah aD aF r u P aG am aM aO S;rintro rfl;refine iA y.ns λg O b2 k p G=>?_;rw [z]at k;obtain rfl:=Qj k;rw [aQ]at p;cases p
  have bF:∀i ap A,(i,A)∈d.scope.names→A=RD∨A=Q2→d.cells.lookup i=some ap→m≠ap:=by
   intro i ap A k p I;rw [y.names]at k;refine bQ (y.cells i A k p) λb3 b4 aq j G=>ae j λb5 H aT=>?_;rw [I]at aq;clear j G;obtain rfl:=Qj aq;clear I aq j G;rintro rfl;rw [z]at H;obtain rfl:=Qj H;rw [aQ]at aT;cases aT
  refine uM (d:={t with heap:=R,toks:=aN}) z bC bD (a4 D bA y aa bx o ?_ (aR.ex y));intro b6 b7 b8 b9 ca bG aU bI bJ;refine Y D bI bJ aa bG ?_ (aR.back aU);intro a1 aV aW cb bK aX aY ar bL au av bM;have W:=aU.trans bL;refine bf (W.same m bB z P bE bF) λbN aZ a0=>?_;have a2:=r.dep _ _ bK.heap aP (λg q=>by rw [z]at q;obtain rfl:=Qj q;exact bN);induction bM using hZ.casesOn with
  |NX=>exact⟨f.length-(e+1),by exact(aE 325646097677431458084) v (az _ _) (az _ _),e+1,aV,aX,aW,aY,rfl,by exact(ak 115497252) v,V.trans W,au,av,a2,a0.trans u,aZ,ar⟩
  |Ow=>exact⟨f.length-(e+1),by exact(aE 325646097677431458084) v (az _ _) (az _ _),e+1,aV,aX,aW,aY,rfl,by exact(ak 115497252) v,V.trans W,au,av,a2,a0.trans u,aZ,ar⟩
  |N9 bO=>exact aA _ _ _ _ _ _ _ ar (F.Oh.trans (V.trans W)) au av (.N9 bO)
end
section
variable{E:Bool}
set_option tactic.hygienic true in
theorem CX{a:Option V}{c:String}(b:kg a c=Qp):∃A,a=some A∧A=.NS (.type c):=by
 induction a using Qm with
 |none=>exact bG b.symm
 |some a=>
  induction a using V.casesOn<;>first|exact bG b.symm|skip
  rename_i a;induction a using RZ<;>first|exact bG b.symm|skip
  exact⟨_,rfl,by exact Q (Sn.mp b ..) rfl⟩
theorem CY(p:hW h l0){g:String}(q:(k==("__debug__" :QA))=Qq)(s:n.lookup k=J .globalImplicit)(u:kg (l0 k) g=Qp)(j:aI b a h e c d.heap)(l:bg r y n t e c d.heap lb)(v:bZ C r)
  (w:∀M hn,aS e c d hn c M→aI b a h hn c M.heap→ht (.type g) M):QQ (QO b a) r (TD (.Name k as) y) ht hx d:=by
 refine ae (CX u) λi x z=>?_;subst z;refine tW (f0:=λf f f f f f f=>False) (x:=⟨λf=>U,λf=>U,λf f=>U,λf f=>Qq⟩) (w:=λf f f f f=>False) p q s x v j l (o:=λi m=>i=.NS (.type g)∧m=c) (B:=λf=>False) ⟨rfl,rfl⟩ ?_ λf f f A=>A.elim;intro i m H M hn o B D E;refine ar o λF G=>?_;subst F;clear j l o;subst G;induction E using ah.OK;exact w _ _ B D
theorem uN(o:d3 f0)(E:hW h l0){q:String}{u:Si}(F:(f==("__debug__" :QA))=Qq)(G:n.lookup f=J .globalImplicit)(H:kg (l0 f) q=Qp)(I:eX s=Qq)(K:bj b a h f0 x w C n s D)(L:eu b a h f0 x w C n s D)
  (v:bZ C r)(N:aI b a h e c d.heap)(z:bg r y n t e c d.heap lb){g:aD}{i:aV}(j:av x w D t g i c)
  (P:∀p fw A M hn,g p fw→aS e c d hn fw M→aI b a h hn fw M.heap→ah hn p A→QQ (QO b a) r (TE (.type q) [A]) ht hx M)(R:fU f0 e c d r i hx):
  QQ (QO b a) r (TD (.Call (.Name f as) [s] [] u) y) ht hx d:=by
 refine Q (qr (by intro X T as j;cases j) ..) (Qn (CY E F G H N z v λY Z k S=>?_));have O:ev b a h f0 x w C n [s] [D]:=.cons ⟨K,L,I⟩ .nil;refine PyProof.Rows.callWith_type ‹Q (qp O ..) rfl› (qq O (mh o u O v S (z.ext k) (o:=λB fw=>mc B λp=>g p fw) (B:=i) ?_ ?_ (R.back o k)))
 ·exact j
 ·intro B aa ab ad ae l V W m af;obtain⟨p,A,rfl,m,l⟩:=nR m l;exact P _ _ _ _ _ l (k.trans V) W m
set_option tactic.hygienic true in
theorem CZ(a:pR p=J v):∃T:Nat,p=.int T∧T≤a4∧v=b9 T:=by
 induction p using V.casesOn<;>first|exact ag a|skip
 rename_i T;by_cases b:0≤T∧T≤a4
 ·have a:=(Qt b).symm.trans a;exact⟨T.toNat,by rw [Sm b.1],Int.toNat_le.mpr b.2,by rw [Sm b.1];exact(Qj a).symm⟩
 ·exact ag ((Qs b).symm.trans a)
theorem uO(a:Nat):Ue 0 a 1=a:=by
 unfold Ue;by_cases aj:0<a
 ·simp [aj]
 ·simp [aj];exact(aN 629942940) aj
set_option tactic.hygienic true in
theorem uP(o:hW h l0){p:Si}(q:(f==("__debug__" :QA))=Qq)(r:n.lookup f=J .globalImplicit)(t:kg (l0 f) "range" =Qp)(u:eX s=Qq)(v:bj b a h (bc b a h cl) x w C n s D)(y:eu b a h (bc b a h cl) x w C n s D):
  gQ b a h cl x w C n (.Call (.Name f as) [s] [] p) (.range D):=by
 intro X Y z Z A aa ab B N E F G ad af H I K;refine uN bc.back o q r t u v y B N E (show av x w D z (λi d=>cm (pR i) λj=>F j d) G A from H) ?_ K;intro i d ag c L e M O P;refine ae e λj R e=>bk (CZ R) λT S k V=>?_;subst S;subst V;induction P using ah.Oq;rename_i g;refine PySem.call_range_1 ?_;have l:=O.push {cls:=.type "range",data:=.fields #[.int 0 c.toks,.int T g,.int 1 (c.toks+1)]};have W:=M.trans (aS.push (e:=L) (c:=d) (d:=c) {cls:=.type "range",data:=.fields #[.int 0 c.toks,.int T g,.int 1 (c.toks+1)]} (c.toks+1+1));have m:=gP l (Qu _);refine wpAny_pyIter_range (IsRange.new c.heap 0 T 1 c.toks g (c.toks+1)) ?_ ?_
 ·unfold Builtin.Range.small;refine Q (uO ..) ?_;unfold Builtin.Range.rangeFitsLong;have:=mg k;simp;exact⟨this,.inr this⟩
 ·exact Q (uO ..) (I _ _ _ _ _ _ _ _ e W l li nZ m.2 m.1 kp (by show IsRangeIter _ _ _ _ _;exact Rg _ rfl) (by refine Q (uL ..) ?_;exact k))
theorem C0(p:hW h l0){q:Si}(r:(f==("__debug__" :QA))=Qq)(t:n.lookup f=J .globalImplicit)(u:kg (l0 f) "reversed" =Qp)(v:eX s=Qq)(y:bj b a h (bc b a h cl) x w C n s D)(z:eu b a h (bc b a h cl) x w C n s D):
  gQ b a h cl x w C n (.Call (.Name f as) [s] [] q) (.rev D):=by
 intro R S V W X Y Z A N B aa ab ad af E F G;refine uN bc.back p r t u v y z A N B E ?_ G;intro ag ah ai c H e I g m;refine ae (pV e) λK i e=>?_;subst i;refine iC (tX g m) λj d T i L M o O=>?_;clear m;subst i;refine call_reversed_list (items:=d.toArray) ⟨_,M,rfl,T,rfl⟩ ?_;have k:=gP g (Qu _);have l:(c.heap.push (revObj j ((d.toArray.size:Int)-1))).IsRevIter c.heap.objs.size j ((d.toArray.size:Int)-1):=⟨_,Rg _ rfl,rfl,rfl⟩;refine WB (s:={c with heap:=c.heap.push (revObj j ((d.toArray.size:Int)-1))}) l (F _ _ _ _ c.toks H _ _ e I g li nZ k.2 k.1 (qD L o k.2) ?_ (by refine Q (SG ..) ?_;exact O));have P:((d.toArray.size:Int)-1)=(K.length:Int)-1-((0:Nat):Int):=by refine Q (Ra ..) (Q (o.length ..) ?_);exact(TM _).symm
 rw [P]at l⊢;exact l
end
section
variable{E:Bool}
noncomputable def gR(b:Sj):aL→List (QA×Qo)→List (QA×Qo)
 |[],a=>a
 |(j,a2)::c,a=>if a2== .free then gR b c ((j,(b.cells.lookup j).getD 0)::a)else gR b c a
theorem qF(a:Sj)(b:QA)(e:QF)(c:aL)(d:List (QA×Qo)):gR a ((b,e)::c) d=if(e== .free)=Qp then gR a c ((b,(a.cells.lookup b).getD 0)::d)else gR a c d:=rfl
theorem qG{a:QA×QF→List (QA×Qo)→WJ (ForInStep (List (QA×Qo)))}(c:∀j a2 bR,a2≠Q2→a (j,a2) bR=pure (.yield bR))(d:∀j bR g,y.cells.lookup j=J g→a (j,Q2) bR=pure (.yield ((j,g)::bR))):
  ∀(b2:aL) (f:List (QA×Qo)),(∀j,(j,Q2)∈b2→(y.cells.lookup j).isSome=Qp)→forIn b2 f a=pure (gR y b2 f)
 |[],f,_=>rfl
 |(j,a2)::b,f,e=>by
  refine Q (WM ..) ?_;by_cases h:a2=Q2
  ·subst h;refine bY (Rm.mp (e j (.head _))) λg l=>Q (d j f g l ..) (Q (pure_bind ..) ?_);show forIn b _ a=_;refine Q (qG c d b _ λi k=>e i (.tail _ k) ..) (Q (qF ..) (Q (l ..) ?_));rfl
  ·rw [c j a2 f h,pure_bind];show forIn b _ a=_;exact Q (qG c d b _ λi k=>e i (.tail _ k) ..) (Q (qF ..) (Q (Qs λm=>h (eq_of_beq m) ..) rfl))
theorem uQ(a:∀j,(j,Q2)∈MM.names→(y.cells.lookup j).isSome=Qp):closureFor MM y=pure (gR y MM.names []):=by
 unfold closureFor;dsimp only;rw [qG (y:=y) ?_ ?_ MM.names [] a]
 ·rfl
 ·intro j b bR c;have:(b==Q2)=Qq:=Q0.mpr c;simp [this]
 ·intro j bR d e;have f:cellOf y j=pure d:=by unfold cellOf;exact Q (e ..) rfl
  simp [f]
set_option tactic.hygienic true in
theorem n0(b:y.cells.lookup j=J g):∀(b2:aL) (f:List (QA×Qo)),(j,Q2)∈b2∨f.lookup j=J g→(gR y b2 f).lookup j=J g
 |[],f,u=>by
  rcases u with u|u
  ·exact fu u
  ·exact u
 |(e,h)::d,f,u=>by
  refine Q (qF ..) ?_;by_cases a:(h==Q2)=Qp
  ·refine Q (Qt a ..) ?_;refine n0 b d _ ?_;by_cases c:j=e
   ·clear u;subst c;exact .inr (by simp [b])
   ·rcases u with u|u
    ·rcases QX.mp u with u|u
     ·clear a;cases u;exact Rz rfl c
     ·exact .inl u
    ·exact .inr (by refine Q (Rx ..) (Q (Q0.mpr c ..) ?_);exact u)
  ·refine Q (Qs a ..) (n0 b d f ?_);rcases u with u|u
   ·rcases QX.mp u with u|u
    ·cases u;exact(a rfl).elim
    ·exact .inl u
   ·exact .inr u
set_option tactic.hygienic true in
theorem C1{e:Qy}{f:Qk}(g:Nat→Ql→Prop)
  (n:∀T d,g T d→QQ (QO b a) r (pyNext f) (λE MP=>match E with
   |none=>no (.ok .next) MP
   |some p=>QQ (QO b a) r (U4 e f p) (λZ k=>QQ (QO b a) r (T8 e y p) (λZ m=>QQ (QO b a) r (TD M5 y) (λj L=>
     QQ (QO b a) r (TE (.builtin "list.append") [ap,j]) (λZ bd=>∃lb,lb<T∧g lb bd) (λZ Z=>False) L) (λZ Z=>False) m) (λZ Z=>False) k) (λZ Z=>False) MP) (λZ Z=>False) d)
  (T:Nat)(o:g T d):Ub (QO b a) r (.compLoop (.ListComp M5 [⟨e,be,[],0⟩] MM l2) 0 f ap y) no d:=by
 refine codeAny_loop rfl g (λT d q=>?_) T o;show QQ _ _ ((compTurn (.ListComp M5 [⟨e,be,[],0⟩] MM l2) 0 f ap y).onRaise (λj=>do noteFrame j y;theTreesLotGoes j)) _ _ d;refine wpAny_noted (Q (compTurn_list1 ..) ?_);have c:∀(h:Qk) (i:Ql),False→notedBy (QO b a) r y (λh i=>no (.error h) i) h i:=λZ Z s=>s.elim;refine Qn (Rf (Qn (Sg (n T d q) (λE MP l=>?_) c)));induction E using Qm with
 |none=>exact QM l
 |some p=>
  exact Qn (Sg l (λZ k t=>Qn (Sg t (λZ m u=>Qn (Qn (Sg u (λj L v=>Qn (Sg v
   (λZ bd w=>QM (QM ⟨rfl,w⟩)) c)) c))) c)) c)
end
section
variable{E:Bool}
theorem uR(a:nE b2=Qp):b2.Nodup:=by
 induction b2 with
 |nil=>exact Rq
 |cons b g c=>
  refine ar (QC.mp a) λd e=>QZ.mpr ⟨λf=>?_,c e⟩;have:=Wn.mp (iM d) b f;exact this (QD rfl)
theorem qH(q:n[z]? =J (j,NameKind.local))(N:aI b a h e c d.heap)(f:bg r y n t e c d.heap lb)(O:ah e p A)
  {H:Unit→Ql→Prop}(P:∀ho D ap,Sp y.locals d.heap ho→aI b a h e c ho→bg r y n (t.set z (J p)) e c ho ap→H () {d with heap:=ho,toks:=D}):QQ (QO b a) r (VX y j A) H hx d:=by
 have I:n.lookup j=J .local:=kl f.nodup q;have K:y.kindOf j=J .local:=by unfold SO;refine Q (f.names ..) ?_;exact I
 have R:z<t.length:=by refine Q (f.len ..) ?_;exact(QE.mp q).1
 refine Wr K f.ns (λho E s=>P ho _ (λi=>if i=j then J A else lb i) s (N.off s.2 f.own.1 f.own.2) ?_) (by refine Q (f.kind ..) ?_;rfl);refine⟨f.OE.off s.2 λV W=>?_,f.kind,f.names,f.glob,f.blt,E,f.own,by simp [f.len],f.nodup,λu v i k g=>?_,λi C k g=>?_,λu v i C k g o=>?_⟩
 ·refine ae (uv E) λS l m=>?_;exact(aU S l (λw=>m))
 ·by_cases x:z=u
  ·subst x;rw [lg R]at k;obtain rfl:=Qj k;rw [q]at g;cases g;exact(aU A (Qt rfl) O)
  ·rw [hY x]at k;refine ae (f.loc u v i k g) λF l m=>?_;have:i≠j:=by clear I K E;rintro rfl;exact x (mj f.nodup q g)
   exact⟨F,by refine Q (Qs this ..) ?_;exact l,m⟩
 ·exact fc (f.cells i C k g) λB v l m G T L=>(kX B v l (jt m (s.2 B L)) G T L)
 ·have x:z≠u:=by clear k;rintro rfl;rw [q]at g;cases g;rcases o with o|o<;>cases o
  rw [hY x]at k;refine bQ (f.ON u v i C k g o) λB F l m G=>fc (f.cells i C (QB g) o) λX Y M w w w dO=>?_;rw [l]at M;clear w;clear w;obtain rfl:=Qj M;exact⟨B,F,l,jt m (s.2 B dO),G⟩
def uS(a:Sj)(b:Qk→WJ Unit)(c:Nat)(e:aL):Prop:=∃j,e[c]? =J (j,NameKind.local)∧∀{Nt:Model}{r:QN}{A:Qk}{o:Unit→Ql→Prop}{B:Qk→Ql→Prop}{d:Ql},QQ Nt r (VX a j A) o B d→QQ Nt r (b A) o B d
theorem C2(i:aM (λH z=>uS y H z n) L MR):∀{v:List V}{k:List Qk}{t:aq}{lb:QA→Option Qk}{d:Ql}{ht:Unit→Ql→Prop},aI b a h e c d.heap→bg r y n t e c d.heap lb→bh e v k→fB MR v t=J m2→
  (∀ho D m,Sp y.locals d.heap ho→aI b a h e c ho→bg r y n m2 e c ho m→ht () {d with heap:=ho,toks:=D})→QQ (QO b a) r (assignInOrder L k) ht hx d:=by
 induction i with
 |nil=>
  intro v k t lb d ht N j f g l;induction f using aM.casesOn with
  |nil=>obtain rfl:=Qj g;exact QM (l d.heap d.toks lb (UP _ _) N j)
  |cons _ _=>exact ag g
 |cons o G p=>
  intro v k t lb d ht N j f g l;induction f using aM.casesOn with
  |nil=>exact ag g
  |cons q f=>
   refine ae o λI s i=>Qn (Q4 (i (qH s N j q λu w K x A bq=>?_)));exact p (d:={d with heap:=u,toks:=w}) A bq f g λho B m C E F=>l ho B m (x.trans C) E F
end
section
variable{E:Bool}
theorem bg.less(a:bg r y n m2 e c u lb)(h:t.length=m2.length)(g:∀(z:Nat) (p:V),(t[z]?).join=J p→(m2[z]?).join=J p):bg r y n t e c u lb:=
 ⟨a.OE,a.kind,a.names,a.glob,a.blt,a.ns,a.own,h.trans a.len,a.nodup,λz p b d f=>a.loc z p b (g z p d) f,a.cells,λz p b i d f j=>a.ON z p b i (g z p d) f j⟩
theorem uT:∀{v:List V}{t m2:aq},fB MR v t=J m2→m2.length=t.length∧∀z,z∉MR→(m2[z]?).join=(t[z]?).join:=by
 induction MR with
 |nil=>intro v t m2 a;induction v using QH with
  |nil=>obtain rfl:=Qj a;exact⟨rfl,λd d=>rfl⟩
  |cons _ _=>exact ag a
 |cons h MR e=>intro v t m2 a;induction v using QH with
  |nil=>exact ag a
  |cons i v=>
   refine ar (e a) λf g=>?_;exact⟨by rw [f,TK],λz c=>by rw [g z λb=>c (.tail _ b)];exact hY λb=>c (by rw [b];exact .head _)⟩
theorem aS.but{D:Nat}(a:aS e c d hn fw M)(g:d.heap.get? i=U)(f:∀l q,l≠i→M.heap.get? l=J q→ho.get? l=J q):aS e c d hn fw {M with heap:=ho,toks:=D}:=
 ⟨a.mono,λl q b h=>by
  refine bf (a.same l q b h) λj k m=>?_;exact(bw (f l q (by clear f;rintro rfl;rw [g]at b;exact ag b) j) k m),a.gens,a.os⟩
end
section
variable{E:Bool}
def jy(b:QG)(f:QV)(h:Q9)(g:QN)(a:Sj)(i:aL)(j:Qy)(k:Bool)(m:List Nat):Prop:=
 ∀{t m2:aq}{e:ax}{c:I}{d:Ql}{lb:QA→Option Qk}{p:V}{A:Qk},aI b f h e c d.heap→bg g a i t e c d.heap lb→ah e p A→kc k m p t=J m2→
  ∀{ht:Unit→Ql→Prop}{hx:Qk→Ql→Prop},(∀ho D n,(∀l q,l≠a.locals→d.heap.get? l=J q→ho.get? l=J q)→aI b f h e c ho→bg g a i m2 e c ho n→ht () {d with heap:=ho,toks:=D})→QQ (QO b f) g (T8 j a A) ht hx d
structure qI(b:Program)(a:World)(h:Heap)(r:Around)(M4:Env)(n:aL)(t:aq)(Fb:ax)(σb:I)(sb:Shared)(MT MV:Addr)(St:Nat→Heap→Prop)(z:Nat)(acc:List V)(e:ax)(c:I)(d:Shared):Prop where
 ext:aS Fb σb sb e c d
 Pc:aI b a h e c d.heap
 PO:∃lb,bg r M4 n t e c d.heap lb
 lst:∃us a2,d.heap.get? MT=some (listOf us.toArray a2)∧bh e acc us
 Po:e MT=none∧c MT=none
 Pd:e MV=none∧c MV=none
 it:St z d.heap
 len:acc.length=z
set_option tactic.hygienic true in
theorem C3{u:QN}(ap:bZ C u){o:Sj}{p:aq}{v:ax}{A:I}{q:Ql}{j k:Qo}{f:List V}{F:Nat→Q9→Prop}{ar as aO:Qy}{X:aa}{G:Bool}{y:List Nat}{aP:Ri}{aQ:Si}
  (aR:q.heap.get? j=none)(aT:q.heap.get? k=none)(aU:q.heap.get? o.locals=none)(aw:j≠k)(aV:j≠o.locals)(aW:k≠o.locals)(H:iV b a v k f F)(aX:f.length≤a4)
  (aY:bj b a h (bc b a h cl) x w C n ar X)(ay:jy b a h u o n as G y)(aZ:∀z∈y,(p[z]?).join=none){Y:aD}{aA:Q8→Ql→Prop}
  (a0:∀L e c d,eW L Y c→qI b a h u o n p v A q j k F f.length L e c d→∀ho,VA k d.heap ho→aA (.ok .next) {d with heap:=ho}){d:Ql}{e:ax}{c:I}(a1:qI b a h u o n p v A q j k F 0 [] e c d)
  (K:fS (λm2 ht hx fw=>av x w X m2 ht hx fw) G y p f [] Y (λZ=>False) c):Ub (QO b a) u (.compLoop (.ListComp ar [⟨as,aO,[],0⟩] aP aQ) 0 (.ref k) (.ref j) o) aA d:=by
 refine C1 (λT a2=>∃z L a3 fw,T=f.length-z∧z≤f.length∧qI b a h u o n p v A q j k F z L a3 fw a2∧fS (λm2 ht hx fw=>av x w X m2 ht hx fw) G y p (f.drop z) L Y (λZ=>False) fw) ?_ f.length (lU 0 [] e c rfl (RO _) a1 K);intro T r ab;refine bE λbJ ad=>j1 ab λz L M af B N g s=>?_;subst B;refine bY g.PO λbK a5=>dY g.lst λaB bL a6 aC=>ad ?_;have a7:∀i l,M i=some l→r.heap.get? i=some l:=λi l m=>(g.Pc.Oa i l m).1;refine hC (H.obj _ _ g.it) λbM bN a8 bO bP B=>bY B λeh a9=>(H.mono g.ext.mono).next ap.1 N g.it a7 ?_;generalize O:f[z]? =ba;induction ba using Qm with
 |none=>
  intro ho bb;have P:f.length≤z:=Se.mp O;have bd:z=f.length:=Nat.le_antisymm N P;clear N ab ad O P;subst bd;rw [Vg (Qu _)]at s;exact a0 L M af r s g ho bb
 |some be=>
  intro D bQ ah bg aE bh;have ai:z<f.length:=(QE.mp O).1;have bi:f.drop z=be::f.drop (z+1):=by
   refine Q (UU ai ..) ?_;congr 1;exact(QE.mp O).2
  rw [bi]at s;refine ae s λm2 aj s=>?_;have R:∀i l,i≠k→r.heap.get? i=some l→D.get? i=some l:=λi l ak m=>(bg.2 i ak).trans m;have bk:=g.Pc.but R g.Pd.1 g.Pd.2;have bl:=a5.but a8 (.inl a9) R;have bm:aS v A q M af {r with heap:=D,toks:=ah}:=g.ext.but aT R;refine hC (H.obj _ _ aE) λbR bS al bn bo B=>bY B λbT bV=>?_;have bp:=R j _ aw a6;refine uM (d:={r with heap:=D,toks:=ah}) al bn bo (ay (d:={r with heap:=D,toks:=ah}) bk bl bh aj λaF cF bq am br aG=>?_);have bs:aS v A q M af {r with heap:=aF,toks:=cF}:=bm.but (D:=cF) aU am;refine aY ap (d:={r with heap:=aF,toks:=cF}) br aG s ?_ λZ Z Z m=>m.elim;intro bt aH aI bu aJ aK E bv bw;refine bf (E.same j _ (am j _ aV bp) g.Po.2) λaL bx bz=>bf (E.same k _ (am k _ aW al) g.Pd.2) λbA bB bC=>?_;have bD:=aG.ext E;have P:=aC.length;have S:=g.len;refine Uu aL (λaM bF aN=>?_) (by refine Q (Ra ..) (Q (P ..) (Q (S ..) ?_));exact Qv N (Qv aX (by decide)));have W:∀i l,i≠j→bu.heap.get? i=some l→aM.get? i=some l:=λi l ak m=>(bF.2 i ak).trans m;have an:aJ j=none∧aH j=none:=⟨bz.trans g.Po.1,bx⟩;have bG:aB.toArray.push aI=(aB++[aI]).toArray:=by simp
  rw [bG]at aN;obtain⟨bH,bI⟩:m2.length=p.length∧∀t,t∉y→(m2[t]?).join=(p[t]?).join:=by
   clear ay K ab ad s aK;induction G using Qz with
   |true=>exact uT aj
   |false=>refine ae (nY aj) λf Z K=>?_;exact uT K
  refine⟨f.length-(z+1),by exact(bU 18177108613058931536906532) ai S (az _ _) (az _ _),z+1,L++[bt],aJ,aH,rfl,by exact(au 4257628768548) ai S,⟨(bs.trans E).but aR W,bv.but W an.1 an.2,⟨bq,(bD.but aL (.inr ⟨_,rfl⟩) W).less bH.symm λt a ao=>?_⟩,(gg _ _ aN ((aC.mono E.mono).append (.cons bw .nil))),an,⟨bC.trans g.Pd.1,bB⟩,?_,by simp [S]⟩,aK⟩
  ·by_cases m:t∈y
   ·rw [aZ t m]at ao;exact ag ao
   ·refine Q (bI t m ..) ?_;exact ao
  ·exact H.dep _ D aM aE λl m=>by
    rw [al]at m;obtain rfl:=Qj m;exact W k _ (RY aw) bA
end
section
variable{E:Bool}
theorem n1:(ej b2)[z]? =J (j,a2)↔∃Nu,b2[z]? =J (j,Nu)∧a2=(if Nu=.free then .cell else Nu):=by
 unfold ej;refine Q (Rb ..) ?_;constructor
 ·intro f;refine ae (SV.mp f) λg c b=>?_;obtain⟨i,Nu⟩:=g;by_cases a:Nu=Q2
  ·subst a;simp at b;exact⟨.free,by exact Q (c ..) (Q (b.1 ..) rfl),by simp [b.2]⟩
  ·have d:(Nu==Q2)=Qq:=Q0.mpr a;simp [d]at b;exact⟨Nu,by rw [c,b.1],by rw [Qs a];exact b.2.symm⟩
 ·intro e;refine ae e λNu c h=>?_;subst h;refine Q (c ..) ?_;by_cases a:Nu=Q2
  ·clear c e;subst a;simp
  ·have d:(Nu==Q2)=Qq:=Q0.mpr a;simp [d,a]
theorem C4(b:aL):(ej b).map (·.1)=b.map (·.1):=by
 unfold ej;refine Q (List.map_map ..) (Tj λa c=>?_);show(if(a.2==Q2)=Qp then(a.1,RD)else a).1=a.1;split<;>rfl
end
theorem C5(f:List (Nat×Nat))(d:Nat)(e:aq):(gN f d e).length=d:=by
 unfold gN;have g:∀(a:List (Nat×Nat)) (b:aq),(a.foldl (λh c=>h.set c.1 ((e[c.2]?).join)) b).length=b.length:=by
  intro a;induction a with
  |nil=>intro b;rfl
  |cons c a i=>intro b;refine Q (Tc ..) (Q (i ..) ?_);simp
 refine Q (g ..) ?_;simp
theorem n2:∀(b2:List (Nat×Nat)) (f:aq),((b2.foldl (λE as=>E.set as.1 ((t[as.2]?).join)) f)[z]?).join=J p→(∃q,(z,q)∈b2∧(t[q]?).join=J p)∨(f[z]?).join=J p
 |[],f,u=>.inr u
 |as::b2,f,u=>by
  rw [Tc]at u;rcases n2 b2 _ u with⟨q,c,d⟩|u
  ·exact .inl (aU q (.tail _ c) d)
  ·by_cases a:as.1=z
   ·subst a;by_cases b:as.1<f.length
    ·rw [List.getElem?_set_self b]at u;exact .inl (aU as.2 (.head _) (by simpa using u))
    ·rw [R8 (by simpa using b)]at u;simp at u
   ·rw [VC a]at u;exact .inr u
theorem uU{b:u5→Option MQ}:∀{Nh:List MQ},fg b b2=J Nh→(∀l∈Nh,∃i∈b2,b i=J l)∧∀i∈b2,∃l∈Nh,b i=J l:=by
 induction b2 with
 |nil=>intro Nh a;obtain rfl:=Qj a;exact⟨λj a=>‹fu a›,λj a=>‹fu a›⟩
 |cons i b2 k=>
  intro Nh a;refine bQ (gn a) λl Nh h m n=>?_;subst n;refine ar (k m) λo p=>⟨λq c=>?_,λr d=>?_⟩
  ·clear a;rcases QX.mp c with rfl|c
   ·exact(aU i (.head _) h)
   ·refine ae (o q c) λe f g=>?_;exact(aU e (.tail _ f) g)
  ·clear a;rcases QX.mp d with rfl|d
   ·exact(aU l (.head _) h)
   ·refine ae (p r d) λe f g=>?_;exact(aU e (.tail _ f) g)
theorem uV{c e:aL}{b:QA×QF}{d:Nat×Nat}(a:tD c e b=J d):jp b.1 e=J d.1∧c1 c b.1=J d.2∧c.lookup b.1=J .cell:=by
 refine bE λj f=>ae (ci a) λk g a=>ae (ci a) λl h a=>ar (dD a) λi a=>f ?_;clear f;obtain rfl:=Qj a;exact(bw g h (eq_of_beq i))
theorem qJ{c a:aL}(f:iP c a=J M1):
  (∀z q,(z,q)∈M1→∃j,(j,Q2)∈a∧jp j a=J z∧c1 c j=J q)∧∀j,(j,Q2)∈a→c.lookup j=J .cell:=by
 refine ar (uU f) λg h=>⟨λz q i=>?_,λj k=>?_⟩
 ·refine ae (g _ i) λl d b=>bf (uV b) λm n e=>?_;rw [UA]at d;obtain⟨o,p⟩:=l;have:p=.free:=eq_of_beq d.2;clear b e;subst this;exact⟨o,d.1,m,n⟩
 ·exact ae (h (j,.free) (UA.mpr ⟨k,rfl⟩)) λr e b=>(uV b).2.2
section
variable{E:Bool}
theorem d2.keep(a:d2 r e c u)(b:∀l q,u.get? l=J q→ho.get? l=J q):d2 r e c ho:=by
 refine ae a.at_ λd f g=>⟨d,f,λh i=>?_⟩;exact ar (g h i) λj k=>bQ k λm q n o p=>⟨j,m,q,n,b _ _ o,p⟩
theorem bg.P4(v:bg r y n ap bd bi L ca)(w:L.get? hc=U)(a:bg r y n t e c u lb)(k:∀l,l≠hc→ho.get? l=u.get? l):bg r y n t e c ho lb:=by
 have x:y.locals≠hc:=by rintro p;refine lT v.ns λz b b C b=>?_;rw [p,w]at C;exact ag C
 have A:∀{h d},(h,d)∈n→d=RD∨d=Q2→∀{j},y.cells.lookup h=J j→j≠hc:=by
  intro h d f g j q;refine bQ (v.cells h d f g) λT s i m b=>ae m λz o b=>?_;rw [q]at i;clear m b;clear b;obtain rfl:=Qj i;clear k x;rintro rfl;rw [w]at o;exact ag o
 refine⟨?_,a.kind,a.names,a.glob,a.blt,tU a.ns (k _ x),a.own,a.len,a.nodup,a.loc,λh d f g=>?_,λK s h d f g q=>?_⟩
 ·refine ae a.OE.at_ λM f g=>ae v.OE.at_ λV D N=>?_;rw [f]at D;obtain rfl:=Qj D;refine⟨M,f,λp E=>?_⟩;refine bE λW O=>ar (g p E) λP m=>bQ m λF z G Q R=>ar (N p E) λb m=>bQ m λX Y H I b=>O ?_;rw [G]at H;clear b;obtain rfl:=Qj H;exact⟨P,F,z,G,(k F (by clear k x A;rintro rfl;rw [w]at I;exact ag I)).trans Q,R⟩
 ·exact bQ (a.cells h d f g) λj s i o B=>(ee j s i (jt o (k _ (A f g i))) B)
 ·exact bQ (a.ON K s h d f g q) λj S i o B=>(ee j S i (jt o (k _ (A (QB g) q i))) B)
theorem lj(a:iO MW=Qp):MW.kind=.function∧(MW.names.map (·.1)).Nodup∧∀j∈MW.names,j.2≠.cell:=by
 unfold iO at a;simp only [Ry]at a;refine(bw (eq_of_beq a.1.1) (uR a.1.2) (λj b=>?_));have:=Rc.mp a.2 j b;simpa using this
set_option tactic.hygienic true in
theorem uW{b:aL}{c:QF}(a:b.lookup j=J c):(j,c)∈b:=by
 induction b with
 |nil=>cases a
 |cons e b d=>
  obtain⟨g,h⟩:=e;rw [Rx]at a;split at a
  ·rename_i f;clear d;obtain rfl:=Qj a;refine Q (eq_of_beq f ..) ?_;exact .head _
  ·exact .tail _ (d a)
theorem mn{a:aL}{b:QA×QF}(c:b∈a):∃z:Nat,a[z]? =J b:=TQ.mp c
theorem C6{O:QN}{p:Sj}{a:Ri}{B:List (Nat×Nat)}{P:aq}{C:ax}{D:I}{u E:Q9}{ab R:QA→Option Qk}{r:Qo}(ad:iO a=Qp)(af:iP n a.names=J B)(i:bg O p n P C D u ab)
  (ah:u.get? r=U)(ai:C r=U∧D r=U)(S:∀l q,u.get? l=J q→E.get? l=J q)(aj:E.Ns r R):
  bg O (compEnvC a (gR p a.names []) r p) (ej a.names) (gN B a.names.length P) C D E R:=by
 refine bf (lj ad) λak F al=>ar (qJ af) λT G=>?_;have freeOf:∀{c j},(c,j)∈ej a.names→j=RD∨j=Q2→(c,Q2)∈a.names:=by
  intro c j v am;refine bY (mn v) λe V=>ae (n1.mp V) λH f k=>?_;by_cases hv:H=.free
  ·clear k;subst hv;exact QB f
  ·rw [Qs hv]at k;subst k;clear v V;rcases am with rfl|rfl
   ·exact Rz rfl (al _ (QB f))
   ·exact Rz rfl hv
 have cellAt:∀{c},(c,Q2)∈a.names→∃b d,p.cells.lookup c=J b∧u.IsCell b d∧C b=U∧D b=U∧(c,RD)∈n:=by
  intro c an;have v:=uW (G c an);exact fc (i.cells c .cell v (.inl rfl)) λb d m g w K L=>⟨b,d,m,g,w,K,v⟩
 have W:∀{b d},u.IsCell b d→E.IsCell b d:=λ⟨q,ao,hv⟩=>⟨q,S _ _ ao,hv⟩;refine⟨i.OE.keep S,ak,?_,i.glob,i.blt,aj,ai,by refine Q (C5 ..) ?_;simp [ej],by refine Q (C4 ..) ?_;exact F,λe d c h o=>?_,λc j h o=>?_,λe d c j h o ap=>?_⟩
 ·show a.names.map _=ej a.names;unfold ej;refine Tj λM as=>?_;obtain⟨s,X⟩:=M;by_cases hv:X=.free
  ·subst hv;have m:p.kindOf s=J .cell:=by unfold SO;refine Q (i.names ..) ?_;exact G s as
   have g:(p.scope.kind==ScopeKind.function)=Qp:=by refine Q (i.kind ..) ?_;rfl
   simp [m,g]
  ·have:(X==Q2)=Qq:=Q0.mpr hv;simp [this]
 ·refine ae (n1.mp o) λH f k=>?_;unfold gN at h;rcases n2 B _ h with⟨q,N,Y⟩|hv
  ·refine bk (T e q N) λs t x L=>bY (mn t) λau y=>?_;have z:a.names[e]? =J (s,.free):=nH x (kl F y);rw [f]at z;clear f t x L y;cases z;simp at k
  ·by_cases A:e<a.names.length
   ·rw [RL,Qt A]at hv;cases hv
   ·rw [RL,Qs A]at hv;cases hv
 ·refine fc (cellAt (freeOf h o)) λb d m g w K aC=>(kX b d (n0 m _ _ (.inl (freeOf h o))) (W g) w K ?_);intro M;refine ae g λq hv L=>?_;have av:b=r:=M;rw [av,ah]at hv;exact ag hv
 ·have aD:=freeOf (QB o) ap;unfold gN at h;rcases n2 B _ h with⟨q,N,Y⟩|hv
  ·refine bE λaE aw=>bk (T e q N) λs t x ay=>ae (n1.mp o) λH f k=>bY (mn t) λau y=>aw ?_;have z:a.names[e]? =J (s,.free):=nH x (kl F y);rw [f]at z;clear x f k y;cases z;refine bk (iS ay) λj Z az aA=>?_;have aa:=G _ t;rw [Z]at aa;clear Z az;obtain rfl:=Qj aa;exact bQ (i.ON q d _ .cell Y aA (.inl rfl)) λb aB m g w=>⟨b,aB,n0 m _ _ (.inl t),W g,w⟩
  ·by_cases A:e<a.names.length
   ·rw [RL,Qt A]at hv;cases hv
   ·rw [RL,Qs A]at hv;cases hv
end
section
variable{E:Bool}
theorem aI.Pp(j:aI b a h e c u)(k:u.get? i=none):e i=none∧c i=none:=by
 constructor
 ·generalize d:e i=f;induction f using Qm with
  |none=>rfl
  |some g=>have:=(j.Oa i g d).1;rw [k]at this;exact ag this
 ·generalize d:c i=f;induction f using Qm with
  |none=>rfl
  |some g=>refine bY ((j.mt i g d).some_get) λl aj=>?_;rw [k]at aj;exact ag aj
theorem aS.P5(a:aS e c d hn fw M){f:aK}(g:d.heap.get? i=U):aS e c d hn (fw.set i f) M:=
 ⟨a.mono,λh j b k=>by
  refine bf (a.same h j b k) λl m n=>?_;exact(bw l (by unfold I.set;refine Q (Qs (by rintro rfl;rw [g]at b;exact ag b) ..) ?_;exact m) n),a.gens,a.os⟩
theorem aS.P6(a:aS e c d hn fw M){j:Tp}(h:hn i=U)(k:d.heap.get? i=U):aS e c d (hn.put i j) fw M:=
 ⟨λb l f=>ax.O4 h _ _ (a.mono b l f),λb m g f=>by
  refine bf (a.same b m g f) λn o p=>?_;exact(bw n o ((ax.OX _ _ (by clear h;rintro rfl;rw [k]at g;exact ag g)).trans p)),a.gens,a.os⟩
theorem uX{u:ax}{v:I}{n:Ql}{d:ax}{e:I}{f:Ql}{c:Qo}{o:List V}{j:List Qk}{r:Nat}{w:aD}{x:Prop}(y:aS u v n d e f)(z:aI b a h d e f.heap)(A:n.heap.get? c=U)(B:f.heap.get? c=J (listOf j.toArray r))(C:bh d o j)(k:d c=U)(D:e c=U)(s:eW o w e)
  (E:∀p m g,w p m→(∀i q,d i=J q→g i=J q)→aS u v n g m f→aI b a h g m f.heap→ah g p (.ref c)→(∀l,l≠c→g l=d l∧m l=e l)→x):x:=by
 rcases s.2 with hv|hv
 ·refine E (.ref c) _ d (hv c D) (λG G H=>H) (y.P5 A) (z.add k ⟨j,r,B,C,s.1⟩) (.ref _) λl t=>⟨rfl,by unfold I.set;exact Q (Qs t ..) rfl⟩
 ·have F:=ax.O4 (b:=listOf j.toArray r) k;exact E (.lst o) e _ hv F (y.P6 k A) (z.O7 B D k) (.lst (ax.O6 ..) (C.mono F) s.1) λl t=>⟨ax.OX _ _ t,rfl⟩
theorem C7(d:n[z]? =J (j,NameKind.local)):jy b a h r M4 n (.Name j as) Qp [z]:=by
 intro s t u v w x y A N e f c B C g;obtain rfl:=Qj c;exact assign_Name (qH d N e f λi k l m o bq=>g i k l (λp D c q=>(m.2 p c).trans q) o bq)
theorem uY(d:∀j∈n,j.2≠RD)(e:∀(z:Nat) (j:QA),n[z]? =J (j,NameKind.local)→Ng[z]? =J (j,NameKind.local)):∀{MR:List Nat},jr n b2=J MR→
  aM (λH z=>uS y H z Ng) ((Te b2 y).map (·.2)) MR∧∀z∈MR,∃j,n[z]? =J (j,NameKind.local):=by
 induction b2 with
 |nil=>intro MR a;obtain rfl:=Qj a;exact⟨.nil,λr a=>‹fu a›⟩
 |cons b s f=>
  intro MR a;refine j1 (nX a) λj t z u g h i k=>?_;subst g;clear a;subst k;refine ar (f i) λl m=>?_;have c:=tV d h;exact⟨.cons ⟨_,e _ _ c,λo=>assign_Name o⟩ l,λp q=>(QX.mp q).elim (λb=>⟨j,by refine Q (b ..) ?_;exact c⟩) (m p)⟩
theorem C8(o:bZ C r){p:Nat}(e:jr n b2=J MR)(q:∀j∈n,j.2≠RD)(s:∀(z:Nat) (j:QA),n[z]? =J (j,NameKind.local)→Ng[z]? =J (j,NameKind.local)):
  jy b a h r M4 Ng (.Tuple b2 p as) Qq MR:=by
 intro V W X Y t Z aa ab N u f c ad af v;refine bE λag w=>ae (nY c) λah d c=>?_;subst d;refine iC (p9 N f) λai x T d g y i aj=>?_;clear f;subst d;refine cY (uE (y:=M4) e) λg A B D=>ar (uY (y:=M4) q s e) λE g=>w (Q (arm_assign_Tuple ..) (Qn (Rf ?_)));unfold unpack;refine Q (A ..) (Qn (Q4 ?_));have F:(Te b2 M4).length=x.toArray.size:=by exact Q (B ..) (Q (D ..) (Q (qv c ..) (Q (Ra ..) (Q (i.length ..) rfl))))
 exact Q (F ..) (SJ o.1 ⟨_,y,rfl,T,rfl⟩ λG k=>ar (qw N k) λH I=>C2 E (d:={t with heap:=G}) I (u.ext H) i c λK L M O P bq=>v K L M (λl R S m=>(O.2 l S).trans (k l R (RA (Rs m)) m)) P bq)
theorem C9(f:iO MM=Qp)(g:iP n MM.names=some M1)(h:MM.names[z]? =some (j,NameKind.local)):((gN M1 MM.names.length t)[z]?).join=none:=by
 refine bf (lj f) λr i s=>ar (qJ g) λk u=>?_;generalize hv:((gN M1 MM.names.length t)[z]?).join=l;induction l using Qm with
 |none=>rfl
 |some v=>
  unfold gN at hv;rcases n2 M1 _ hv with⟨m,o,w⟩|hv
  ·refine bk (k z m o) λp a b q=>bY (mn a) λx c=>?_;have d:MM.names[z]? =some (p,.free):=nH b (kl i c);rw [h]at d;clear a b q c;cases d
  ·by_cases e:z<MM.names.length
   ·rw [RL,Qt e]at hv;cases hv
   ·rw [RL,Qs e]at hv;cases hv
set_option tactic.hygienic true in
theorem uZ(H:iO MM=Qp)(af:iP n MM.names=some M1)
  (I:gQ b a h cl x w C n be M2)(ay:bj b a h (bc b a h cl) x w C (ej MM.names) M5 D)(az:∀{r:QN}{M4:Sj},bZ C r→jy b a h r M4 (ej MM.names) ud M8 MY)(aA:∀z∈MY,∃j,MM.names[z]? =some (j,NameKind.local))
  (K:bZ C r)(aB:aI b a h e c d.heap)(ah:bg r y n t e c d.heap lb){N:aD}{ai:aV}{P:Qk→Qo→Q8→Ql→Prop}
  (aC:hR x w M2 t (λv fw=>fS (λm2 ht hx bi=>av x w D m2 ht hx bi) M8 MY (gN M1 MM.names.length t) v [] N (λZ=>False) fw) ai c)
  (aE:∀MT hc L ap a2 k M0 bl hn fw M ca,eW L N fw→aS e c d M0 bl k→aS M0 bl k hn fw M→aI b a h hn fw M.heap→M.heap.get? MT=some (listOf ap.toArray a2)→bh hn L ap→hn MT=none→fw MT=none→k.heap.get? MT=none→k.heap.get? hc=none→MT≠hc→hn hc=none→fw hc=none→M.heap.Ns hc ca→P (.ref MT) hc (.ok .next) M)
  (aF:fU (bc b a h cl) e c d r ai hx):
  QQ (QO b a) r (TD be y) (λj MP=>QQ (QO b a) r (V8 j) (λcn bd=>QQ (QO b a) r (newList []) (λL cp=>QQ (QO b a) r (newFunctionEnv MM y.globals (gR y MM.names []) [] y.qual none .none (some y)) (λM4 ep=>
    Ub (QO b a) r (.compStart (.ListComp M5 [⟨ud,be,[],0⟩] MM l2) 0 cn L {M4 with scope:=relabel MM y}) (P L M4.locals) ep) hx cp) hx bd) hx MP) hx d:=by
 refine bf (lj H) λaG a1 aH=>I K aB ah aC ?_ aF;intro v bl k l aj M0 R a3 aJ ak s al S aK aL p T aM;refine wpAny_newObj_type (wpAny_newFunctionEnv aH (by intro a4 aN;simp at aN) (λu V W=>?_) aG);dsimp only at V W⊢;generalize am:l.push {cls:=.type "list",dict:=none,data:=.seq ([]:List Qk).toArray}=H2 at V W⊢;have an:l.get? l.objs.size=none:=li;have A:H2.get? H2.objs.size=none:=li;have X:H2.get? l.objs.size=some (listOf ([]:List Qk).toArray 0):=by refine Q (Rj (am ..)) ?_;exact Rg _ rfl
 have ao:l.objs.size≠H2.objs.size:=by intro f;rw [f,A]at X;exact ag X
 have q:∀i g,l.get? i=some g→H2.get? i=some g:=λi g f=>by refine Q (Rj (am ..)) ?_;exact QT _ f
 have B:∀i g,H2.get? i=some g→u.get? i=some g:=λi g f=>W.extBut i g (by rintro rfl;rw [A]at f;exact ag f) (QT _ f);have Y:∀i g,k.heap.get? i=some g→u.get? i=some g:=λi g f=>B _ _ (q _ _ (S _ _ f));have aO:∀E,H2.get? E=none→k.heap.get? E=none:=λE f=>by
  generalize aa:k.heap.get? E=ab;induction ab using Qm with
  |none=>rfl
  |some g=>have:=q _ _ (S _ _ aa);rw [f]at this;exact ag this
 have F:=aO _ A;have G:k.heap.get? l.objs.size=none:=by
  generalize aa:k.heap.get? l.objs.size=ab;induction ab using Qm with
  |none=>rfl
  |some g=>have:=S _ _ aa;rw [an]at this;exact ag this
 refine dY (p.obj _ _ T) λa5 a6 ad Z=>?_;have aq:l.objs.size≠R:=by intro f;rw [←f,an]at ad;exact ag ad
 have ar:R≠H2.objs.size:=by intro f;have:=q _ _ ad;rw [f,A]at this;exact ag this
 have as:=s.Pp F;have aP:=C6 (B:=M1) H af (ah.ext ak) F ⟨as.1,as.2⟩ Y V;have au:Ub (QO b a) r (.compLoop (.ListComp M5 [⟨ud,be,[],0⟩] MM l2) 0 (.ref R) (.ref l.objs.size) (compEnvC MM (gR y MM.names []) H2.objs.size y)) (P (.ref l.objs.size) H2.objs.size) {k with heap:=u,toks:=aj+([]:List (QA×Qk)).length}:=by
  refine C3 (o:=compEnvC MM (gR y MM.names []) H2.objs.size y) (n:=ej MM.names) K G al F aq ao ar p aM ay (az K) (λz I=>let⟨j,o⟩:=aA z I;C9 H af o) (Y:=N) (q:=k) (v:=M0) (A:=bl) ?_ (e:=M0) (c:=bl) ?_ aJ
  ·intro L aQ aR bd aT m aw o;refine bY m.PO λax ae=>dY m.lst λap a2 aU aW=>?_;have aX:aw.Ns H2.objs.size ax:=by
    exact lT ae.ns λg O aY aZ a0=>⟨g,O,aY,o _ _ (RY ar) aZ,a0⟩
   exact aE _ _ L ap a2 k M0 bl aQ aR {bd with heap:=aw} ax aT ak (m.ext.but (D:=bd.toks) al o) (m.Pc.but o m.Pd.1 m.Pd.2) (o _ _ aq aU) aW m.Po.1 m.Po.2 G F ao ae.own.1 ae.own.2 aX
  ·exact⟨.grown Y,s.grow Y,⟨_,aP⟩,(gg [] 0 (B _ _ X) .nil),⟨(s.Pp G).1,(s.Pp G).2⟩,⟨aK,aL⟩,p.dep _ _ _ T (λg f=>B _ _ (q _ _ f)),rfl⟩
 refine codeAny_compStart_list au (p.self (z:=0) (d:={k with heap:=u,toks:=aj+([]:List (QA×Qk)).length}) (p.dep _ _ _ T (λg f=>B _ _ (q _ _ f))) au)
end
section
variable{E:Bool}
theorem u0(b:(MW.names.map (·.1)).Nodup):∀j∈MW.names,j.2=.local→MW.names.lookup j.1=J .local:=by
 rintro⟨j,c⟩ a d;refine bY (mn a) λf e=>?_;clear a;cases(show c=NameKind.local from d);exact kl b e
theorem u1(a:iP n MM.names=J M1)(b:bg r y n t e c u lb):∀j,(j,Q2)∈MM.names→(y.cells.lookup j).isSome=Qp:=by
 intro j d;refine ar (qJ a) λh f=>dY (b.cells j .cell (uW (f j d)) (.inl rfl)) λi k g l=>Q (g ..) ?_;rfl
theorem Db(g:iO MM=Qp)(i:iP n MM.names=J M1)(s:h3 be=Qp)
  (u:gQ b a h cl x w C n be M2)(y:bj b a h (bc b a h cl) x w C (ej MM.names) M5 D)(A:∀{r:QN}{M4:Sj},bZ C r→jy b a h r M4 (ej MM.names) ud M8 MY)(E:∀z∈MY,∃j,MM.names[z]? =J (j,NameKind.local))
  (F:∀{t:aq}{o:List V→I→Prop}{B:aV}{c:I},av x w M7 t (λp bl=>cm (hO L p bl) λv=>o v bl) B c→hR x w M2 t o B c):
  bj b a h (bc b a h cl) x w C n (.ListComp M5 [⟨ud,be,[],0⟩] MM l2) (.comp D MY M8 L M7 M1 MM.names.length):=by
 intro r aD t aE c aF aG G N k o B H K M O P;refine bf (lj g) λR S aH=>Q (eval_ListComp ..) (VH (use:=U) rfl (λj=>qE s) (uQ (u1 i k)) R (u0 S) (uZ g i u y A E G N k (N:=o) (ai:=B) (P:=λl e=>compPost (QO b a) r K U H l e) (F M) ?_ P));intro T e l aI aJ aK aL bl aM aN m W X Y Z aa ab ad ae af ag ah ai aj ak al;refine⟨W,al,λam an=>?_⟩;refine uX Z aa ag ab ad ae af X λp ao ap as aO au aw ax ay=>ar (ay e (RY ai)) λaz aA=>?_;have q:∀d f,d≠e→m.heap.get? d=J f→am.get? d=J f:=λd f aB aC=>(an.2 d aB).trans aC;exact O p ao (.ref T) _ ap as (Y.trans (au.but (D:=m.toks) ah q)) (aw.but q (az.trans aj) (aA.trans ak)) ax
set_option tactic.hygienic true in
theorem Dc{i:Si}(T:iO MM=Qp)(W:iP n MM.names=J M1)(ak:h3 be=Qp)
  (al:gQ b a h cl x w C n be M2)(am:bj b a h (bc b a h cl) x w C (ej MM.names) M5 D)(an:∀{r:QN}{M4:Sj},bZ C r→jy b a h r M4 (ej MM.names) ud M8 MY)(ao:∀z∈MY,∃j,MM.names[z]? =J (j,NameKind.local))
  (ap:∀{t:aq}{o:List V→I→Prop}{B:aV}{c:I},av x w M7 t (λp bl=>cm (hO bd p bl) λv=>o v bl) B c→hR x w M2 t o B c)
  (au:c1 n j=J z)(X:n.lookup j=J .local)(aw:i.line=l2.line)(ax:(MM.names.any λs=>s.1==j&&(s.2== .local||s.2== .cell))=Qq):
  ek b a h cl x w C E n (.Assign [.Name j i] (.ListComp M5 [⟨ud,be,[],0⟩] MM l2) as) (.asg (.name z) (.comp D MY M8 bd M7 M1 MM.names.length)):=by
 intro r f t bb c bg ay az N k bh o B Y aA aB aC aD;refine bf (lj T) λaE aF bi=>?_;have aG:n[z]? =J (j,NameKind.local):=by
  refine bk (iS au) λaH Z aI aJ=>?_;rw [X]at Z;clear aI;obtain rfl:=Qj Z;exact aJ
 have aK:f.blockKind=.function:=by unfold Env.blockKind;refine Q (k.kind ..) ?_;rfl
 have aL:f.kindOf j=J .local:=by unfold SO;refine Q (k.names ..) ?_;exact X
 have aM:swapsWith (.ListComp M5 [⟨ud,be,[],0⟩] MM l2) (J (.Name j i)) as.line f=pure Qp:=by
  show(pure _:WJ Bool)=pure Qp;congr 1;refine Q (aK ..) (Q (aL ..) ?_);have l:(i.line==(PySem.Expr.ListComp M5 [⟨ud,be,[],0⟩] MM l2).pos.line)=Qp:=by refine Q (aw ..) ?_;exact R9 _
  refine Q (l ..) ?_;simp only [Ry];refine⟨⟨⟨by decide,by decide⟩,trivial⟩,?_⟩;exact Q (Wq ..) ax
 refine Q (exec_Assign_Name_used _ _ _ _ aM ..) (Qn (Rf (Qn ?_)));show QQ _ r (do let _ ←comprehension (.ListComp M5 [⟨ud,be,[],0⟩] MM l2) MM f _ (newList []) Qq (TD be f) (J (T8 (.Name j i) f))) _ _ ay;refine Qn (Sg (VH (use:=J (T8 (.Name j i) f)) (Q:=λg y=>Y .next y) rfl (λj=>qE ak) (uQ (u1 W k)) aE (u0 aF) ?_) (λg y A=>QM (QM A)) λg g s=>s);refine uZ T W al am an ao az N k (P:=λaa m=>compPost (QO b a) r aA (J (T8 (.Name j i) f)) (λg y=>Y .next y) aa m) (ap aB) ?_ (aD.ex k);intro bm m aa bn aH bo bp bl br bs aN aO A F aP aQ aR aS aT aU aW G H K L M;refine uX aP aQ aW aR aS aT aU A λp ab aX aY bt q aZ a0 a1=>ar (a1 m (RY H)) λl O=>?_;have a2:=(k.ext F).ext q;refine assign_Name (qH aG aZ a2 a0 λad bu bv ae a3 bq=>?_);have af:=k.ext F;have ah:m≠f.locals:=by clear H K L M l O;rintro rfl;refine lT af.ns λe g g aj g=>?_;rw [G]at aj;exact ag aj
 refine⟨aO,M.sameBut ae ah,λa4 P=>?_⟩;have R:∀d e,d≠m→ad.get? d=J e→a4.get? d=J e:=λd e u a5=>(P.2 d u).trans a5;have a6:∀d e,aN.heap.get? d=J e→ab d=U→d≠f.locals→ad.get? d=J e:=λd e aj g u=>(ae.2 d u).trans aj;refine aC .NX _ ab .next _ aX _ aY ?_ (a3.but R (l.trans K) (O.trans L)) (af.P4 G bq λd u=>P.2 d u) .NX;refine F.Oh.trans ⟨q.mono,λd e S a7 a8 bx=>?_,q.gens,q.os⟩;exact bf (q.same d e S a7) λa9 ai ba=>(bw (R d e (by clear H K L M l O ah P R;rintro rfl;rw [G]at S;exact ag S) (a6 d e a9 ai a8)) ai ba)
end
section
variable{Nn:Array GenState}{C:Drawn}{D:Nat}{NA:Sk}
variable{n hv:QA}{ND:Qo}{Nh Nq:List Qk}{NE:Bool}{NF:List QA}{bV:List Qk}{NG:Bool}{NH:Option Bool}{b7:Option Qo}{Nu NL NI NJ NK:Option Qk}{Ns NB NM:String}{NN:List Qk}
structure jz(Ns:String)(Nq:List Value):Prop where
 b:Nq.contains (.type Ns)=true
 base:Nq.contains (.type "BaseException")=true
 attr:Nq.contains (.type "AttributeError")=false
 name:Nq.contains (.type "NameError")=false
theorem Dd(a:TY Ns NB NM NN)(d:jz Ns Nq){c:Unit→Ql→Prop}(b:u.get? hc=J (S4 n hv hc ND Nh Nq NE NF bV NG NH b7 Nu NL NI NJ NK NB))
  (e:c () ⟨u,Nn,C,D,NA⟩):QQ Nt r (TS NB ⟨.ref hc::rest,[]⟩) c B ⟨u,Nn,C,D,NA⟩:=by
 have f:(Sr hc::Nq).contains (.type Ns)=Qp:=by exact Q (Sq ..) (Q (d.b ..) (Q (Ui ..) rfl))
 have g:=a.noStar;simp only [TS,a.newKind,a.newSplit,a.newRow];repeat(first|refine RP b ?_|(refine SN b ?_;refine Q (f ..) ?_)|refine wpAny_staticBase_exc b ?_|refine wpAny_madeBy_exc b ?_|simp only [bne_self_eq_false,Rd,Sx]|wp_step)
 exact e
theorem cC(c:TY Ns NB NM NN)(d:jz Ns Nq){e:List Qk}(f:u.get? hc=J (S4 n hv hc ND Nh Nq NE NF bV NG NH b7 Nu NL NI NJ NK NB))
  (g:no (.ok (.ret (.ref (u.objs.size+1)))) ⟨(u.push {cls:=.type "tuple",data:=.seq e.toArray}).push
   {cls:=.ref hc,data:=.fields #[.ref u.objs.size,.none,.none,.none,.bool Qq,.none]},Nn,C,D,NA⟩)(k:e.length≤Tl):
  Ub (QO b a) r (.builtin NB ⟨.ref hc::e,[]⟩) no ⟨u,Nn,C,D,NA⟩:=by
 have l:=c.ends;have h:(Sr hc::Nq).contains (.type Ns)=Qp:=by exact Q (Sq ..) (Q (d.b ..) (Q (Ui ..) rfl))
 have i:(Sr hc::Nq).contains (.type "AttributeError")=Qq:=by refine Q (Sq ..) (Q (d.attr ..) ?_);rfl
 have j:(Sr hc::Nq).contains (.type "NameError")=Qq:=by refine Q (Sq ..) (Q (d.name ..) ?_);rfl
 refine codeAny_builtinAt c.entry ?_;unfold Builtin.«BaseException.__new__»;refine PySem.wpAt_bind ?_;show PySem.wpAt _ _ _ (stack>>=_) _ _ _;refine PySem.wpAt_bind (PySem.wpAt_stack λm o=>PySem.wpAt_of_wpAny ?_)
 wp_walk
 refine PySem.wpAt_of_wpAny (Q (c.owner ..) ?_);repeat(first|with_reducible refine wpAny_madeHere_exc c.canon f ?_|with_reducible refine RP f ?_|(with_reducible refine SN f ?_;first|rw [h]|rw [i]|rw [j])|wp_step)
 show no _ _;exact Q (Heap.size_push ..) g
theorem De(g:TY Ns NB NM NN)(h:jz Ns Nq){i:Fin→Ql→Prop}(k:it.In u)(l:Sb it (.ref hc) "__init__" =J (J (.ref a9)))
  (c:u.get? hc=J (S4 n hv hc ND Nh Nq NE NF bV NG NH b7 Nu NL NI NJ NK NB))
  (m:u.get? a9=J L)(o:L.cls=.type "function")
  (p:∀ho s,Heap.MadeExcOf u ho s (.ref hc) rest→
   QQ (QO b a) r (TE (.ref a9) (.ref s::rest)) (λE M=>E=.none∧i (.done (.ret (.ref s))) M) B ⟨ho,Nn,C,D,NA⟩)(q:rest.length≤Tl):
  QQ (QO b a) r (Builtin.«type.__call__» ⟨.ref hc::rest,[]⟩) i B ⟨u,Nn,C,D,NA⟩:=by
 repeat(first|with_reducible refine RP c ?_|with_reducible refine wpAny_madeBy_exc c ?_|wp_step)
 refine codeAny_call_builtin_code (V2 _ g.quiet) (Dd g h c ?_);refine cC g h c ?_ q;show QQ _ _ _ _ _ _;have f:∀d e,u.get? d=J e→((u.push {cls:=.type "tuple",data:=.seq rest.toArray}).push
   {cls:=.ref hc,data:=.fields #[.ref u.objs.size,.none,.none,.none,.bool Qq,.none]}).get? d=J e:=λd e s=>QT _ (QT _ s)
 have t:=f _ _ c;have v:=f _ _ m;have j:((u.push {cls:=.type "tuple",data:=.seq rest.toArray}).push
   {cls:=.ref hc,data:=.fields #[.ref u.objs.size,.none,.none,.none,.bool Qq,.none]}).get? (u.objs.size+1)=J
   {cls:=.ref hc,data:=.fields #[.ref u.objs.size,.none,.none,.none,.bool Qq,.none]}:=by heap_get
 have w:(Sr hc::Nq).contains (.ref hc)=Qp:=by simp
 unfold isInstance;repeat(first|with_reducible refine RP j ?_|(with_reducible refine SN t ?_;refine Q (w ..) ?_)|wp_step)
 show QQ _ _ (typeLookup (.ref hc) _) _ _ _;refine(T1 (k.keeps f) l).here (Q4 (Qn ?_));unfold bindSpecial;refine Qn (wpAny_typeOf (T:= "function") ⟨_,v,o⟩ ?_);refine Q (Qt (by decide) ..) (QM (Qn (Sg (p _ (u.objs.size+1) ⟨λd e x=>f d e x,Vz (Q1 _),u.objs.size,j,Vz (Qu _),?_⟩) (λE M y=>?_) λz z A=>A)))
 ·exact QT _ (Wh rfl rfl)
 ·refine ar y λF G=>?_;subst F
  wp_walk
  exact G
theorem Df(d:TY Ns NB NM NN)(e:jz Ns Nq)(f:it.In u)(g:Sb it (.ref hc) "__init__" =J (J (.ref a9)))
  (c:u.get? hc=J (S4 n hv hc ND Nh Nq NE NF bV NG NH b7 Nu NL NI NJ NK NB))
  (h:u.get? a9=J k)(i:k.cls=.type "function")
  (j:∀ho s,Heap.MadeExcOf u ho s (.ref hc) rest→
   QQ (QO b a) (r.under (.builtin "type.__call__" ⟨.ref hc::rest,[]⟩)) (TE (.ref a9) (.ref s::rest)) (λE M=>E=.none∧o (.ref s) M) B ⟨ho,Nn,C,D,NA⟩)(l:rest.length≤Tl):
  QQ (QO b a) r (TE (.ref hc) rest) o B ⟨u,Nn,C,D,NA⟩:=by
 have p:=tc_lookup;have q:=tc_bind (.ref hc);have t:(⟨u,Nn,C,D,NA⟩:Ql).TypeIs (.ref hc) "type" :=⟨_,c,rfl⟩;refine TX (codeAny_of_tree ?_);show QQ _ _ (callAny (.ref hc) _) _ _ _;repeat(any_goals(first|assumption|with_reducible refine RP c ?_|wp_step))
 refine⟨rfl,?_⟩;refine codeAny_call_builtin_at (V2 _ (by decide+kernel)) entry_typeCall (wpAny_check_type_call_sub c (De d e f g c h i (λho s m=>?_) l));exact j ho s m
theorem Dg(d:TY Ns NB NM NN)(t:jz Ns Nq){e:Qo}{f:Array Qk}{c:List Qk}(i:u.get? hc=J (S4 n hv hc ND Nh Nq NE NF bV NG NH b7 Nu NL NI NJ NK NB))
  (j:u.get? e=J g)(v:g.cls=.ref hc)(k:g.data=.fields f)(l:f[0]? =J (.ref t0))(w:c.length≤Tl)
  (h:o .none ⟨(u.push {cls:=.type "tuple",data:=.seq c.toArray}).update e (Tv (·.setIfInBounds 0 (.ref u.objs.size))),Nn,C,D,NA⟩):
  QQ (QO b a) r (TE (.builtin NM) (.ref e::c)) o B ⟨u,Nn,C,D,NA⟩:=by
 have x:(Sr hc::Nq).contains (.type Ns)=Qp:=by exact Q (Sq ..) (Q (t.b ..) (Q (Ui ..) rfl))
 have A:=d.noStar;have b5:∀{m:Model}{r:QN}{o:Unit→Ql→Prop}{B:Qk→Ql→Prop},o () ⟨u,Nn,C,D,NA⟩→QQ m r (TS NM ⟨.ref e::c,[]⟩) o B ⟨u,Nn,C,D,NA⟩:=by
  intro m r o B h;simp only [TS,d.initKind,d.initSplit,d.initRow];repeat(first|(with_reducible refine RP j ?_;refine Q (v ..) ?_)|with_reducible refine RP i ?_|(with_reducible refine SN i ?_;refine Q (x ..) ?_)|wp_step)
  refine wpAny_onRaise ?_;rw [show∀(p q:String) (T:Nat),Bind.check ⟨.positional, "*",Ns,.self,[⟨"args",.varPos,Qq⟩]⟩ p q T (List.map (λy=>y.fst) ({pos:=Sr e::c}:Args).kw)=pure ()from
   λp q T=>check_star_args _ _ _ _ _ _]
  exact QM h
 refine TX (WE d.init.plain d.initEntry (b5 ?_));have s:(u.push {cls:=.type "tuple",data:=.seq c.toArray}).get? e=J g:=QT _ j;have z:0<f.size:=(UJ.mp l).1;unfold Builtin.«BaseException.__init__»;simp only [List.isEmpty_nil,Bool.not_true,Rd,Sx];unfold newTuple VS;refine Qn (wpAny_newObj_type ?_ (by show c.toArray.size≤Tl;refine Q (Ra ..) ?_;exact w));refine Qn (Qn (WC s k l (Qn (wpAny_setField s k z (wpAny_letGo ?_)))));exact QM h
end
section
variable{j:Qo}{Np:QA}{p:Qk}
theorem Dh{f:Tp}{i:Array Qk}{t:Unit→Ql→Prop}(g:it.In d.heap)(k:d.heap.get? j=some f)(u:f.cls=.ref hc)(v:f.dict=none)(w:f.data=.fields i)
  (G:Sb it (.ref hc) "__setattr__" =some (some (.builtin "object.__setattr__")))(n:clsIn it hc=some M6)(H:M6.hasDict=Qp)(I:∀L,refuseLoop L "__setattr__" M6.mro=pure ())(K:M6.mro.contains (.type "object")=Qp)(M:M6.mro.isEmpty=Qq)
  (N:T3 it hc Np=some none)
  (O:∀ho ap,(∀l q,l≠j→d.heap.get? l=some q→ho.get? l=some q)→(∃ua,ho.get? j=some {f with dict:=some ua})→t () {d with heap:=ho,toks:=ap}):QQ (QO b a) r (setAttr (.ref j) Np p) t B d:=by
 obtain⟨aa,ab,ad,o⟩:=f;dsimp only at u v w;subst u v w;have s:We d.heap j ⟨.ref hc,none,.fields i,o⟩ hc none:=⟨k,rfl,rfl,trivial⟩;refine set_plain g s G ?_;have h:=PySem.F.store_object;have x:We ({d with toks:=d.toks+1}:Ql).heap j ⟨.ref hc,none,.fields i,o⟩ hc none:=s;have bV:VL (QO b a) d.heap (isInstance (.ref j) (.type "object")) Qp:=s.type.andThen (looks_mroIn g (by unfold mroIn;rw [n,Tu,Qs (by rw [M];decide),K]));refine WE h.slot.plain h.entry (@check_slot (QO b a) _ _ {d with toks:=d.toks+1} "object.__setattr__" "object" "__setattr__" (.ref j) [.str Np d.toks,p] [] _ h.kind h.split bV (h.args (.ref j) (.str Np d.toks) p) ?_);refine ae (Q7.mp N) λy z P=>?_;have R:VL (QO b a) d.heap (mroOf (.ref hc)) M6.mro:=(Vp g n).andThen .now;have S:VL (QO b a) d.heap (Wt y) none:=by
  clear z;induction y using Qm with
  |none=>exact .now
  |some af=>
   refine ae (SV.mp P) λl m c=>(looks_takesIn g m).andThen ?_;clear m;induction l using Qz
   ·exact .now
   ·cases c
 refine Q (osa_eq ..) (Q (refuse_eq ..) ?_);refine Qn (Qn (x.type.here (Qn (R _ _ _ _ (λe e c=>c) ?_))));refine Q (I ..) (QM (Qn (x.type.here (Qn (T1 g z _ _ _ _ (λe e c=>c) (Qn (S _ _ _ _ (λe e c=>c) ?_)))))));dsimp only;refine Qn (QM (Qn (Qn (Vi k (Qn (Vp g n _ _ _ _ (λe e c=>c) ?_))))));refine Q (H ..) ?_;have A:(d.heap.push {cls:=.type "dict",data:=.dict #[]}).get? j=some ⟨.ref hc,none,.fields i,o⟩:=QT _ k;have C:j≠d.heap.objs.size:=RA (Rs k);show QQ _ _ (alloc {cls:=.type "dict",data:=.dict #[]}>>=λD=>update j (λq=>{cls:=q.cls,dict:=some D,data:=q.data,slots:=q.slots})>>=λe=>dictMade (.ref hc) j D) _ _ _;refine Qn (wpAny_alloc (Qn (wpAny_update A (QM ?_))));have T:((d.heap.push {cls:=.type "dict",data:=.dict #[]}).update j λq=>{cls:=q.cls,dict:=some d.heap.objs.size,data:=q.data,slots:=q.slots}).get? d.heap.objs.size
   =some {cls:=.type "dict",data:=.dict #[]}:=
  (VO _ _ _ _ C.symm).trans (Wh rfl rfl)
 have V:((d.heap.push {cls:=.type "dict",data:=.dict #[]}).update j λq=>{cls:=q.cls,dict:=some d.heap.objs.size,data:=q.data,slots:=q.slots}).Ns d.heap.objs.size (λe=>none):=
  ⟨_,#[],_,T,rfl,λc W=>Rz W (by simp),λe=>rfl⟩
 show QQ _ _ (Tx d.heap.objs.size (.str Np d.toks) Np p) _ _ _;unfold Tx Wu;refine Qn (QM (Qn (wpAny_nsSet1 (Heap.Ns1.of_empty V) λho X E=>?_)));refine iA (X.count (Within.cons Np p Within.nil)) λag ah ai Y mo Z=>Qn (wpAny_lookBehind Y (by refine Q (mo ..) ?_;exact pastItsLine_dict (Qv Z (by refine Q (Qw ..) (Q (Rw ..) (Q (T6 ..) ?_));exact(aH 23756989)))) ?_);refine QM (O ho _ (λl q m F=>?_) ⟨d.heap.objs.size,?_⟩)
 ·exact(E.2 l (RA (Rs F))).trans ((VO _ _ _ _ m).trans (QT _ F))
 ·exact(E.2 j C).trans (Su _ A rfl)
end
section
variable{E:Bool}
theorem Di{c:String}{e:Qk}{f:Qk×List Qk→Ql→Prop}(g:it.In d.heap)(k:typeOf (.type c)=pure (.type "type"))(l:Manifest.isStub c=Qq)
  (m:findCls it (.type c) (.type "type") Np=J (.val e))(n:handedIn e=Qp)(o:f (e,[]) {d with toks:=d.toks+1}):QQ (QO b a) r (VY (.type c) Np pl) f B d:=by
 have p:UM (.type c)=pure U:=by unfold UM;dsimp only;refine Q (l ..) ?_;rfl
 have i:VL (QO b a) d.heap (typeOf (.type c)) (.type "type"):=Tw k;have j:Sb it (.type "type") "__getattribute__" =J (J (.builtin "type.__getattribute__")):=type_tga;unfold VY specialOf;refine Qn (Qn (i.here ((T1 g j).here ?_)));dsimp only;refine Q (Qt canon_tga ..) (Qn (Sg (Q:=λe=>f (e,[])) (E:=B) ?_ (λh h aj=>QM aj) λh h aj=>aj));have q:VL (QO b a) d.heap (UM (.type c)) U:=Tw p;refine cls_open g q i j (looks_hook g (r:=U) (by rfl)) (by show subIn it _ _=_;rfl) m
  (QM (by show QQ _ _ (handedOut e) _ _ _;refine Q (handedOut_of n ..) ?_;exact QM o))
structure jA(it:Frag)(h:Heap)(l0:Str→Option V)(hc a9:Addr)(M6:ClassData):Prop where
 Pm:it.In h
 Pz:hW h l0
 cls:∃n hv ND Nh Nq NE NF bV NG NH b7 Nu NL NI NJ NK,h.get? hc=some (excClassObj n hv hc ND Nh Nq NE NF bV NG NH b7 Nu NL NI NJ NK "Exception.__new__")∧jz "Exception" Nq
 init:findIn it (.ref hc) "__init__" =some (some (.ref a9))
 P7:findIn it (.ref hc) "__setattr__" =some (some (.builtin "object.__setattr__"))
 P8:takerIn it hc "text" =some none
 P9:clsIn it hc=some M6
 Qa:M6.hasDict=true
 pass:∀self,refuseLoop self "__setattr__" M6.mro=pure ()
 obj:M6.mro.contains (.type "object")=true
 ne:M6.mro.isEmpty=false
 exc:l0 "Exception" =some (.NS (.type "Exception"))
 Qb:findCls it (.type "Exception") (.type "type") "__init__" =some (.val (.builtin "Exception.__init__"))
theorem jA.PA{e:QA→Option V}{c f:Qo}{g:QJ}{d:Prop}(i:jA it h e c f g)(j:∀n hv ND Nh Nq NE NF bV NG NH b7 Nu NL NI NJ NK,h.get? c=J (S4 n hv c ND Nh Nq NE NF bV NG NH b7 Nu NL NI NJ NK "Exception.__new__")→jz "Exception" Nq→d):d:=
 i.cls.elim λb a=>a.elim λb a=>a.elim λb a=>a.elim λb a=>a.elim λb a=>a.elim λb a=>a.elim λb a=>a.elim λb a=>a.elim λb a=>a.elim λb a=>a.elim λb a=>a.elim λb a=>a.elim λb a=>a.elim λb a=>a.elim λb a=>a.elim λb a=>j _ _ _ _ _ _ _ _ _ _ _ _ _ _ _ _ a.1 a.2
theorem jA.find(i:jA it h l0 hc a9 M6)(d:aI b a h e c u):it.In u:=i.Pm.keeps λf g j=>(d.Oa f g (d.zero f g j)).1
theorem n3(g:(j==("__debug__" :QA))=Qq)(h:c1 n j=J z)(i:bg r y n t e c d.heap lb)(k:(t[z]?).join=J p)
  (l:∀f,ah e p f→ht f d):QQ (QO b a) r (TD (.Name j as) y) ht hx d:=wpAny_Name (p8 h i k l) g
theorem qK(v:hW h l0)(w:(j==("__debug__" :QA))=Qq)(x:n.lookup j=J .globalImplicit)(z:l0 j=J p)(l:aI b a h e c d.heap)(g:bg r y n t e c d.heap lb)
  (A:∀m,ah e p m→ht m d):QQ (QO b a) L (TD (.Name j l2) y) ht hx d:=by
 refine bQ v.at_ λH I s B C=>ae (C j p z) λm i D=>?_;have E:y.kindOf j=J .globalImplicit:=by unfold SO;refine Q (g.names ..) ?_;exact x
 have o:∀k f,h.get? k=J f→d.heap.get? k=J f:=λk f q=>(l.Oa k f (l.zero k f q)).1;have u:ht m d:=A _ (D.mono λF f q=>l.zero F f q);refine UG g.kind E ?_ w;rcases i with i|⟨G,i⟩
 ·exact UZ (by refine Q (g.glob ..) ?_;exact s.keeps o) i u
 ·exact UR (by refine Q (g.glob ..) ?_;exact s.keeps o) G (by refine Q (g.blt ..) ?_;exact B.keeps o) i u
theorem Dj{c e:Qy}(h:eX c=Qq)(i:eX e=Qq){f:Args→Ql→Prop}(g:QQ (QO b a) r (spliced (T7 l2 (SW [c,e] y))) (λv M=>f ⟨v,[]⟩ M) B d):
  QQ (QO b a) r (WD k Qp (T7 l2 (SW [c,e] y)) []) f B d:=by
 rw [jv h]at g⊢;exact TV g
set_option tactic.hygienic true in
theorem Dk{ab:QA→Option V}{o ad:Qo}{ae:QJ}(c:jA it h ab o ad ae){K:QN}{f:Sj}{t:aq}{u:ax}{v:I}{af:QA→Option Qk}{d:Ql}{e ag:Qo}{w:Array (Option Qk)}{p:QA}{L N:Nat}(k:aI b a h u v d.heap)(m:bg K f n t u v d.heap af)
  (x:d.heap.get? e=J ⟨.ref o,U,.fields #[.ref ag,.none,.none,.none,.bool Qq,.none],w⟩)(ai:u e=U)(aj:v e=U)(O:c1 n "self" =J L)(P:c1 n "text" =J N)(ak:n.lookup ("Exception" :QA)=J .globalImplicit)(R:(t[L]?).join=J (.NS (.ref e)))(S:(t[N]?).join=J (.str p))
  {T y z A j al B C W X:Si}(am:y.endLine=j.line){Y:VP→Ql→Prop}{an:Qk→Ql→Prop}
  (ao:∀M,M.gens=d.gens→M.os=d.os→(∀l q,l≠e→d.heap.get? l=J q→M.heap.get? l=J q)→(∃ua ap,M.heap.get? e=J ⟨.ref o,J ua,.fields #[.ref ap,.none,.none,.none,.bool Qq,.none],w⟩)→Y .next M):
  QQ (QO b a) K (execs [.Expr (.Call (.Attribute (.Name "Exception" T) "__init__" y) [.Name "self" z,.Name "text" A] [] j) al,.Assign [.Attribute (.Name "self" B) "text" C] (.Name "text" W) X] f) Y an d:=by
 have ar:UW f=Qq:=by unfold UW;refine Q (m.kind ..) ?_;rfl
 refine Td (Q (arm_exec_Expr ..) (Q (ar ..) (Q (qz rfl ..) ?_)));refine Qn (Rf ?_);simp only [Rd,Sx];refine Qn (QM ?_);simp only [Rd,Sx];refine Q (arm_eval_Call ..) (Q (qo rfl ..) ?_);refine Qn (Qn ?_);refine qK c.Pz rfl ak c.exc k m λaK as=>?_;induction as using ah.OK;refine Qn (Rf ?_);have au:Vk ([PySem.Expr.Name "self" z,.Name "text" A].length+([]:List Wg).length) (T7 j (SW [.Name "self" z,.Name "text" A] f)) (WF j (UV [] f))=Qp:=by rfl
 unfold methodCall;refine Q (au ..) (Qn (Q4 (Di (c.find k) (by rfl) (by decide+kernel) c.Qb rfl ?_)));refine Qn ?_;have av:Ut Qp (.Name "Exception" T) f y j=pure j:=by unfold Ut;refine Q (am ..) ?_;simp
 refine Q (av ..) (QM (Vr (P:=λaw=>True) rfl (λaL aw=>(aU .machine (.inr (.inl rfl)) (Tw rfl))) (Dj rfl rfl (TR (n3 (d:={d with toks:=d.toks+1}) rfl O m R λaM ay=>?_) (jv rfl)))));refine TR (n3 (d:={d with toks:=d.toks+1}) rfl P m S λaN az=>?_) (jv rfl);refine U3 ⟨trivial,?_⟩;induction ay using ah.OK;induction az using ah.PH;rename_i D;refine c.PA λaO g aP aQ aR aS aT bV aV aW b7 aX aY aZ a0 a1 aA aB=>?_;have aC:∀l q,h.get? l=J q→d.heap.get? l=J q:=λl q e=>(k.Oa l q (k.zero l q e)).1;obtain⟨i,E,F,G,H⟩:=d;refine Dg Ws aB (aC _ _ aA) x rfl rfl rfl (by show(1:Nat)≤Tl;refine Q (T6 ..) ?_;decide) ?_;have r:∀l q,l≠e→i.get? l=J q→((i.push {cls:=.type "tuple",data:=.seq [UY p D].toArray}).update e (Tv (·.setIfInBounds 0 (.ref i.objs.size)))).get? l=J q:=λl q s g=>
  (Vd _ _ (RY s)).trans (QT _ g)
 have Z:((i.push {cls:=.type "tuple",data:=.seq [UY p D].toArray}).update e (Tv (·.setIfInBounds 0 (.ref i.objs.size)))).get? e=J ⟨.ref o,U,.fields #[.ref i.objs.size,.none,.none,.none,.bool Qq,.none],w⟩:=
  Su _ (QT _ x) rfl
 generalize(i.push {cls:=.type "tuple",data:=.seq [UY p D].toArray}).update e (Tv (·.setIfInBounds 0 (.ref i.objs.size)))=h1 at r Z;refine wpAny_dropValue ?_;have aD:=k.but r ai aj;have aa:=m.but x (.inl rfl) r;refine Td ?_;have aE:swapsWithSole [PySem.Expr.Attribute (.Name "self" B) "text" C] (.Name "text" W) X.line f=pure Qq:=rfl;refine Ul ?_ aE (qA rfl (by intro a2 a3 g;cases g));refine Q (qB rfl ..) (n3 (d:=⟨h1,E,F,G+1,H⟩) rfl P aa S λaF a4=>?_);show QQ _ _ (T8 (.Attribute (.Name "self" B) "text" C) f aF) _ _ _;refine Q (WG ..) (Qn (Q4 (n3 (d:=⟨h1,E,F,G+1,H⟩) rfl O aa R λa5 aG=>?_)));induction aG using ah.OK;refine Qn (Rf (Qn (Q4 (Dh (d:=⟨h1,E,F,G+1,H⟩) (c.find aD) Z rfl rfl rfl c.P7 c.P9 c.Qa c.pass c.obj c.ne c.P8 λa6 a7 aH aJ=>VG ?_))));exact SX (ao _ rfl rfl (λl q s g=>aH l q s (r l q s g)) (let⟨ua,g⟩:=aJ;(j2 ua _ g)))
end
section
variable{E:Bool}
theorem Dl{g:QA}{h:List Qk}{i:Option Qo}{j k:Option Qk}{l:String}{c:WJ Qk}{m:VP→Ql→Prop}(n:jz "Exception" Nq)(o:r.handled=U)
  (q:QQ (QO b a) r c (λp MP=>∃s D ua fR,p=.ref s∧MP.heap.get? hc=J (S4 cn g hc ND Nh Nq NE NF h NG NH i j k NI NJ NK l)∧
   MP.heap.get? s=J ⟨.ref hc,J ua,.fields #[.ref D,.none,.none,.none,.bool Qq,.none],fR⟩∧B (.ref s) MP) B d):
  QQ (QO b a) r (raiseStmt y (J c) U) m B d:=by
 have t:(Sr hc::Nq).contains (.type "BaseException")=Qp:=by exact Q (Sq ..) (Q (n.base ..) (Q (Ui ..) rfl))
 unfold raiseStmt;refine Qn (Sg q (λp MP e=>?_) λu u c=>c);refine j1 e λs D ua fR v f w x=>?_;subst v;clear e;obtain⟨z,A,C,E,F⟩:=MP;repeat(first|with_reducible refine RP w ?_|with_reducible refine RP f ?_|(with_reducible refine SN f ?_;refine Q (t ..) ?_)|wp_step)
 exact wpAny_raiseNew_none o x
theorem Dm{a h:Qo}{i:Array (Option Qk)}(j:d2 r e c u)(k:u.get? a=none)(d:∀l q,u.get? l=some q→ho.get? l=some q)(f:ho.get? a=some ⟨.ref hc,some ua,.fields #[.ref h,.none,.none,.none,.bool Qq,.none],i⟩):gq r (.ref a) u (qs (.ref hc)) ho:=by
 refine ae j.at_ λg m n=>⟨g,Vx u (ao g),a,.ref h,m,rfl,λl q b o=>Vq _ b o,λl q b C=>⟨q.slots,d _ _ b⟩,λl q b=>d _ _ (TU _ b),?_,?_,_,_,f,rfl,rfl,rfl,rfl⟩
 ·generalize p:(Vx u (ao g)).get? a=s;induction s using Qm with
  |none=>rfl
  |some q=>have:=TU _ p;rw [k]at this;exact ag this
 ·refine d2.PM (e:=e) (c:=c) (λt f=>?_) λD v=>hideAll_none _ v;exact ar (n t f) λw x=>bQ x λy q z A B=>⟨w,y,q,z,d _ _ A,B⟩
theorem u6(o:jA it h l0 hc a9 M6)(al:h.NoLimit){d:Tp}{P R:Si}(am:P.endLine=R.line)
  (y:nV h a9 MK d u4 [.Expr (.Call (.Attribute (.Name "Exception" bi) "__init__" P) [.Name "self" ca,.Name "text" cn] [] R) cp,.Assign [.Attribute (.Name "self" ep) "text" hh] (.Name "text" hi) h1] ["self", "text"])(an:d.cls=.type "function")
  (S:c1 u4.scope.names "self" =J z)(V:c1 u4.scope.names "text" =J l1)(ao:u4.scope.names.lookup ("Exception" :QA)=J .globalImplicit)(W:MK.OB=[z,l1])(aq:z≠l1)(ar:MK.dflt=[])(as:Tf it (.ref hc)=Qp)
  (au:(j==("__debug__" :QA))=Qq)(av:n.lookup j=J .globalImplicit)(aw:l0 j=J (.NS (.ref hc))):
  ek b a h (.ref hc) x w C Qp n (.Raise (J (.Call (.Name j bd) [.Constant (.str g) T L] [] ap)) U l2) .raise:=by
 intro p X ax Y Z ay l aa N r a6 s A a7 a8 k az aA;refine o.PA λaB m aC aD aE aF aG bV aH aI b7 aJ aK aL aM aN B ab=>?_;have t:∀e d,h.get? e=J d→l.heap.get? e=J d:=λe d f=>(N.Oa e d (N.zero e d f)).1;refine Q (arm_exec_Raise ..) (Qn (Rf (Dl (g:=m) (cn:=aB) (ND:=aC) (hc:=hc) (Nh:=aD) (Nq:=aE) (NE:=aF) (NF:=aG) (h:=bV) (NG:=aH) (NH:=aI) (i:=b7) (j:=aJ) (k:=aK) (NI:=aL) (NJ:=aM) (NK:=aN) (l:= "Exception.__new__") ab aa.1 ?_)));have D:=o.find N;have ad:z<MK.size∧l1<MK.size:=by
  exact bk (iS S) λc c c E=>bk (iS V) λc c c e=>Q (y.size ..) ⟨(QE.mp E).1,(QE.mp e).1⟩
 refine Qn ?_;show QQ _ p (TD (.Call (.Name j bd) [.Constant (.str g) T L] [] ap) X) _ _ _;refine Q (qr (by intro d T ba k;cases k) ..) (Qn (qK o.Pz au av aw N r λbb aO=>?_));induction aO using ah.OK;refine Vr (P:=it.In) rfl (λk aP=>keeps_K as k aP) ?_;have bL:∀{s:Args→Ql→Prop}{A:Qk→Ql→Prop},(s ⟨[.str g l.toks],[]⟩ {l with toks:=l.toks+1})→QQ (QO b a) p (WD (.ref hc) Qp (T7 ap (SW [.Constant (.str g) T L] X)) []) s A l:=by
  intro s A k;refine Q (jv (s:=.Constant (.str g) T L) rfl ..) (TV (TR (e:=.Constant (.str g) T L) (λc c c=>?_) (jv rfl)));exact U3 k
 refine bL ⟨D,?_⟩;obtain⟨af,F,ai,u,G⟩:=l;refine Df Ws ab D o.init (t _ _ B) (t _ _ y.obj) an (λaj f i=>?_) (by show(1:Nat)≤Tl;refine Q (T6 ..) ?_;decide);refine ae i.there λbc H c=>?_;have aQ:=N.grow i.keeps;have v:=N.Pp i.new;have aR:d2 (p.under (.builtin "type.__call__" ⟨.ref hc::[.str g u],[]⟩)) Y Z aj:=let⟨aS,E,e⟩:=(r.OE.keep i.keeps).at_;⟨aS,E,e⟩;refine TX (qt (r:=p.under (.builtin "type.__call__" ⟨.ref hc::[.str g u],[]⟩)) (d:=⟨aj,F,ai,u+1,G⟩) (G:=[.ref f,.str g u]) (MJ:=[.NS (.ref f),.str g]) (v:=[.NS (.ref f),.str g]) al y (by have:=aa.2.1;show p.depth+1<1000;exact(ak 1130513082694410540) this) aR aQ (.cons (.NS _) (.cons (.str _ _) .nil))
  (by refine Q (W ..) (Q (ar ..) ?_);rfl) (by refine Q (W ..) ?_;rfl) λ{be aT aU bf} aV I bg aW K aX=>?_)
 refine Dk (w:= #[]) o (d:=⟨aT,F,ai,aU,G⟩) aV I (K _ _ H) v.1 v.2 S V ao (by refine Q (hY (RY aq) ..) ?_;exact lg (by simp [ad.1])) (lg (by simp [ad.2])) am λaY aZ a0 bq M=>?_;refine j0 M λa1 a2 O=>?_;obtain⟨bh,a3,bj,bl,a4⟩:=aY;obtain rfl:a3=F:=aZ;clear az D bL c aW aX;obtain rfl:a4=G:=a0;refine⟨rfl,Qn (Rf (QM (lU f a2 a1 _ rfl ?_ O ?_)))⟩
 ·have a5:hc≠f:=by clear H v I M O bq;rintro rfl;have:=t _ _ B;have q:=i.new;rw [this]at q;exact ag q.symm
  exact bq _ _ a5 (K _ _ (i.keeps _ _ (t _ _ B)))
 ·refine aA (.ref f) ax Z _ k ⟨Y,af,ay,⟨λc c f=>f,λc c m f c c=>(bw m f rfl),rfl,rfl⟩,N,r,.inr (.inr ⟨rfl,?_⟩)⟩;exact Dm r.OE i.new (λe d m=>bq e d (by clear H v I M bq;rintro rfl;have q:=i.new;rw [show af.get? e=J d from m]at q;exact ag q.symm) (K _ _ (i.keeps _ _ m))) O
end
section
variable{E:Bool}
theorem bg.slots(a:bg r y n t e c u lb)(B:∀l q,l≠y.locals→u.get? l=J q→ho.get? l=J q)(s:u.UpToSlots ho):bg r y n t e c ho lb:=by
 have v:∀{b d},b≠y.locals→u.IsCell b d→ho.IsCell b d:=λ{b d} C ⟨q,D,f⟩=>⟨q,B _ _ C D,f⟩;refine⟨?_,a.kind,a.names,a.glob,a.blt,s.ns a.ns,a.own,a.len,a.nodup,a.loc,λi j h g=>?_,λE d i j h g w=>?_⟩
 ·refine ae a.OE.at_ λF h g=>⟨F,h,λG H=>?_⟩;refine bE λV I=>ar (g G H) λK L=>hC L λx q M N P Q=>j0 P λO R z=>I ?_;obtain⟨fR,f⟩:=s x q N (λW f=>by rw [z]at f;cases f);exact⟨K,x,_,M,f,(j2 O R z),Q⟩
 ·exact bQ (a.cells i j h g) λb d k p m=>(ee b d k (v m.2.2 p) m)
 ·refine bQ (a.ON E d i j h g w) λb S k p m=>fc (a.cells i j (QB g) w) λX Y A o o o T=>?_;rw [k]at A;clear o;clear o;obtain rfl:=Qj A;exact(ee b S k (v T p) m)
theorem bg.around{b:QN}(a:bg r y n t e c u lb)(d:b.frames=r.frames):bg b y n t e c u lb:=
 ⟨let⟨f,g,h⟩:=a.OE.at_;⟨f,d.trans g,h⟩,a.kind,a.names,a.glob,a.blt,a.ns,a.own,a.len,a.nodup,a.loc,a.cells,a.ON⟩
theorem Dn{i:Model}{g:Const}(h:nB g=J p)(f:∀A D,ah e p A→o A {d with toks:=D}):QQ (QO b a) r (TD (.Constant g T l2) y) o B d:=by
 induction g using UQ<;>first|exact ag h|skip
 all_goals(obtain rfl:=Qj h)
 ·exact λc c c=>f _ _ .none
 ·exact λc c c=>f _ _ (.bool _)
 ·exact wpAny_Constant_int (f _ _ (.int _ _))
 ·exact λc c c=>f _ (d.toks+1) (.str _ _)
theorem u7{k:Q9}(o:y.frame=J y.locals)(g:dc y e c d hn fw {MP with heap:=MU})(p:aI b a h hn fw MU)(i:bg r y n m2 hn fw MU L)
  (s:∀l q,MU.get? l=J q→l∉ao [y]→k.get? l=J q)(t:k.StaysIn f)(u:MU.UpToSlots f):(∀D,dc y e c d hn fw {MP with heap:=f,toks:=D})∧aI b a h hn fw f∧bg r y n m2 hn fw f L:=by
 have j:∀l q,l≠y.locals→MU.get? l=J q→f.get? l=J q:=λl q v w=>t l q (s l q w (by simp [ao,o];exact v));exact⟨λD=>⟨g.mono,λx q z A m B=>let⟨C,E,F⟩:=g.same x q z A m B;⟨j _ _ m C,E,F⟩,g.gens,g.os⟩,p.but j i.own.1 i.own.2,i.slots j u⟩
theorem Do(B:jA it h l0 hc a9 M6)(aa:gr b a h (.ref hc) x w C Qq n body c2)
  (ab:(j==("__debug__" :QA))=Qq)(ad:n.lookup j=J .globalImplicit)(af:l0 j=J (.NS (.ref hc)))(ag:c1 n m=J z)(o:nB L=J p)
  (ai:bZ C r)(ak:aI b a h e c d.heap)(al:bg r y n t e c d.heap lb)(f:h0 r y)(am:r.frames=J [y])
  {D:bF}{an:bt}{E:VP→Ql→Prop}(ao:k7 x w (.try c2 [.asg (.name z) (.k p)]) t D an c)(l:iU b a h n r y e c d D E):
  QQ (QO b a) r (exec (.Try body [.ExceptHandler (J (.Name j ca)) U [.Assign [.Name m bd] (.Constant L T bi) ap] cp] [] [] l2) y) E hx d:=by
 refine Q (arm_exec_Try ..) (Qn (Rf (wpAny_tryStmt_except ?_)));refine aa ai ak al f ao ?_ ?_
 ·intro a1 aq ar aX aY F as g q s u au;induction au using hZ.casesOn with
  |NX=>exact SX (l _ _ _ _ _ _ _ g q s u .NX)
  |Ow=>exact l _ _ _ _ _ _ _ g q s u .Ow
  |N9 o=>exact l _ _ _ _ _ _ _ g q s u (.N9 o)
 ·intro G aq ar H g I;refine iB I λF aZ as K M N O=>uI f (by rcases O with hv|hv|hv;exact .inl hv;exact .inr hv;cases hv.1) λa0 aj=>kW aj λav a2 aw a3 P ax R ay S=>iA S λa4 a5 a6 az V jx=>?_;clear aj;subst ax;rw [am]at P;clear S;obtain rfl:=Qj P;cases az;rw [f.frame]at V;obtain rfl:=Qj V;refine wpAny_landsW jx λW v X=>?_;have Y:=ay.trans X;refine bf (u7 f.frame K M N R v.1 Y) λaA A aB=>wpAny_handleBy_cons (codeAny_handlers_test ?_) (by intro hv;cases hv);refine qK (d:={H with heap:=W}) B.Pz ab ad af A aB λa7 aC=>?_;induction aC using ah.OK;refine B.PA λcn hv a8 ba bb bc be bV bh bj b7 bk bl bm bn bo aD aE=>ae v.there λbp aF aG=>?_;have aH:∀i k,h.get? i=J k→W.get? i=J k:=λi k G=>(A.Oa i k (A.zero i k G)).1;clear I O X aA;obtain⟨br,aJ,aK,bs,aL⟩:=H;refine wpAny_excMatches_sub_self (aH _ _ aD) aF aG aE.base (codeAny_handlers_suite ?_);refine lands_againW v λaM aN aO=>bf (u7 f.frame K M N R aN.1 (Y.trans aO)) λaP aQ aR=>Td ?_;have aS:swapsWithSole [PySem.Expr.Name m bd] (.Constant L T bi) ap.line y=pure Qq:=rfl;refine Ul ?_ aS (qA rfl (by intro av bu hv;cases hv));refine Q (qB rfl ..) (Dn (i:=QO b a) (e:=F) o λaT Z aU=>?_);show QQ _ _ (T8 (.Name m bd) y aT) _ _ _;refine assign_Name (nS (d:=⟨aM,aJ,aK,Z,aL⟩) ag aQ (aR.around (b:=r.mark (J (.ref aw))) rfl) aU f.apart λbv bw aV aW bq=>?_);exact SX (l _ _ _ _ _ _ _ g ((aP Z).trans aV) aW (bq.around rfl) .NX)
end
section
theorem Dp(a:eY l0 n s=J D):h3 s=Qp:=by
 induction s using Rl<;>first|rfl|exact ag a
theorem Dq(a:eY l0 n s=J D):∀i l as,s≠.Slice i l U as:=λi l as b=>by
 rw [b]at a;exact ag a
theorem u8(a:eY l0 n s=J D)(b:(k9 s).isNone=Qp):md s=Qq:=by
 induction s using Rl<;>first|rfl|exact ag a|exact bG b.symm
structure iW(b:Program)(a:World)(h:Heap)(cl:Value)(x:aO)(w:aR)(C:Nat)(it:Frag)(l0:Str→Option V):Prop where
 k:fG it h x
 co:jw b a h (bc b a h cl) w C it
 m:iT h
 g:hW h l0
def ll(a:QG)(b:QV)(c:Q9)(d:Qk)(e:aO)(f:aR)(g:Nat)(h:aL)(i:Qy)(j:aa):Prop:=bj a b c (bc a b c d) e f g h i j∧eu a b c (bc a b c d) e f g h i j
def qL(a:QG)(b:QV)(c:Q9)(d:Qk)(e:aO)(f:aR)(g:Nat)(h:aL)(i:Qy→Option aa):Prop:=∀{s D},i s=J D→ll a b c d e f g h s D
theorem qM{c:String}{d:Qy}(a:kj l0 n c s=J d):∃f as hv,s=.Call (.Name f as) [d] [] hv∧f=SA c∧n.lookup f=J .globalImplicit∧kg (l0 f) c=Qp∧eX d=Qq:=by
 refine ae (ci a) λq g a=>ae (ci a) λf h a=>ar (dD a) λb a=>Ar a λi j=>?_;have e:=tC g;rw [k8 h,i]at e;refine bE λr k=>ar (QC.mp b) λl b=>ar (QC.mp b) λm b=>ar (QC.mp b) λo p=>k ?_;rw [Sz.mp p]at e;exact⟨_,_,_,e,eq_of_beq l,eq_of_beq m,o,j⟩
theorem Dr{e:Bool×List Nat}(c:tF n ud=J e)(g:∀j∈n,j.2≠RD)(i:∀(z:Nat) (j:QA),n[z]? =J (j,NameKind.local)→Ng[z]? =J (j,NameKind.local)):
  (∀{r:QN}{M4:Sj},bZ C r→jy b a h r M4 Ng ud e.1 e.2)∧∀z∈e.2,∃j,n[z]? =J (j,NameKind.local):=by
 have d:=hS ud;replace c:tE n (cN ud)=J e:=c;generalize cN ud=a2 at c d;induction a2 using d1.casesOn<;>first|exact ag c|skip
 ·refine ae (bB c) λz f k=>?_;subst k;replace d:_=_:=d;subst d;have l:=tV g f;exact⟨λp=>C7 (i _ _ l),λq m=>by clear f c;obtain rfl:=Rk.mp m;exact⟨_,l⟩⟩
 ·refine ae (bB c) λs f k=>?_;clear c;subst k;replace d:_=_:=d;subst d;exact⟨λo=>C8 o f g i,(uY (y:=default) g i f).2⟩
theorem Ds(a:Nat)(b:QA)(c:b2[a]? =J (b,NameKind.local)):(ej b2)[a]? =J (b,NameKind.local):=n1.mpr (aU .local c rfl)
section
variable{no:Qy→Option aa}(Ni:iW b a h cl x w C it l0)(Nj:qL b a h cl x w C n no)
include Nj
theorem jB:∀{b2:List Qy}{ML:List aa},iQ no b2=J ML→ev b a h (bc b a h cl) x w C n b2 ML:=by
 intro b2;induction b2 with
 |nil=>intro ML c;obtain rfl:=Qj c;exact .nil
 |cons j b2 e=>
  intro ML c;refine bQ (gn c) λk l d f g=>?_;clear c;subst g;exact ar (dD d) λi d=>.cons (bw ((Nj d).1) ((Nj d).2) (iM i)) (e f)
theorem Dt:∀{b2:List (Option Qy)}{ML:List aa},pY no b2=J ML→le b a h (bc b a h cl) x w C n b2 ML:=by
 intro b2;induction b2 with
 |nil=>intro ML c;obtain rfl:=Qj c;exact .nil
 |cons j b2 f=>
  intro ML c;refine bQ (gn c) λk l d g e=>?_;subst e;refine ae (ci d) λi e d=>?_;clear c;subst e;exact .cons (aU i rfl ((Nj d).1)) (f g)
theorem u9{c:Option Qy}{e:Option aa}(d:nF no c=some e):mi b a h (bc b a h cl) x w C n c e:=by
 induction c using Qm with
 |none=>obtain rfl:=Qj d;exact BF
 |some c=>refine ae (bB d) λi f g=>?_;clear d;subst g;exact BG (Nj f).1
include Ni
theorem Du{k:List Qy}(c:pZ no m k l2=some D):ll b a h cl x w C n (.Call m k [] l2) D:=by
 unfold pZ at c;generalize d:pW m=l;induction l using Qm with
 |some v=>
  rw [d]at c;refine bE λy o=>ar (dD c) λe c=>ar (QC.mp e) λe p=>ar (QC.mp e) λq r=>ae (ci c) λs f c=>ae (bB c) λt g i=>?_;clear c;clear c;subst i;refine o ?_;rw [Ao d];exact⟨B1 bc.back Ni.k Ni.co (iM q) (Re r) (Re p) (Nj f).1 (jB Nj g),fV (λj j=>rfl) rfl⟩
 |none=>
  rw [d]at c;refine ae (ci c) λs f c=>ae (bB c) λt g i=>?_;clear c;clear c;subst i;exact⟨BW bc.back Ni.k Ni.co (λz T A u=>by rw [u]at d;exact ag d.symm) (Nj f).1 (jB Nj g),fV (λj j=>rfl) rfl⟩
omit Ni
theorem Dv{f:Qy}(c:p0 no q f=some D):ll b a h cl x w C n (.Subscript q f l2) D:=by
 unfold p0 at c;generalize e:pX f=k;induction k using Qm with
 |some r=>
  rw [e]at c;refine bE λs l=>ar (dD c) λm c=>ae (ci c) λo g c=>ae (ci c) λt i c=>ae (bB c) λu p d=>?_;subst d;refine bY (Ap e m) λv d=>?_;clear e c;clear c;subst d;exact l ⟨BH bc.back (Nj g).1 (u9 Nj i) (u9 Nj p),fV (λj j=>rfl) rfl⟩
 |none=>
  rw [e]at c;refine ae (ci c) λo g c=>ae (bB c) λy i d=>?_;clear c;clear c;subst d;exact⟨BC bc.back (Nj g).1 (Nj i).1,fV (λj j=>rfl) rfl⟩
theorem Dw{k:List Qy}{e g:List aa}(l:pY no MO=J e)(m:iQ no k=J g)(c:tI e g=Qp):
  bj b a h (bc b a h cl) x w C n (.Dict MO k l2) (.Of (ki e g))∧True:=by
 refine ar (QC.mp c) λd c=>?_;have d:=Re d;have i:=Dt Nj l;have j:=jB Nj m;induction MO using QH with
 |nil=>
  clear l;cases i;clear c;clear m c;induction j using aM.casesOn with
  |nil=>exact⟨BM,trivial⟩
  |cons _ _=>cases d
 |cons r MO=>
  cases Nat.lt_or_ge 15 e.length with
  |inr f=>exact⟨BK bc.back i j d (λc=>by cases c) f,trivial⟩
  |inl f=>
   rw [Qx (Nat.not_le.mpr f),Bool.false_or]at c;exact ar (QC.mp c) λo c=>ar (QC.mp c) λp q=>⟨BQ i j d (λc=>by cases c) (Nat.not_le.mpr f) (Re o) p q,trivial⟩
end
theorem Dx(Ni:iW b a h cl x w C it l0)(c:tH l0 n j=some D):ll b a h cl x w C n (.Name j l2) D:=by
 refine ar (dD c) λd c=>?_;have d:=iM d;cases e:n.lookup j==some NameKind.globalImplicit with
 |true=>
  rw [e]at c;generalize f:l0 j=i;induction i using Qm with
  |none=>rw [f]at c;exact ag c
  |some k=>rw [f]at c;obtain rfl:=Qj c;exact⟨tW Ni.g d (eq_of_beq e) f,fV (λg g=>rfl) rfl⟩
 |false=>
  rw [e]at c;refine ae (bB c) λk l m=>?_;clear c;clear c;subst m;exact⟨AG d l,fV (λg g=>rfl) rfl⟩
theorem Dy{a:VQ}(b:a.ifs=[])(c:a.is_async=0):a=⟨a.target,a.iter,[],0⟩:=by
 obtain⟨d,e,f,g⟩:=a;cases b;cases c;rfl
theorem va{i:aL→Qy→Option aa}(N:∀{s D},i n s=some D→h3 s=Qp)(Ni:iW b a h cl x w C it l0)(Nj:∀n,qL b a h cl x w C n (i n)){q:Qy}{e:Ri}{u:List VQ}{D:aa}(d:tK l0 i n q e u=some D){y:Prop}
  (A:∀(ud be:Qy) (s M7:aa) (L M8:Bool) (MY:List Nat) (M1:List (Nat×Nat)) (M2:bo),u=[⟨ud,be,[],0⟩]→D=.comp s MY M8 L M7 M1 e.names.length→iO e=Qp→iP n e.names=some M1→h3 be=Qp→gQ b a h cl x w C n be M2→
   ll b a h cl x w C (ej e.names) q s→(∀{r:QN}{M4:Sj},bZ C r→jy b a h r M4 (ej e.names) ud M8 MY)→(∀z∈MY,∃j,e.names[z]? =some (j,NameKind.local))→
   (∀{t:aq}{o:List V→I→Prop}{B:aV}{c:I},av x w M7 t (λp bl=>cm (hO L p bl) λv=>o v bl) B c→hR x w M2 t o B c)→y):y:=by
 refine Au d λE g d=>ar (dD d) λk d=>ar (QC.mp k) λl k=>ar (QC.mp k) λO P=>ae (ci d) λs F d=>ae (ci d) λM1 G d=>ae (ci d) λMY Q d=>ar (Dr (b:=b) (a:=a) (h:=h) (C:=C) Q (lj l).2.2 Ds) λH K=>?_;have g:=g.trans (QP (λj=>[j]) (Dy (Sz.mp O) (Re P)));generalize m:kj l0 n "range" E.iter=R;induction R using Qm with
 |some j=>
  rw [m]at d;refine ae (bB d) λM7 f d=>iC (qM m) λY Z ab M S T W X=>?_;subst S;have z:gQ b a h cl x w C n E.iter (.range M7):=by rw [M];exact uP Ni.g (by decide) T W X (Nj n f).1 (Nj n f).2
  exact A _ _ s M7 Qp MY.1 MY.2 M1 _ g d.symm l G (by rw [M];rfl) z (Nj _ F) H K λd=>d
 |none=>
  rw [m]at d;exact ae (bB d) λM7 f d=>A _ _ s M7 Qq MY.1 MY.2 M1 _ g d.symm l G (N f) (h4 (Nj n f).1) (Nj _ F) H K λd=>d
theorem vb(a:nG l0 T n s=J D):h3 s=Qp:=by
 induction T using Rn with
 |zero=>exact ag a
 |succ T=>induction s using Rl<;>first|rfl|exact ag a
set_option tactic.hygienic true in
theorem vc(Ni:iW b a h cl x w C it l0)(o:Nat):∀n,qL b a h cl x w C n (nG l0 o n):=by
 induction o with
 |zero=>intro n m u c;exact ag c
 |succ o Nj=>
  intro n m u c;induction m using Rl<;>first|exact ag c|skip
  case succ.Name=>
   exact Dx Ni c
  case succ.Constant=>
   refine ae (bB c) λR v e=>?_;clear c;subst e;exact⟨AD v,fV (λf f=>rfl) rfl⟩
  case succ.BoolOp=>
   rename_i p O y;refine ae (bB c) λS d e=>?_;subst e;have i:=jB (Nj n) d;clear c;induction p using PySem.BoolOp.casesOn with
   |And=>exact⟨Bp bc.back i,Bn bc.back i⟩
   |Or=>exact⟨Bq bc.back i,Bo bc.back i⟩
  case succ.BinOp=>
   refine bE λq j=>ae (ci c) λk d c=>ae (ci c) λT g c=>ae (bB c) λs l e=>?_;clear c;clear c;subst e;exact j ⟨AE bc.back (Nj n d).1 (Nj n l).1 λz N A B=>AT g z N A B,fV (λf f=>rfl) rfl⟩
  case succ.UnaryOp=>
   rename_i p V y;refine ae (ci c) λk d c=>?_;have i:=Nj n d;induction p using PySem.UnaryOp.casesOn<;>first|exact ag c|skip
   ·obtain rfl:=Qj c;exact⟨Bb i.1,Bc i.1 i.2⟩
   ·obtain rfl:=Qj c;exact⟨Bd i.1,Be⟩
  case succ.IfExp=>
   refine bE λq j=>ae (ci c) λk d c=>ae (ci c) λs g c=>ae (bB c) λm l e=>?_;clear c;clear c;subst e;exact j ⟨Bf bc.back (Nj n d).1 (Nj n d).2 (Nj n g).1 (Nj n l).1,Bg bc.back (Nj n d).1 (Nj n d).2 (Nj n g).1 (Nj n g).2 (Nj n l).1 (Nj n l).2⟩
  case succ.Compare=>
   refine bE λq j=>ar (dD c) λt c=>ae (ci c) λk d c=>ae (bB c) λW g e=>?_;clear c;clear c;subst e;exact j ⟨Bt bc.back Ni.m t (Nj n d).1 (jB (Nj n) g),Bu bc.back Ni.m t (Nj n d).1 (jB (Nj n) g)⟩
  case succ.Call=>
   refine ar (dD c) λD c=>?_;obtain rfl:=Sz.mp D;exact Du Ni (Nj n) c
  case succ.Attribute=>
   refine ar (dD c) λr c=>ae (bB c) λk d e=>?_;clear c;clear c;subst e;exact⟨BU Ni.k bc.back (iM r) (Nj n d).1,fV (λf f=>rfl) rfl⟩
  case succ.Subscript=>
   exact Dv (Nj n) c
  case succ.List=>
   refine ae (bB c) λk d e=>?_;clear c;subst e;exact⟨Bx bc.back (jB (Nj n) d),fV (λf f=>rfl) rfl⟩
  case succ.Tuple=>
   refine ar (dD c) λE c=>ae (bB c) λk d e=>?_;clear c;clear c;subst e;exact⟨Bw bc.back (Re E) (jB (Nj n) d),fV (λf f=>rfl) rfl⟩
  case succ.Dict=>
   refine bE λq j=>ae (ci c) λk d c=>ae (ci c) λs g c=>ar (dD c) λr c=>j ?_;clear j;obtain rfl:=Qj c;exact⟨(Dw (Nj n) d g r).1,fV (λf f=>rfl) rfl⟩
  case succ.ListComp=>
   refine va vb Ni Nj c λX be m Y Z aa ab ad af e F G H I K L M P Q=>?_;subst e F;exact⟨Db G H I K L.1 M P Q,fV (λf f=>rfl) rfl⟩
theorem dR(Ni:iW b a h cl x w C it l0)(c:eY l0 n s=J D):ll b a h cl x w C n s D:=vc Ni 30 n c
theorem vd(Ni:iW b a h cl x w C it l0){f:bH}(c:me l0 n ud=J f):ko b a h cl x w C n ud f∧True:=by
 have d:=hS ud;replace c:p1 l0 n (cN ud)=J f:=c;generalize cN ud=a2 at c d;induction a2 using d1.casesOn<;>first|exact ag c|skip
 ·replace d:_=_:=d;subst d;refine ae (bB c) λi g e=>?_;clear c;subst e;exact⟨CC g,trivial⟩
 ·replace d:_=_:=d;subst d;refine ar (dD c) λo c=>ae (bB c) λj k e=>?_;clear c;clear c;subst e;exact⟨CD Ni.k (dR Ni k).1,trivial⟩
 ·replace d:_=_:=d;subst d;refine ae (bB c) λi g e=>?_;clear c;subst e;exact⟨CF g,trivial⟩
 ·replace d:_=_:=d;subst d;refine ae (ci c) λj l c=>ae (bB c) λp m e=>?_;clear c;clear c;subst e;exact⟨CE (dR Ni l).1 (dR Ni m).1,trivial⟩
theorem Dz(Ni:iW b a h cl x w C it l0)(c:p2 l0 n s=some M2):gQ b a h cl x w C n s M2∧h3 s=Qp:=by
 unfold p2 at c;generalize f:kj l0 n "range" s=i;induction i using Qm with
 |some p=>
  rw [f]at c;refine ae (bB c) λo e d=>?_;subst d;refine iC (qM f) λq r t d j k l m=>?_;subst d;clear f c;subst j;exact⟨uP Ni.g (by decide) k l m (dR Ni e).1 (dR Ni e).2,rfl⟩
 |none=>
  rw [f]at c;generalize g:kj l0 n "reversed" s=i;induction i using Qm with
  |some p=>
   rw [g]at c;refine ae (bB c) λo e d=>?_;subst d;refine iC (qM g) λq r t d j k l m=>?_;subst d;clear f g c;subst j;exact⟨C0 Ni.g (by decide) k l m (dR Ni e).1 (dR Ni e).2,rfl⟩
  |none=>
   rw [g]at c;refine ae (bB c) λo e d=>?_;clear c;subst d;exact⟨h4 (dR Ni e).1,Dp e⟩
end
section
structure lm(b:Program)(a:World)(h:Heap)(cl:Value)(x:aO)(w:aR)(C:Nat)(it:Frag)(l0:Str→Option V):Prop extends iW b a h cl x w C it l0 where
 Qc:∀{n:aL}{j:Str}{np cp cpos l2:Pos}{txt:Str}{T:Nat},j=("RunFault" :Str)→n.lookup j=some .globalImplicit→ek b a h cl x w C true n (.Raise (some (.Call (.Name j np) [.Constant (.str txt) T cp] [] cpos)) none l2) .raise
def kq(a:QG)(b:QV)(c:Q9)(d:Qk)(e:aO)(f:aR)(g:Nat)(h:Bool)(i:aL)(j:RU)(k:N):Prop:=ek a b c d e f g h i j k∧True
def qN(a:QG)(b:QV)(c:Q9)(d:Qk)(e:aO)(f:aR)(g:Nat)(h:Bool)(i:aL)(j:List RU)(k:List N):Prop:=gr a b c d e f g h i j k∧True
section
variable(Ni:iW b a h cl x w C it l0){E:Bool}{D:bH}{j:aa}(Nw:me l0 n ud=J D)(Nz:eY l0 n s=J j)
include Ni Nw Nz
theorem DA(d:md s=Qq)(c:(hT ud&&hT s)=Qq):kq b a h cl x w C E n (.Assign [ud] s as) (.asg D j):=by
 refine⟨CJ d c (λe f s=>?_) ?_ (vd Ni Nw).1 (dR Ni Nz).1,trivial⟩
 ·rw [s]at Nw;exact ag Nw
 ·clear c;induction ud using Rl<;>first|rfl|exact ag Nw
theorem DB(c:tO n ud s=Qp):kq b a h cl x w C E n (.Assign [ud] s as) (.asg D j):=by
 refine iR c λT l c=>iR c λm o c=>Ax c λV aj p c=>iR c λW q c=>iR c λX r c=>?_;simp only [Ry,Sn,bne_iff_ne,Wq]at c;refine bE λt f=>ar c λd u=>ar d λv y=>ar v λz A=>ar z λB F=>ar B λG H=>ar G λI K=>f ?_;have g:=tz l;rw [p,k8 q,k8 r]at g;rw [g]at Nw⊢;rw [tz o]at Nz⊢;refine bE λt f=>ae (bB Nw) λY i d=>?_;subst d;refine j1 (nX i) λe e Z aa L M k d=>?_;subst d;refine j1 (nX k) λe e ab ad N O P d=>?_;subst d;refine f ?_;clear k i Nw f;obtain rfl:=Qj P;cases L;cases N;have Q:∀s∈m.1,eX s=Qq:=by
  exact ar (dD Nz) λe c=>ae (bB c) λaf c e=>λs R=>ae ((uU c).2 s R) λe e S=>iM (dD S).1
 exact⟨CM M O I K H F A Q y u (dR Ni Nz).1,trivial⟩
theorem DC(d:k9 s=some (MW,l2))(c:p4 n ud MW l2=Qp):kq b a h cl x w C E n (.Assign [ud] s as) (.asg D j):=by
 refine j0 (Aq d) λB F g=>?_;rw [g]at Nz⊢;unfold p4 at c;cases e:iN ud with
 |none=>rw [e]at c;exact bG c.symm
 |some G=>
  rw [e]at c;have i:=k8 e;rw [i]at Nw⊢;refine bE λH k=>ar (QC.mp c) λc l=>ar (QC.mp c) λd m=>ae (bB Nw) λI o f=>?_;clear Nw;subst f;refine k (va vb Ni (vc Ni 29) Nz λud be s K L M N O P f p q r t u v y z A=>?_);clear g;subst f p;exact⟨Dc q r t u v.1 y z A o (eq_of_beq d) (eq_of_beq m) (iM l),trivial⟩
theorem DD(c:p5 n ud s=true):kq b a h cl x w C E n (.Assign [ud] s as) (.asg D j):=by
 unfold p5 at c;cases d:hT ud&&hT s with
 |true=>rw [d]at c;exact DB Ni Nw Nz c
 |false=>
  rw [d]at c;generalize e:k9 s=f;induction f using Qm with
  |some g=>rw [e]at c;exact DC Ni Nw Nz e c
  |none=>exact DA Ni Nw Nz (u8 Nz (by refine Q (e ..) ?_;rfl)) d
theorem DE{i:dP}(g:jq MZ=J i):kq b a h cl x w C E n (.AugAssign ud MZ s as) (.aug D i j):=by
 have d:=hS ud;have c:=Nw;replace c:p1 l0 n (cN ud)=J D:=c;generalize cN ud=a2 at c d;induction a2 using d1.casesOn<;>first|exact ag c|skip
 ·replace d:_=_:=d;refine Q (d ..) ?_;refine ae (bB c) λm k f=>?_;clear Nw c;subst f;exact⟨CN g k (dR Ni Nz).1,trivial⟩
 ·replace d:_=_:=d;refine Q (d ..) ?_;refine ar (dD c) λr c=>ae (bB c) λo p f=>?_;clear Nw c;clear c;subst f;exact⟨CO Ni.k g (dR Ni p).1 (dR Ni Nz).1,trivial⟩
 ·refine ae (bB c) λm k f=>?_;clear Nw c;subst f;exact⟨λe e e e e e e e c e e=>c.elim,trivial⟩
 ·replace d:_=_:=d;refine Q (d ..) ?_;refine ae (ci c) λo q c=>ae (bB c) λt l f=>?_;clear Nw c;clear c;subst f;exact⟨CR (Dq l) g (dR Ni q).1 (dR Ni l).1 (dR Ni Nz).1,trivial⟩
end
theorem DF(f:lm b a h cl x w C it l0)(c:p3 E n s=Qp):kq b a h cl x w C E n (.Raise (J s) U as) .raise:=by
 refine iR c λw g c=>ar (QC.mp c) λd c=>ar (QC.mp c) λi c=>Aw d λq d j=>iR c λr k c=>ar (QC.mp c) λl c=>ar (QC.mp c) λm o=>sC (Ay j) λt T u p=>?_;have e:=tC g;rw [d,p,Sz.mp i,k8 k]at e;refine Q (e ..) (Q (m ..) ?_);exact⟨f.Qc (eq_of_beq l) (eq_of_beq o),trivial⟩
set_option tactic.hygienic true in
theorem ve{v:Bool→List RU→Option (List N)}(f:lm b a h cl x w C it l0)(p:∀{E b2 ML},v E b2=some ML→qN b a h cl x w C E n b2 ML){E:Bool}{r:RU}{y:N}(c:tP l0 v E n r=some y):kq b a h cl x w C E n r y:=by
 induction r using Ud<;>first|exact ag c|skip
 case Return i j=>
  refine ae (bB c) λB d e=>?_;subst e;induction i using Qm with
  |none=>clear c;obtain rfl:=Qj d;exact⟨CG,trivial⟩
  |some i=>refine ae (bB d) λI g e=>?_;clear d c;subst e;exact⟨qx (dR f.toiW g).1,trivial⟩
 case Assign s i j=>
  induction s using QH with
  |nil=>exact ag c
  |cons z s=>induction s using QH with
   |cons _ _=>exact ag c
   |nil=>
    refine bE λt k=>ar (dD c) λl c=>ae (ci c) λo d c=>ae (bB c) λq g e=>?_;clear c;clear c;subst e;exact k (DD f.toiW d g l)
 case AugAssign z K i j=>
  refine bE λt k=>ae (ci c) λo d c=>ae (ci c) λB g c=>ae (bB c) λq m e=>?_;clear c;clear c;subst e;exact k (DE f.toiW d m g)
 case For z L q D j=>
  refine ar (dD c) λl c=>?_;obtain rfl:=Sz.mp l;refine bE λt k=>ae (ci c) λo d c=>ae (ci c) λM g c=>ae (bB c) λA m e=>?_;clear c;clear c;subst e;refine k ?_;have u:=Dz f.toiW g;exact⟨fH u.2 (vd f.toiW d).1 u.1 (p m).1,trivial⟩
 case While i q D j=>
  refine ar (dD c) λl c=>?_;obtain rfl:=Sz.mp l;refine ae (ci c) λo d c=>ae (bB c) λA m e=>?_;clear c;clear c;subst e;exact⟨lh (dR f.toiW d).1 (dR f.toiW d).2 (p m).1,trivial⟩
 case If i o q j=>
  refine bE λt k=>ae (ci c) λw d c=>ae (ci c) λO g c=>ae (bB c) λA m e=>?_;clear c;clear c;subst e;exact k ⟨mm (dR f.toiW d).1 (dR f.toiW d).2 (p g).1 (p m).1,trivial⟩
 case Raise i u j=>
  refine ar (dD c) λl c=>?_;obtain rfl:=Tq.mp l;refine ae (bB c) λi e g=>?_;clear c;clear c;subst e;refine Q (Rj (g ..)) ?_;generalize F:p3 E n i=G;induction G using Qz with
  |true=>exact DF f F
  |false=>exact⟨CH,trivial⟩
 case Expr i j=>
  refine ar (dD c) λH c=>ae (bB c) λo d e=>?_;clear c;clear c;subst e;exact⟨uH (u8 d H) (dR f.toiW d).1,trivial⟩
 case Pass j=>obtain rfl:=Qj c;exact⟨uF,trivial⟩
 case Continue j=>obtain rfl:=Qj c;exact⟨qy,trivial⟩
theorem vf(e:lm b a h cl x w C it l0)(d:Nat):∀{E:Bool}{b2:List RU}{ML:List N},p6 l0 n d E b2=J ML→qN b a h cl x w C E n b2 ML:=by
 induction d with
 |zero=>intro E b2 ML c;exact ag c
 |succ d f=>
  intro E b2;induction b2 with
  |nil=>intro ML c;obtain rfl:=Qj c;exact⟨uG,trivial⟩
  |cons H b2 g=>
   intro ML c;refine bQ (gn c) λl m i j k=>?_;clear c;subst k;exact⟨CI (ve e f i).1 (g j).1,trivial⟩
theorem vg(d:lm b a h cl x w C it l0){c:List N}(e:fj l0 E n b2=J c):qN b a h cl x w C E n b2 c:=vf d 12 e
end
noncomputable def vh:List (QA×V):=[(Y "_wall",.NS (.ref 21)),
 (Y "F77Error",.NS (.ref 38)),
 (Y "CheckFault",.NS (.ref 51)),
 (Y "RunFault",.NS (.ref 63)),
 (Y "StopRun",.NS (.ref 75)),
 (Y "TooLong",.NS (.ref 94)),
 (Y "INTEGER",.int 0),
 (Y "REAL",.int 1),
 (Y "DOUBLE",.int 2),
 (Y "COMPLEX",.int 3),
 (Y "LOGICAL",.int 4),
 (Y "CHARACTER",.int 5),
 (Y "units_of",.NS (.ref 103)),
 (Y "SECOND",.int 6),
 (Y "LABEL",.int 7),
 (Y "Memory",.NS (.ref 141)),
 (Y "need_units",.NS (.ref 152)),
 (Y "read_cell",.NS (.ref 159)),
 (Y "load_number",.NS (.ref 166)),
 (Y "store_number",.NS (.ref 173)),
 (Y "load_text",.NS (.ref 180)),
 (Y "store_text",.NS (.ref 187)),
 (Y "pad",.NS (.ref 194)),
 (Y "unit_size",.NS (.ref 201)),
 (Y "element_place",.NS (.ref 208)),
 (Y "sub_place",.NS (.ref 215)),
 (Y "fit_int",.NS (.ref 222)),
 (Y "int_add",.NS (.ref 229)),
 (Y "int_sub",.NS (.ref 236)),
 (Y "int_mul",.NS (.ref 243)),
 (Y "cut_quotient",.NS (.ref 250)),
 (Y "int_div",.NS (.ref 257)),
 (Y "inverse_power",.NS (.ref 264)),
 (Y "int_power",.NS (.ref 271)),
 (Y "order_of",.NS (.ref 278)),
 (Y "holds",.NS (.ref 285)),
 (Y "int_binary",.NS (.ref 292)),
 (Y "real_to_int",.NS (.ref 299)),
 (Y "is_zero",.NS (.ref 306)),
 (Y "trip_count",.NS (.ref 313)),
 (Y "Run",.NS (.ref 330)),
 (Y "evaluate",.NS (.ref 341)),
 (Y "named_place",.NS (.ref 348)),
 (Y "bound_of",.NS (.ref 355)),
 (Y "part_place",.NS (.ref 362)),
 (Y "place_of",.NS (.ref 367)),
 (Y "eval_const",.NS (.ref 374)),
 (Y "eval_place",.NS (.ref 381)),
 (Y "reckon",.NS (.ref 388)),
 (Y "eval_binary",.NS (.ref 395)),
 (Y "eval_compare",.NS (.ref 402)),
 (Y "plain_expressions",.NS (.ref 409)),
 (Y "Flow",.NS (.ref 426)),
 (Y "note_label",.NS (.ref 437)),
 (Y "note_arm",.NS (.ref 444)),
 (Y "open_arm",.NS (.ref 451)),
 (Y "note_ends",.NS (.ref 458)),
 (Y "flow_of",.NS (.ref 465)),
 (Y "sign_of",.NS (.ref 472)),
 (Y "flow_for",.NS (.ref 479)),
 (Y "execute",.NS (.ref 486)),
 (Y "count_step",.NS (.ref 493)),
 (Y "run_unit",.NS (.ref 500)),
 (Y "jump_to",.NS (.ref 507)),
 (Y "store_value",.NS (.ref 514)),
 (Y "do_assign",.NS (.ref 521)),
 (Y "label_place",.NS (.ref 528)),
 (Y "do_setlabel",.NS (.ref 535)),
 (Y "label_in",.NS (.ref 542)),
 (Y "assign_statements",.NS (.ref 549)),
 (Y "do_goto",.NS (.ref 556)),
 (Y "do_cgoto",.NS (.ref 563)),
 (Y "do_agoto",.NS (.ref 570)),
 (Y "do_aif",.NS (.ref 577)),
 (Y "do_lif",.NS (.ref 584)),
 (Y "do_if",.NS (.ref 591)),
 (Y "do_arm",.NS (.ref 598)),
 (Y "do_on",.NS (.ref 605)),
 (Y "do_do",.NS (.ref 612)),
 (Y "step_loops",.NS (.ref 619)),
 (Y "do_return",.NS (.ref 626)),
 (Y "do_end",.NS (.ref 633)),
 (Y "do_stop",.NS (.ref 640)),
 (Y "control_statements",.NS (.ref 647)),
 (Y "Limits",.NS (.ref 665)),
 (Y "UnitTree",.NS (.ref 686)),
 (Y "_law_names",.lst [.str (Y "A"),.str (Y "B"),.str (Y "C"),.str (Y "I"),.str (Y "J"),.str (Y "K")]),
 (Y "_law_draw",.NS (.ref 698)),
 (Y "_law_fresh",.NS (.ref 705)),
 (Y "_law_set",.NS (.ref 712)),
 (Y "_law_cond",.NS (.ref 719)),
 (Y "_law_term",.NS (.ref 726)),
 (Y "_law_do",.NS (.ref 733)),
 (Y "_law_part",.NS (.ref 738)),
 (Y "_law_body",.NS (.ref 745)),
 (Y "_law_var",.NS (.ref 752)),
 (Y "_law_const",.NS (.ref 759)),
 (Y "_law_test",.NS (.ref 766)),
 (Y "_law_plain",.NS (.ref 773)),
 (Y "_law_lay",.NS (.ref 780)),
 (Y "_law_lay_if",.NS (.ref 787)),
 (Y "_law_lay_do",.NS (.ref 794)),
 (Y "_law_lay_switch",.NS (.ref 799)),
 (Y "_law_holds",.NS (.ref 806)),
 (Y "_law_do_plain",.NS (.ref 813)),
 (Y "_law_run",.NS (.ref 820)),
 (Y "_law_loop",.NS (.ref 827)),
 (Y "law",.NS (.ref 832))]
noncomputable def vi:List (QA×V):=[(Y "len",.NS (.builtin "len")),
 (Y "range",.NS (.type "range")),
 (Y "reversed",.NS (.type "reversed")),
 (Y "isinstance",.NS (.builtin "isinstance")),
 (Y "tuple",.NS (.type "tuple")),
 (Y "abs",.NS (.builtin "abs")),
 (Y "max",.NS (.builtin "max")),
 (Y "min",.NS (.builtin "min")),
 (Y "Exception",.NS (.type "Exception"))]
noncomputable def dS(a:QA):Option V:=match vh.lookup a with
 |some p=>some p
 |none=>vi.lookup a
noncomputable def n4(a:Arguments)(b:Ri):Bool:=a.posonlyargs.isEmpty&&a.vararg.isNone&&a.kwonlyargs.isEmpty&&a.kwarg.isNone&&(a.args.map (·.arg)).zipIdx.all λas=>match b.names[as.2]?with
 |some (j,a2)=>j==as.1&&hd a2
 |none=>Qq
noncomputable def vj(a:RU):Bool:=a.ctorIdx==(Stmt.FunctionDef default default default default default default default default default default).ctorIdx
inductive vk:Stmt→Prop
 |mk T i l dl rt Na MW ML bd as:vk (.FunctionDef T i l dl rt Na MW ML bd as)
theorem DG{a:RU}(b:vj a=Qp):vk a:=by
 induction a using Ud<;>first|exact bG b.symm|constructor
noncomputable def ln(a:RU):Bool:=vj a&&(eJ a).kind== .function&& !(eJ a).isGenerator&& !(eJ a).isCoroutine&&nE ((eJ a).names.map (·.1))&&(eJ a).names.all (λs=>s.2 != .free)&&n4 (gK a) (eJ a)
noncomputable def qO(a:RU):Bool:=ln a&&(fj dS Qp (eJ a).names (g9 a)).isSome
theorem qP{b:RU}{c:Prop}(a:ln b=Qp)(d:∀T i l dl f Na MW ML g as,b=.FunctionDef T i l dl f Na MW ML g as→MW.kind=.function→MW.isGenerator=Qq→MW.isCoroutine=Qq→(MW.names.map (·.1)).Nodup→(∀s∈MW.names,s.2≠.free)→n4 i MW=Qp→c):c:=by
 simp only [ln,Ry]at a;refine ar a λa e=>ar a λa h=>ar a λa j=>ar a λa k=>ar a λa m=>ar a λa n=>?_;cases DG a;refine d _ _ _ _ _ _ _ _ _ _ rfl (eq_of_beq n) (by simpa using m) (by simpa using k) (uR j) (λs o=>?_) e;have:=Rc.mp h s o;simpa using this
noncomputable def kr(a:RU)(b:List V):aY:=⟨R4 (gK a).args.length,b,(eJ a).names.length,(fj dS Qp (eJ a).names (g9 a)).getD []⟩
noncomputable def mp:List (Qo×RU):=[(103,H 14),
 (117,bV (H 18) 0),
 (124,bV (H 18) 1),
 (131,bV (H 18) 2),
 (152,H 19),
 (159,H 20),
 (166,H 21),
 (173,H 22),
 (222,H 30),
 (229,H 31),
 (236,H 32),
 (250,H 34),
 (257,H 35),
 (278,H 38),
 (285,H 39),
 (292,H 40),
 (306,H 44),
 (313,H 45),
 (327,bV (H 47) 0),
 (341,H 48),
 (348,H 49),
 (367,H 52),
 (374,H 53),
 (381,H 54),
 (388,H 55),
 (395,H 56),
 (402,H 57),
 (409,H 58),
 (423,bV (H 60) 0),
 (437,H 61),
 (444,H 62),
 (451,H 63),
 (458,H 64),
 (465,H 65),
 (472,H 66),
 (479,H 68),
 (486,H 69),
 (493,H 70),
 (500,H 71),
 (507,H 72),
 (514,H 73),
 (521,H 74),
 (528,H 75),
 (535,H 76),
 (542,H 77),
 (549,H 78),
 (556,H 79),
 (563,H 80),
 (570,H 81),
 (577,H 82),
 (584,H 83),
 (591,H 84),
 (598,H 85),
 (605,H 86),
 (612,H 87),
 (619,H 88),
 (626,H 89),
 (633,H 90),
 (647,H 92),
 (683,bV (H 96) 0),
 (698,H 99),
 (705,H 100),
 (712,H 101),
 (719,H 102),
 (726,H 103),
 (733,H 104),
 (738,H 105),
 (745,H 106),
 (752,H 107),
 (759,H 108),
 (766,H 109),
 (773,H 110),
 (780,H 111),
 (787,H 112),
 (794,H 113),
 (799,H 114),
 (806,H 115),
 (813,H 116),
 (820,H 117),
 (827,H 118)]
theorem DH:(mp.all λas=>qO as.2)=Qp:=by kernel_rfl
noncomputable def vl:List (Qo×List QA):=[(141,[Y "numeric",Y "characters"]),
 (330,[Y "memory",Y "limits",Y "units",Y "world",Y "expressions",Y "statements",Y "frame",Y "depth",Y "steps",Y "places",Y "flows",Y "clears",Y "active",Y "loops",Y "operations"]),
 (426,[Y "labels",Y "next_arm",Y "block_end",Y "do_end",Y "ending"]),
 (665,[Y "width",Y "real_digits",Y "double_digits",Y "top_exponent",Y "steps",Y "continuations",Y "columns",Y "depth"]),
 (686,[Y "kind",Y "name",Y "dummies",Y "entries",Y "symbols",Y "statements",Y "formats",Y "labels",Y "result",Y "commons",Y "equivs",Y "datas",Y "saves",Y "constants"])]
noncomputable def vm:List (Qo×Qo):=[(141,117),(330,327),(426,423),(665,662),(686,683)]
noncomputable def vn:List ((Qo×QA)×Qo):=[((141,Y "load"),124),((141,Y "store"),131)]
noncomputable def hg:RU:=bV (H 94) 0
noncomputable def iX:List V:=[.int 32,.int 7,.int 15,.int 38,.int 1000000,.int 19,.int 72,.int 40]
noncomputable def ab:aO where
 fn i:=if i=662 then J (kr hg iX)else(mp.lookup i).map λd=>kr d []
 init i:=vm.lookup i
 NY hc T:=vn.lookup (hc,T)
 fld hc T:=vl.any λas=>as.1==hc&&as.2.any λj=>j==T
noncomputable def vo:List Qo:=[3,35,662,832,691,655,37,38,62,63,140,141,329,330,425,426,664,665,685,686]++mp.map (·.1)
noncomputable def cv(a:Rt):Q3:=vo.map λi=>(i,((al a).get? i).getD ⟨.none,U,.plain,#[]⟩)
set_option tactic.hygienic true in
theorem vp[BEq u5][LawfulBEq u5]{c:u5→MQ}{b:u5}{d:MQ}:∀{b2:List u5},(b2.map λj=>(j,c j)).lookup b=J d→b∈b2∧d=c b
 |[],a=>by cases a
 |j::b2,a=>by
  rw [Rv,Rx]at a;split at a
  ·rename_i e;obtain rfl:=Qj a;exact Q (eq_of_beq e ..) ⟨.head _,rfl⟩
  ·exact ar (vp a) λf g=>⟨.tail _ f,g⟩
theorem DI(a:Rt):(vo.all λi=>((al a).get? i).isSome)=Qp:=by kernel_rfl
theorem n5(a:Rt):(cv a).In (al a):=by
 intro b g c;refine ar (vp c) λd e=>?_;have:=Rc.mp (DI a) b d;refine bY (Rm.mp this) λh f=>Q (e ..) (Q (f ..) ?_);rfl
theorem DJ(a:Rt):(vl.all λas=>as.2.all λT=>U6 (cv a) as.1 T&&Wc (cv a) as.1&&Sb (cv a) (.ref as.1) T==J U&&Sb (cv a) (.ref as.1) "__setattr__" ==J (J (.builtin "object.__setattr__"))&&Wb (cv a) as.1&&T3 (cv a) as.1 T==J U)=Qp:=by kernel_rfl
theorem DK(a:Rt):(vn.all λas=>U6 (cv a) as.1.1 as.1.2&&Sb (cv a) (.ref as.1.1) as.1.2==J (J (.ref as.2))&&WI (cv a) (.ref as.2))=Qp:=by kernel_rfl
theorem DL(a:Rt):(vm.all λas=>makesIn (cv a) as.1&&Sb (cv a) (.ref as.1) "__init__" ==J (J (.ref as.2))&&WI (cv a) (.ref as.2)&&Tf (cv a) (.ref as.1))=Qp:=by kernel_rfl
theorem vq:∀{aB:List QA}{G:List Qk},aB.Nodup→aB.length=G.length→aB.filterMap (λT=>((aB.zip G).lookup T).map λp=>(T,p))=aB.zip G
 |[],[],_,_=>rfl
 |[],_::_,_,a=>by simp at a
 |_::_,[],_,a=>by simp at a
 |c::aB,p::G,d,a=>by
  refine ar (QZ.mp d) λe h=>?_;have i:aB.length=G.length:=by simpa using a
  rw [T5,T0];simp only [Rx,R9,Uv];congr 1;have j:∀{b:List QA},c∉b→b.filterMap (λT=>(match T==c with|true=>J p|false=>(aB.zip G).lookup T).map λp=>(T,p))=b.filterMap (λT=>((aB.zip G).lookup T).map λp=>(T,p)):=by
   intro b;induction b with
   |nil=>intro l;rfl
   |cons T b f=>
    intro g;have:(T==c)=false:=Q0.mpr (by clear d a e f;rintro rfl;exact g (.head _));rw [T0,T0,this,f λk=>g (.tail _ k)]
  exact(j e).trans (vq h i)
set_option tactic.hygienic true in
theorem vr:∀{aB:List QA}{G:List Qk},aB.length=G.length→∀T∈aB,((aB.zip G).lookup T).isSome=Qp
 |[],[],_,T,a=>by exact fu a
 |[],_::_,a,_,_=>by simp at a
 |_::_,[],a,_,_=>by simp at a
 |d::aB,e::G,a,T,b=>by
  rw [T5,Rx];split
  ·rfl
  ·rename_i c;refine vr (by simpa using a) T ?_;clear a;rcases QX.mp b with rfl|b
   ·simp at c
   ·exact b
theorem vs(c:L=[]){a:MQ}{b:MQ→WJ Nf}(d:b a=E):(forIn L a f>>=b)=E:=by subst c;exact d
theorem vt(c:u4.params.posonlyargs=[])(d:u4.params.vararg=none)(e:u4.params.kwonlyargs=[])(f:u4.params.kwarg=none)(g:u4.defaults=.none)(h:(u4.params.args.map (·.arg)).Nodup)(b:(u4.params.args.map (·.arg)).length=G.length):
  bindArgs u4 ⟨G,[]⟩=pure ((u4.params.args.map (·.arg)).zip G):=by
 obtain⟨s,t,j,u,v,w,x,y,z,A,B,C,code,D,E⟩:=u4;obtain⟨F,a,H,I,K,L⟩:=j;dsimp only at c d e f g h b;subst c d e f g;unfold bindArgs;have M:seqItems? .none=pure none:=rfl;have k:G.length=(a.map (·.arg)).length:=b.symm;have l:((a.map (·.arg)).filter λT=>(((a.map (·.arg)).zip G).lookup T).isNone)=[]:=by
  refine List.filter_eq_nil_iff.mpr λT m=>?_;have:=vr b T m;generalize n:((a.map (·.arg)).zip G).lookup T=o;induction o using Qm with
  |none=>rw [n]at this;cases this
  |some N=>simp
 have p:¬((decide ((⟨G,[]⟩:Args).pos.length>(([]:List PySem.Arg).map (·.arg)++a.map (·.arg)).length)&&(Option.isNone (none:Option PySem.Arg)))=Qp):=by
  show¬((decide (G.length>(a.map (·.arg)).length)&&Qp)=Qp);rw [k];simp
 refine(Qs p).trans ?_;have i:Uw (TW ([]:List Qk)-(a.map (·.arg)).length) ([]:List Qk)=[]:=List.drop_nil;have q:¬((!(List.filter (λT=>(List.lookup T ((a.map (·.arg)).zip G)).isNone) (List.take ((a.map (·.arg)).length-(Uw (TW ([]:List Qk)-(a.map (·.arg)).length) ([]:List Qk)).length) (a.map (·.arg)))).isEmpty)=Qp):=by
  rw [i,Rw,Nat.sub_zero,List.take_length,l];decide
 refine(Qs q).trans ?_;have r:(Uw ((a.map (·.arg)).length-(Uw (TW ([]:List Qk)-(a.map (·.arg)).length) ([]:List Qk)).length) (a.map (·.arg))).zip (Uw (TW ([]:List Qk)-(a.map (·.arg)).length) ([]:List Qk))=[]:=by rw [i,List.zip_nil_right]
 refine vs r (vs rfl ?_);exact QP pure ((QP (List.filterMap _) (RI _)).trans (vq h b))
noncomputable def vu(a:QA)(b:Qk):Bool:=match b with
 |.str j _=>j==a
 |_=>Qq
noncomputable def mq(a:Option Tp)(b:QA):Bool:=hU (λc=>match c.data with
 |.fields v=>hU (vu b) v[1]?
 |_=>Qq) a
theorem DM{b:QA}{a:Qk}(c:vu b a=Qp):∃D,a=.str b D:=by
 induction a using RZ<;>first|exact bG c.symm|exact⟨_,by rw [eq_of_beq c]⟩
theorem n6{b:Q9}(e:∀l q,b.get? l=J q→h.get? l=J q){c:Qo}{d:QA}(a:mq (b.get? c) d=Qp):h.CodeRec (.ref c) d:=by
 refine iR a λf g a=>?_;obtain⟨n,o,i,fR⟩:=f;induction i using Ve<;>first|exact bG a.symm|skip
 refine iR a λp j a=>bY (DM a) λk m=>?_;exact⟨_,_,_,k,rfl,e _ _ g,rfl,by rw [j,m]⟩
structure lp where
 a:Addr
 s:Stmt
 q:String
 m:Value
 c:Addr
noncomputable def mr:List lp:=[⟨103,H 14, "units_of",(aA "f77.kinds" 298),102⟩,
 ⟨117,bV (H 18) 0, "Memory.__init__",(aA "f77.memory" 319),116⟩,
 ⟨124,bV (H 18) 1, "Memory.load",(aA "f77.memory" 319),123⟩,
 ⟨131,bV (H 18) 2, "Memory.store",(aA "f77.memory" 319),130⟩,
 ⟨152,H 19, "need_units",(aA "f77.memory" 319),151⟩,
 ⟨159,H 20, "read_cell",(aA "f77.memory" 319),158⟩,
 ⟨166,H 21, "load_number",(aA "f77.memory" 319),165⟩,
 ⟨173,H 22, "store_number",(aA "f77.memory" 319),172⟩,
 ⟨222,H 30, "fit_int",(aA "f77.ints" 484),221⟩,
 ⟨229,H 31, "int_add",(aA "f77.ints" 484),228⟩,
 ⟨236,H 32, "int_sub",(aA "f77.ints" 484),235⟩,
 ⟨250,H 34, "cut_quotient",(aA "f77.ints" 484),249⟩,
 ⟨257,H 35, "int_div",(aA "f77.ints" 484),256⟩,
 ⟨278,H 38, "order_of",(aA "f77.ints" 484),277⟩,
 ⟨285,H 39, "holds",(aA "f77.ints" 484),284⟩,
 ⟨292,H 40, "int_binary",(aA "f77.ints" 484),291⟩,
 ⟨306,H 44, "is_zero",(aA "f77.counts" 598),305⟩,
 ⟨313,H 45, "trip_count",(aA "f77.counts" 598),312⟩,
 ⟨327,bV (H 47) 0, "Run.__init__",(aA "f77.plainexpr" 622),326⟩,
 ⟨341,H 48, "evaluate",(aA "f77.plainexpr" 622),340⟩,
 ⟨348,H 49, "named_place",(aA "f77.plainexpr" 622),347⟩,
 ⟨367,H 52, "place_of",(aA "f77.plainexpr" 622),366⟩,
 ⟨374,H 53, "eval_const",(aA "f77.plainexpr" 622),373⟩,
 ⟨381,H 54, "eval_place",(aA "f77.plainexpr" 622),380⟩,
 ⟨388,H 55, "reckon",(aA "f77.plainexpr" 622),387⟩,
 ⟨395,H 56, "eval_binary",(aA "f77.plainexpr" 622),394⟩,
 ⟨402,H 57, "eval_compare",(aA "f77.plainexpr" 622),401⟩,
 ⟨409,H 58, "plain_expressions",(aA "f77.plainexpr" 622),408⟩,
 ⟨423,bV (H 60) 0, "Flow.__init__",(aA "f77.flow" 768),422⟩,
 ⟨437,H 61, "note_label",(aA "f77.flow" 768),436⟩,
 ⟨444,H 62, "note_arm",(aA "f77.flow" 768),443⟩,
 ⟨451,H 63, "open_arm",(aA "f77.flow" 768),450⟩,
 ⟨458,H 64, "note_ends",(aA "f77.flow" 768),457⟩,
 ⟨465,H 65, "flow_of",(aA "f77.flow" 768),464⟩,
 ⟨472,H 66, "sign_of",(aA "f77.flow" 768),471⟩,
 ⟨479,H 68, "flow_for",(aA "f77.plainstmt" 866),478⟩,
 ⟨486,H 69, "execute",(aA "f77.plainstmt" 866),485⟩,
 ⟨493,H 70, "count_step",(aA "f77.plainstmt" 866),492⟩,
 ⟨500,H 71, "run_unit",(aA "f77.plainstmt" 866),499⟩,
 ⟨507,H 72, "jump_to",(aA "f77.plainstmt" 866),506⟩,
 ⟨514,H 73, "store_value",(aA "f77.plainstmt" 866),513⟩,
 ⟨521,H 74, "do_assign",(aA "f77.plainstmt" 866),520⟩,
 ⟨528,H 75, "label_place",(aA "f77.plainstmt" 866),527⟩,
 ⟨535,H 76, "do_setlabel",(aA "f77.plainstmt" 866),534⟩,
 ⟨542,H 77, "label_in",(aA "f77.plainstmt" 866),541⟩,
 ⟨549,H 78, "assign_statements",(aA "f77.plainstmt" 866),548⟩,
 ⟨556,H 79, "do_goto",(aA "f77.plainstmt" 866),555⟩,
 ⟨563,H 80, "do_cgoto",(aA "f77.plainstmt" 866),562⟩,
 ⟨570,H 81, "do_agoto",(aA "f77.plainstmt" 866),569⟩,
 ⟨577,H 82, "do_aif",(aA "f77.plainstmt" 866),576⟩,
 ⟨584,H 83, "do_lif",(aA "f77.plainstmt" 866),583⟩,
 ⟨591,H 84, "do_if",(aA "f77.plainstmt" 866),590⟩,
 ⟨598,H 85, "do_arm",(aA "f77.plainstmt" 866),597⟩,
 ⟨605,H 86, "do_on",(aA "f77.plainstmt" 866),604⟩,
 ⟨612,H 87, "do_do",(aA "f77.plainstmt" 866),611⟩,
 ⟨619,H 88, "step_loops",(aA "f77.plainstmt" 866),618⟩,
 ⟨626,H 89, "do_return",(aA "f77.plainstmt" 866),625⟩,
 ⟨633,H 90, "do_end",(aA "f77.plainstmt" 866),632⟩,
 ⟨647,H 92, "control_statements",(aA "f77.plainstmt" 866),646⟩,
 ⟨683,bV (H 96) 0, "UnitTree.__init__",(aA "f77.trees" 1176),682⟩,
 ⟨698,H 99, "_law_draw",(aA "law_no0283_01" 1221),697⟩,
 ⟨705,H 100, "_law_fresh",(aA "law_no0283_01" 1221),704⟩,
 ⟨712,H 101, "_law_set",(aA "law_no0283_01" 1221),711⟩,
 ⟨719,H 102, "_law_cond",(aA "law_no0283_01" 1221),718⟩,
 ⟨726,H 103, "_law_term",(aA "law_no0283_01" 1221),725⟩,
 ⟨733,H 104, "_law_do",(aA "law_no0283_01" 1221),732⟩,
 ⟨738,H 105, "_law_part",(aA "law_no0283_01" 1221),737⟩,
 ⟨745,H 106, "_law_body",(aA "law_no0283_01" 1221),744⟩,
 ⟨752,H 107, "_law_var",(aA "law_no0283_01" 1221),751⟩,
 ⟨759,H 108, "_law_const",(aA "law_no0283_01" 1221),758⟩,
 ⟨766,H 109, "_law_test",(aA "law_no0283_01" 1221),765⟩,
 ⟨773,H 110, "_law_plain",(aA "law_no0283_01" 1221),772⟩,
 ⟨780,H 111, "_law_lay",(aA "law_no0283_01" 1221),779⟩,
 ⟨787,H 112, "_law_lay_if",(aA "law_no0283_01" 1221),786⟩,
 ⟨794,H 113, "_law_lay_do",(aA "law_no0283_01" 1221),793⟩,
 ⟨799,H 114, "_law_lay_switch",(aA "law_no0283_01" 1221),798⟩,
 ⟨806,H 115, "_law_holds",(aA "law_no0283_01" 1221),805⟩,
 ⟨813,H 116, "_law_do_plain",(aA "law_no0283_01" 1221),812⟩,
 ⟨820,H 117, "_law_run",(aA "law_no0283_01" 1221),819⟩,
 ⟨827,H 118, "_law_loop",(aA "law_no0283_01" 1221),826⟩]
noncomputable def ks(a:lp):Tp:=⟨.type "function",U,.func (es a.s a.q 3 [] .none .none .none a.m U (.ref a.c) .none 0),#[]⟩
theorem DN(a:Rt):mr.map (λE=>(al a).get? E.a)=mr.map λE=>J (ks E):=by kernel_rfl
theorem DO:mr.map (λE=>(E.a,E.s))=mp:=by kernel_rfl
theorem DP(a:Rt):(mr.all λE=>mq ((al a).get? E.c) (Y E.q))=Qp:=by kernel_rfl
theorem DQ(a:Rt):(mr.all λE=>Tf (cv a) (.ref E.a))=Qp:=by kernel_rfl
theorem vv{c d:u5→MQ}:∀{b2:List u5},b2.map c=b2.map d→∀j∈b2,c j=d j
 |[],_,_,a=>by exact fu a
 |i::b2,a,j,b=>by
  simp only [Rv,VE]at a;rcases QX.mp b with rfl|b
  ·exact a.1
  ·exact vv a.2 j b
theorem vw{b:QA→Nat→Prop}:∀{aB:List QA}{a2:Nat},(∀as∈aB.zipIdx a2,b as.1 as.2)→aM b aB (SQ a2 aB.length)
 |[],_,_=>.nil
 |as::aB,a2,a=>by
  rw [Qw,S5];rw [List.zipIdx_cons]at a;exact .cons (a _ (.head _)) (vw λc d=>a c (.tail _ d))
theorem vx(a:gO T [] MJ=J v):v=MJ∧MJ.length=T:=by
 unfold gO at a;by_cases b:MJ.length+([]:List V).length=T
 ·rw [Qt b]at a;exact⟨((Qj a).symm.trans (RI _)),b⟩
 ·rw [Qs b]at a;exact ag a
theorem qQ{b:Arguments}(a:n4 b MW=Qp):b.posonlyargs=[]∧b.vararg=none∧b.kwonlyargs=[]∧b.kwarg=none∧aM (λas z=>∃a2,MW.names[z]? =some (as,a2)∧hd a2=Qp) (b.args.map (·.arg)) (R4 b.args.length):=by
 unfold n4 at a;simp only [Ry]at a;refine bE λq d=>ar a λe f=>ar e λg h=>ar g λi j=>ar i λk l=>d ((sF (by simpa using k) (by simpa using l) (by simpa using j) (by simpa using h) ?_));rw [VB,←QL (f:=λc:PySem.Arg=>c.arg) (as:=b.args)];refine vw λas m=>?_;have:=Rc.mp f as m;revert this;generalize n:MW.names[as.2]? =o;induction o using Qm with
 |none=>intro a;exact bG a.symm
 |some p=>
  clear n;obtain⟨c,a2⟩:=p;intro a;simp only [Ry,Sn]at a;exact⟨a2,by rw [a.1],a.2⟩
theorem DR{b:QA}(c:aM (λb z=>∃a2,n[z]? =J (b,a2)∧hd a2=Qp) aB MR):b∈aB→∃z∈MR,∃a2,n[z]? =J (b,a2):=by
 induction c with
 |nil=>intro a;exact fu a
 |cons d _ e=>
  intro a;rcases QX.mp a with rfl|a
  ·refine ae d λa2 f i=>?_;exact⟨_,.head _,a2,f⟩
  ·refine ae (e a) λz g h=>?_;exact(aU z (.tail _ g) h)
theorem vy(b:(n.map (·.1)).Nodup)(c:aM (λas z=>∃a2,n[z]? =J (as,a2)∧hd a2=Qp) aB MR):MR.Nodup→aB.Nodup:=by
 induction c with
 |nil=>exact λd=>Rq
 |cons e f g=>
  intro h;refine ar (QZ.mp h) λi j=>QZ.mpr ⟨λk=>?_,g j⟩;refine ae (DR f k) λp l a=>bY a λa2 m=>ae e λq o d=>?_;clear a;obtain rfl:=mj b o m;exact i l
theorem DS{a:lp}(g:Tf it (.ref a.a)=Qp)(d:h.get? a.a=J (ks a))(i:h.CodeRec (.ref a.c) (Y a.q))(b:qO a.s=Qp):∃q u4 L aB,km it h dS a.a (kr a.s []) q u4 L aB:=by
 obtain⟨M,o,N,O,P⟩:=a;dsimp only at g d i b⊢;unfold ks at d;refine ar (QC.mp b) λb p=>qP b λT c e Q R S j V W X r s t u k v w=>?_;clear b;clear b;subst r;refine bE λZ x=>kU (qQ w) λy z A B l=>bY (Rm.mp p) λaa C=>x ((zC _ _ e (c.args.map λD:PySem.Arg=>D.arg) ⟨⟨d,rfl,rfl,rfl,rfl,rfl,s,t,u,i,k,v,rfl,l,λ{ab o E F G} ad m n=>?_⟩,?_,g⟩))
 ·have H:(R4 c.args.length).length=c.args.length:=Uh;have f:gO (R4 c.args.length).length [] E=J F:=m;rw [H]at f;refine ar (vx f) λI K=>?_;clear m f;subst I;refine⟨G,n,Wv (vt y z A B rfl (vy k l Ww) ?_)⟩;show(c.args.map (·.arg)).length=_;rw [QL,n.length,K]
 ·show fj dS Qp j.names e=J ((fj dS Qp j.names e).getD []);rw [C];rfl
set_option tactic.hygienic true in
theorem kt[BEq u5][LawfulBEq u5]{b:u5}{c:MQ}:∀{b2:List (u5×MQ)},b2.lookup b=J c→(b,c)∈b2
 |[],a=>by cases a
 |(e,f)::b2,a=>by
  rw [Rx]at a;split at a
  ·rename_i d;obtain rfl:=Qj a;refine Q (eq_of_beq d ..) ?_;exact .head _
  ·exact .tail _ (kt a)
section
variable{Nl:Rt}
theorem DT(c:∀l q,(al Nl).get? l=J q→h.get? l=J q){d:RU}(e:mp.lookup i=J d):∃q u4 g aB,km (cv Nl) h dS i (kr d []) q u4 g aB:=by
 have f:=kt e;rw [←DO]at f;refine ae (RH.mp f) λa b j=>?_;cases j;refine DS (Rc.mp (DQ Nl) a b) (c _ _ (vv (DN Nl) a b)) (n6 c (Rc.mp (DP Nl) a b)) (Rc.mp DH _ (kt e))
theorem DU(c:∀l q,(al Nl).get? l=J q→h.get? l=J q):fG (cv Nl) h ab where
 Pm:=(n5 Nl).keeps c
 fld hc T u:=by
  refine ae (R1.mp u) λd e a=>?_;simp only [Ry,Sn]at a;clear u;obtain⟨rfl,a⟩:=a;obtain⟨s,f,a⟩:=R1.mp a;cases Sn.mp a;have:=Rc.mp (Rc.mp (DJ Nl) d e) _ f;simp only [Ry,Sn]at this;exact bE λt g=>ar this λi b=>ar i λj k=>ar j λm n=>ar m λo p=>ar o λr l=>g ⟨r,l,p,n,k,b⟩
 NY hc T b u:=by
  have:=Rc.mp (DK Nl) _ (kt u);simp only [Ry,Sn]at this;exact⟨this.1.1,this.1.2,this.2⟩
def n7(a:Qk×V):Bool:=match a.1 with
 |.str j _=>(match a.2 with
  |.str c2=>j==c2
  |_=>Qq)
 |_=>Qq
theorem DV(a:n7 (A,p)=Qp):ah e p A:=by
 induction A using RZ<;>first|exact bG a.symm|skip
 induction p using V.casesOn<;>first|exact bG a.symm|skip
 refine Q (eq_of_beq (show _=Qp from a) ..) ?_;exact .str _ _
theorem DW:∀{v:List V},(G.zip v).all n7=Qp→G.length=v.length→bh e v G:=by
 induction G with
 |nil=>
  intro v c a;clear c;induction v using QH with
  |nil=>exact .nil
  |cons _ _=>cases a
 |cons h G d=>
  intro v a b;induction v using QH with
  |nil=>cases b
  |cons i v=>
   exact ar (QC.mp a) λf g=>.cons (DV f) (d g (UK b))
def vz(a:List V)(b:Data):Bool:=match b with
 |.seq G _=>(G.toList.zip a).all n7&&(G.size==a.length&&decide (a.length≤100))
 |_=>Qq
theorem DX{a:Data}(b:vz v a=Qp):∃G T,a=.seq G T∧(G.toList.zip v).all n7=Qp∧(G.size==v.length&&decide (v.length≤100))=Qp:=by
 induction a using Ve<;>first|exact bG b.symm|skip
 exact(gg _ _ rfl (QC.mp b))
def vA(b:List V)(a:Tp):Bool:=a.cls== .type "list" &&(a.dict.isNone&&(a.slots.isEmpty&&vz b a.data))
theorem DY{a:Tp}{b:Qk}{c:Data}(d:a.cls=b)(e:a.dict=U)(f:a.slots= #[])(g:a.data=c):a=⟨b,U,c,#[]⟩:=by
 induction a using PySem.Obj.casesOn
 subst d e f g;rfl
theorem DZ{d:Q9}(b:d.get? i=J f)(a:vA v f=Qp):ah (λi=>d.get? i) (.lst v) (.ref i):=by
 refine ar (QC.mp a) λe a=>ar (QC.mp a) λg a=>ar (QC.mp a) λh a=>bQ (DX a) λj T k l a=>ar (QC.mp a) λc m=>?_;have c:=eq_of_beq c;have b:=b.trans (QP J (DY (eq_of_beq e) (Tq.mp g) (Array.isEmpty_iff.mp h) k));exact .lst (G:=j.toList) (T:=T) b (DW l c) (Qv (Re m) (by decide))
def vB(a:Qo→Bool)(b:Qk):Bool:=match b with
 |.ref i=>a i
 |_=>Qq
theorem D0{a:Qo→Bool}(b:vB a A=Qp):∃i,A=.ref i∧a i=Qp:=by
 induction A using RZ<;>first|exact bG b.symm|exact(aU _ rfl b)
def vC(a:Int)(b:Qk):Bool:=match b with
 |.int lb _=>a==lb
 |_=>Qq
theorem D1{a:Int}(b:vC a A=Qp):ah e (.int a) A:=by
 induction A using RZ<;>first|exact bG b.symm|skip
 refine Q (eq_of_beq (show _=Qp from b) ..) ?_;exact .int _ _
def qR(c:Q3)(d:V)(b:Qk):Bool:=match d with
 |.int T=>vC T b
 |.NS a=>a==b
 |.lst v=>vB (λi=>hU (vA v) (c.lookup i)) b
 |_=>Qq
theorem vD(b:it.In h)(a:qR it p A=Qp):ah (λi=>h.get? i) p A:=by
 induction p using V.casesOn<;>first|exact bG a.symm|skip
 ·exact D1 a
 ·have a:=eq_of_beq (show(_==A)=Qp from a);refine Q (a ..) ?_;exact .NS _
 ·refine ae (D0 a) λi c a=>?_;subst c;exact iR a λe d a=>DZ (b _ _ d) a
theorem D2(a:Rt):(vh.all λas=>match nsIn (cv a) SH as.1 with
 |some (some p)=>qR (cv a) as.2 p
 |_=>Qq)=Qp:=by kernel_rfl
theorem D3(a:Rt):(vi.all λas=>nsIn (cv a) SH as.1==some U&&(as.1 !=Y "__name__")&&match bootBuiltins as.1 with
 |some p=>qR (cv a) as.2 p
 |_=>Qq)=Qp:=by kernel_rfl
set_option tactic.hygienic true in
theorem vE(i:∀l q,(al Nl).get? l=some q→h.get? l=some q)(a:T4 hv Nd M9 Nb h):hW h dS:=by
 have c:(cv Nl).In h:=(n5 Nl).keeps i;refine⟨M9,Nb,a.g,a.b,λe o d=>?_⟩;unfold dS at d;split at d
 ·rename_i p j;obtain rfl:=Qj d;have:=Rc.mp (D2 Nl) _ (kt j);generalize f:nsIn (cv Nl) SH e=zz at this;induction zz using Qm with
  |some b=>induction b using Qm with
   |some b=>exact⟨b,.inl (mg_of c a.g f),vD c this⟩
   |none=>exact bG this.symm
  |none=>exact bG this.symm
 ·have:=Rc.mp (D3 Nl) _ (kt d);simp only [Ry,Sn,bne_iff_ne]at this;refine ar this λk g=>ar k λm n=>?_;generalize f:bootBuiltins e=zz at g;induction zz using Qm with
  |some b=>exact⟨b,.inr ⟨ns_none_of c a.g m,(a.builtins e n).trans f⟩,vD c g⟩
  |none=>exact bG g.symm
theorem D4(a:Rt):((al a).get? sysModules).isSome=Qp:=by kernel_rfl
def vF:Tp:=⟨.type "function",U,.func (es hg "Limits.__init__" 3 [] (.ref 655) .none .none (aA "f77.limits" 1123) U (.ref 661) .none 0),#[]⟩
def ms:List Qk:=[.int 32 1137,.int 7 1138,.int 15 1139,.int 38 1140,.int 1000000 1141,.int 19 1142,.int 72 1143,.int 40 1144]
theorem D5(a:Rt):[(al a).get? 662,(al a).get? 655]=[J vF,J ⟨.type "tuple",U,.seq ms.toArray 0,#[]⟩]:=by kernel_rfl
theorem D6(a:Rt):(mq ((al a).get? 661) (Y "Limits.__init__"))=Qp:=by kernel_rfl
theorem D7(a:Rt):Tf (cv a) (.ref 662)=Qp:=by kernel_rfl
theorem D8:qO hg=Qp:=by kernel_rfl
theorem D9:(gK hg).args.map (λj:PySem.Arg=>j.arg)=[Y "self",Y "width",Y "real_digits",Y "double_digits",Y "top_exponent",Y "steps",Y "continuations",Y "columns",Y "depth"]:=by kernel_rfl
end
section
variable{Nl:Rt}
abbrev n8:QR:=es hg "Limits.__init__" 3 [] (.ref 655) .none .none (aA "f77.limits" 1123) U (.ref 661) .none 0
abbrev vG:List QA:=[Y "self",Y "width",Y "real_digits",Y "double_digits",Y "top_exponent",Y "steps",Y "continuations",Y "columns",Y "depth"]
theorem Ea(b:d.heap.get? 655=J ⟨.type "tuple",U,.seq ms.toArray 0,#[]⟩)(a:Qk):BindsTo d n8 ⟨[a],[]⟩ (vG.zip ([a]++ms.drop 0)):=
 BindsTo.of_defaults rfl b rfl rfl tb_g%
theorem Eb:bh e iX ms:=.cons (.int _ _) (.cons (.int _ _) (.cons (.int _ _) (.cons (.int _ _) (.cons (.int _ _) (.cons (.int _ _) (.cons (.int _ _) (.cons (.int _ _) .nil)))))))
theorem Ec(h:d.heap.get? 655=J ⟨.type "tuple",U,.seq ms.toArray 0,#[]⟩)(a:gO 9 iX MJ=J v)(b:bh e MJ G):∃f,bh e v f∧BindsTo d n8 ⟨G,[]⟩ (vG.zip f):=by
 unfold gO at a;by_cases c:MJ.length+iX.length=9
 ·rw [Qt c]at a;have i:MJ.length=1:=Nat.add_right_cancel (m:=8) c;refine Q (Rj (Qj a ..)) ?_;have j:=b.append Eb;have g:=b.length;rw [i]at g;clear b;obtain⟨k,rfl⟩:=List.length_eq_one_iff.mp g;exact⟨_,j,Ea h k⟩
 ·rw [Qs c]at a;exact ag a
theorem Ed(m:∀l q,(al Nl).get? l=J q→h.get? l=J q):∃q u4 L aB,km (cv Nl) h dS 662 (kr hg iX) q u4 L aB:=by
 have a:=D5 Nl;simp only [VE,and_true]at a;have d:=m _ _ a.1;have t:=m _ _ a.2;have u:h.CodeRec (.ref 661) (Y "Limits.__init__"):=n6 m (D6 Nl);have b5:=D8;have p:=D9;have e:∀{b:ax}{f:Ql}{g i:List V}{j:List Qk},(∀l q,h.get? l=J q→b l=J q∧f.heap.get? l=J q)→gO (kr hg iX).OB.length iX g=J i→bh b g j→∃r,bh b i r∧BindsTo f n8 ⟨j,[]⟩ (((gK hg).args.map λc:PySem.Arg=>c.arg).zip r):=by
  intro b f g i j n k o;have v:(kr hg iX).OB.length=9:=by
   show(R4 (gK hg).args.length).length=9;refine Q (Uh ..) (Q (Rj (QL (f:=λc:PySem.Arg=>c.arg) ..)) (Q (p ..) ?_));rfl
  rw [v]at k;exact Q (p ..) (Ec (n _ _ t).2 k o)
 unfold vF at d;unfold n8 at e;revert d b5 e;generalize hg=H;intro d b5 e;refine ar (QC.mp b5) λb5 w=>qP b5 λT x l I K M s N O P a y z A B C D=>?_;clear b5;clear b5;subst a;refine bE λR E=>kU (qQ D) λS W X Z F=>bY (Rm.mp w) λaa G=>E (⟨_,_,l,(x.args.map λc:PySem.Arg=>c.arg),⟨⟨d,rfl,rfl,rfl,rfl,rfl,y,z,A,u,B,C,rfl,F,λ{b f g i j} n k o=>e n k o⟩,?_,D7 Nl⟩⟩)
 ·show fj dS Qp s.names l=J ((fj dS Qp s.names l).getD []);refine Q (G ..) ?_;rfl
set_option tactic.hygienic true in
theorem vH(c:∀l q,(al Nl).get? l=J q→h.get? l=J q)(f:T4 hv Nd M9 Nb h):uz b a (cv Nl) h dS ab where
 k:=DU c
 Py:=let⟨q,g⟩:=Rm.mp (D4 Nl);⟨q,c _ _ g⟩
 nl:=f.nolimit
 Pn:=vE c f
 fn d MK u:=by
  unfold ab at u;dsimp only at u;split at u
  ·rename_i i;obtain rfl:=Qj u;exact Q (i ..) (Ed c)
  ·refine ae (SV.mp u) λp j e=>?_;clear u;subst e;exact DT c j
 cls d Nn u:=by
  have:=Rc.mp (DL Nl) _ (kt u);simp only [Ry,Sn]at this;exact bE λr k=>ar this λe m=>ar e λn o=>ar n λd l=>k ⟨d,l,o,m⟩
end
def n9(a:RU):aY:=⟨R4 (gK a).args.length,[],(eJ a).names.length,[]⟩
theorem vI{a:lp}(e:h.get? a.a=J (ks a))(f:h.CodeRec (.ref a.c) (Y a.q))(c:ln a.s=Qp):nV h a.a (n9 a.s) (ks a) (es a.s a.q 3 [] .none .none .none a.m U (.ref a.c) .none 0) (g9 a.s) ((gK a.s).args.map λj:PySem.Arg=>j.arg)∧(es a.s a.q 3 [] .none .none .none a.m U (.ref a.c) .none 0).scope=eJ a.s:=by
 obtain⟨D,m,E,F,G⟩:=a;dsimp only at e f c⊢;refine qP c λT b H I K L M N O P n o p q g r s=>?_;clear c;subst n;refine kU (qQ s) λt u v w i=>⟨⟨e,rfl,rfl,rfl,rfl,rfl,o,p,q,f,g,r,rfl,i,λ{Q m x y z} R k l=>?_⟩,rfl⟩
 ·have A:(R4 b.args.length).length=b.args.length:=Uh;have d:gO (R4 b.args.length).length [] x=J y:=k;rw [A]at d;refine ar (vx d) λB C=>?_;clear k d;subst B;refine⟨z,l,Wv (vt t u v w rfl (vy g i Ww) ?_)⟩;show(b.args.map (·.arg)).length=_;rw [QL,l.length,C]
def oa:lp:=⟨35,bV (H 2) 0, "F77Error.__init__",(aA "f77.errors" 194),34⟩
theorem Ee(a:Rt):(al a).get? 35=J (ks oa):=by kernel_rfl
theorem Ef(a:Rt):(mq ((al a).get? 34) (Y "F77Error.__init__"))=Qp:=by kernel_rfl
theorem Eg:ln (bV (H 2) 0)=Qp:=by kernel_rfl
theorem Eh:(gK (bV (H 2) 0)).args.map (λj:PySem.Arg=>j.arg)=[Y "self",Y "text"]:=by kernel_rfl
theorem Ei:c1 (eJ (bV (H 2) 0)).names "self" =J 0∧c1 (eJ (bV (H 2) 0)).names "text" =J 1∧(eJ (bV (H 2) 0)).names.lookup ("Exception" :QA)=J .globalImplicit∧(n9 (bV (H 2) 0)).OB=[0,1]:=(gf tb_g% tb_g% tb_g% tb_g%)
theorem Ej:∃k f m L g ap bd bi ca cn:Si,g9 (bV (H 2) 0)=[.Expr (.Call (.Attribute (.Name "Exception" k) "__init__" f) [.Name "self" m,.Name "text" L] [] g) ap,.Assign [.Attribute (.Name "self" bd) "text" bi] (.Name "text" ca) cn]∧f.endLine=g.line:=
 (zF _ _ _ _ _ _ _ _ _ _ rfl rfl)
def qS:QJ:=⟨Y "RunFault",[.ref 38],[.ref 63,.ref 38,.type "Exception",.type "BaseException",.type "object"],62,Y "RunFault",Qp,[],[],Qq,U,Qq⟩
theorem Ek(a:Rt):(al a).get? 63=J ⟨.type "type",U,.cls qS,#[J (.ref 54),U,J (aA "RunFault" 241),J (aA "RunFault" 249),J (.builtin "Exception.__new__"),J (.bool Qp)]⟩:=by kernel_rfl
theorem qT(a:Rt):Sb (cv a) (.ref 63) "__init__" =J (J (.ref 35))∧Sb (cv a) (.ref 63) "__setattr__" =J (J (.builtin "object.__setattr__"))∧T3 (cv a) 63 "text" =J U∧clsIn (cv a) 63=J qS∧findCls (cv a) (.type "Exception") (.type "type") "__init__" =J (.val (.builtin "Exception.__init__"))∧Tf (cv a) (.ref 63)=Qp∧dS (Y "Exception")=J (.NS (.type "Exception"))∧dS (Y "RunFault")=J (.NS (.ref 63)):=
 (zy tb_g% tb_g% tb_g% tb_g% tb_g% tb_g% tb_g% tb_g%)
section
variable{Nl:Rt}
theorem vJ(a:∀l q,(al Nl).get? l=J q→h.get? l=J q)(c:T4 hv Nd M9 Nb h):jA (cv Nl) h dS 63 35 qS:=by
 refine sy (qT Nl) λd e f g dO j i k=>⟨(n5 Nl).keeps a,vE a c,(zG _ _ _ _ _ _ _ _ _ _ _ _ _ _ _ _ (a _ _ (Ek Nl)) ⟨by decide+kernel,by decide+kernel,by decide+kernel,by decide+kernel⟩),d,e,f,g,rfl,λb=>?_,by decide+kernel,rfl,i,dO⟩;show refuseLoop b "__setattr__" [.ref 63,.ref 38,.type "Exception",.type "BaseException",.type "object"]=pure ();rw [refuseLoop_ref,refuseLoop_ref];exact PySem.F.store_Exception.passes b
theorem vK(c:∀l q,(al Nl).get? l=J q→h.get? l=J q)(d:T4 hv Nd M9 Nb h)(m:jw b a h (bc b a h (.ref 63)) w C (cv Nl)):lm b a h (.ref 63) ab w C (cv Nl) dS:=by
 have e:=vH (b:=b) (a:=a) c d;refine⟨⟨e.k,m,e.Py,e.Pn⟩,λ{n f o p r s t T} u v=>?_⟩;subst u;obtain⟨K,L,M,N,dO,x,O,y⟩:=qT Nl;obtain⟨g,i,j,z⟩:=Ei;obtain⟨P,Q,R,S,V,W,X,Z,aa,ad,A,B⟩:=Ej;have D:h.CodeRec (.ref 34) (Y "F77Error.__init__"):=n6 c (Ef Nl);obtain⟨k,E⟩:=vI (a:=oa) (c _ _ (Ee Nl)) D Eg;have F:g9 oa.s=_:=A;have G:((gK oa.s).args.map λf:PySem.Arg=>f.arg)=[Y "self",Y "text"]:=Eh;rw [F,G]at k;have I:_=eJ (bV (H 2) 0):=E;rw [←I]at g i j;have fin:ek b a h (.ref 63) ab w C Qp n (.Raise (J (.Call (.Name (Y "RunFault") o) [.Constant (.str t) T p] [] r)) U s) .raise∧True:=
  ⟨u6 (vJ c d) d.nolimit B k rfl g i j z (by decide) rfl x (by decide) v y,trivial⟩
 exact @fin.1
theorem El(d:∀l q,(al Nl).get? l=J q→h.get? l=J q)(e:T4 hv Nd M9 Nb h)(c:Nat):jw b a h (bc b a h (.ref 63)) (dr ab c) c (cv Nl):=
 Cz (vH d e) (λ{i j} f {k m l} g=>(vg (vK d e f) g).1) c
end
section
def jC(f:QG)(g:QV)(h:Q9)(j:Qk)(k:aO)(l:aR)(m:Nat)(i:aL)(a:QN)(b:Sj)(n:List RU)(p:List N):Prop:=∀{t:aq}{e:ax}{c:I}{lb:QA→Option Qk}{d:Ql},bZ m a→aI f g h e c d.heap→bg a b i t e c d.heap lb→h0 a b→
 ∀{o:bF}{B:bt}{ht:VP→Ql→Prop}{hx:Qk→Ql→Prop},aw k l p t o B c→iU f g h i a b e c d o ht→fY f g h j Qp i a b e c d B hx→QQ (QO f g) a (execs n b) ht hx d
theorem vL{l:RU}{m:N}{p:List N}
  (v:∀{t:aq}{e:ax}{c:I}{lb:QA→Option Qk}{d:Ql},bZ C r→aI b a h e c d.heap→bg r y n t e c d.heap lb→h0 r y→∀{o:bF}{B:bt}{ht:VP→Ql→Prop}{hx:Qk→Ql→Prop},k7 x w m t o B c→iU b a h n r y e c d o ht→fY b a h cl Qp n r y e c d B hx→QQ (QO b a) r (exec l y) ht hx d)
  (z:jC b a h cl x w C n r y rest p):jC b a h cl x w C n r y (l::rest) (m::p):=by
 intro t e c lb d q N A s o B ht hx D g u;refine Td (v q N A s D ?_ u);intro a1 G H K L M O i f j k E;induction E using hZ.casesOn with
 |NX=>exact z q j k s i (g.back f) (u.back f)
 |Ow=>exact g _ _ _ _ _ _ _ i f j k .Ow
 |N9 F=>exact g _ _ _ _ _ _ _ i f j k (.N9 F)
theorem vM(d:lm b a h cl x w C it l0){e:List N}(g:jC b a h cl x w C n r y rest e):∀{l:List N},fj l0 Qp n f=J l→jC b a h cl x w C n r y (f++rest) (l++e)∧True:=by
 induction f with
 |nil=>intro l c;obtain rfl:=Qj c;exact⟨g,trivial⟩
 |cons H f i=>
  intro l c;refine bQ (gn c) λo p j k m=>?_;clear c;subst m;exact⟨vL (ve d (vf d 11) j).1 (i k).1,trivial⟩
theorem Em:jC b a h cl x w C n r y [] []∧True:=⟨uG,trivial⟩
end
abbrev eK:aL:=(eJ (H 119)).names
def qU(a:RU):Bool:=a.ctorIdx==(Stmt.Try [] [] [] [] default).ctorIdx
def ob:List RU:=(g9 (H 119)).takeWhile λd=>!qU d
def En(a:RU):List RU:=by induction a using Ud with
 |Try l _ _ _ _=>exact l
 |_=>exact []
def oc:List RU:=match((g9 (H 119)).dropWhile λd=>!qU d)with
 |d::_=>En d
 |_=>[]
def lq:List RU:=((g9 (H 119)).dropWhile λd=>!qU d).drop 1
def qV:Nat:=(c1 eK (Y "fault")).getD 0
def mu:List N:=((fj dS Qp eK ob).getD [])++(.try ((fj dS Qq eK oc).getD []) [.asg (.name qV) (.k (.bool Qp))]::((fj dS Qp eK lq).getD []))
theorem Eo:(fj dS Qp eK ob).isSome=Qp∧(fj dS Qq eK oc).isSome=Qp∧(fj dS Qp eK lq).isSome=Qp∧c1 eK (Y "fault")=J qV∧eK.lookup (Y "RunFault")=J .globalImplicit:=(sF tb_g% tb_g% tb_g% tb_g% tb_g%)
theorem Ep:∃f g k m L l2 T,g9 (H 119)=ob++(.Try oc [.ExceptHandler (J (.Name (Y "RunFault") f)) U [.Assign [.Name (Y "fault") g] (.Constant (.bool Qp) T k) m] L] [] [] l2::lq):=(zE _ _ _ _ _ _ _ (by rfl))
def h5:lp:=⟨832,H 119, "law",(aA "law_no0283_01" 1221),831⟩
theorem Er(a:Rt):(al a).get? 832=J (ks h5):=by kernel_rfl
theorem Es(a:Rt):(mq ((al a).get? 831) (Y "law"))=Qp:=by kernel_rfl
theorem vN:ln (H 119)=Qp∧(gK (H 119)).args.length=1:=⟨by kernel_rfl,by kernel_rfl⟩
section
variable{Nl:Rt}
theorem Et(f:∀l q,(al Nl).get? l=J q→d.heap.get? l=J q)(g:T4 hv Nd M9 Nb d.heap)(V:ah (λi=>d.heap.get? i) p A)
  (h:aw ab (dr ab 20) mu ((Q6 eK.length U).set 0 (J p)) (λa1 Z Z=>a1=.N9 (.bool Qp)) (λZ Z=>False) (λZ=>U))
  (j:∀M,(∀l q,d.heap.get? l=J q→M.heap.get? l=J q)→M.gens=d.gens→M.os=d.os→o (.bool Qp) M):QQ (QO b a) Uc (TE (.ref 832) [A]) o B d:=by
 have W:d.heap.CodeRec (.ref 831) (Y "law"):=n6 f (Es Nl);refine ar (vI (a:=h5) (f _ _ (Er Nl)) W vN.1) λv X=>?_;obtain⟨w,x,y,z,C,D,T,aa⟩:=Ep;have ad:g9 h5.s=_:=aa;rw [ad]at v;have ae:_=eJ (H 119):=X;have N:aI b a d.heap (λi=>d.heap.get? i) (λZ=>U) d.heap:=⟨λZ Z e=>e,λZ Z e=>⟨e,rfl⟩,λZ Z e=>‹ag e›⟩;have af:d2 Uc (λi=>d.heap.get? i) (λZ=>U) d.heap:=⟨[],rfl,λZ k=>‹fu k›⟩;have E:(n9 h5.s).OB=[0]:=by show R4 (gK (H 119)).args.length=_;refine Q (vN.2 ..) ?_;rfl
 have ai:(n9 h5.s).size=eK.length:=rfl;refine TX (qt (MJ:=[p]) (v:=[p]) g.nolimit v (by decide) af N (.cons V .nil) (by refine Q (E ..) ?_;rfl) (by refine Q (E ..) (Q (ai ..) ?_);rfl) λ{c aj ak m} am F n aQ aR an=>?_);rw [ae]at F;have ao:=El (b:=b) (a:=a) f g 20;have r:=vK (b:=b) (a:=a) f g ao;have ap:=vJ f g;refine bE λaS as=>sy (qT Nl) λaT aU aV aW dO aX aY au=>kU Eo λav ay cF az aA=>bY (Rm.mp av) λaB G=>bY (Rm.mp ay) λaC K=>bY (Rm.mp cF) λs L=>as ?_;have aD:(Uc.deeper c).frames=J [c]:=rfl;have aE:bZ 20 (Uc.deeper c):=⟨rfl,by show 301+1+10*20≤600;decide,by show 4+3+60*20≤9000;decide⟩;unfold mu at h;rw [G,K,L]at h;simp only [Option.getD_some]at h;have aF:=λ{O:aq}{P:ax}{R:I}{m:QA→Option Qk}{M:Ql}{S:Qk→Ql→Prop}=>Do (hx:=S) (w:=dr ab 20) (x:=ab) (C:=20) (n:=eK) ap (vg r K).1 (L:=.bool Qp) (p:=.bool Qp) (ca:=w) (bd:=x) (bi:=y) (ap:=z) (cp:=C) (l2:=D) (T:=T) (by decide) aA au az rfl (r:=Uc.deeper c) (y:=c) (t:=O) (e:=P) (c:=R) (lb:=m) (d:=M);have aG:jC b a d.heap (.ref 63) ab (dr ab 20) 20 eK (Uc.deeper c) c lq s∧True:=by
  have hv:jC b a d.heap (.ref 63) ab (dr ab 20) 20 eK (Uc.deeper c) c (lq++[]) (s++[])∧True:=vM r Em.1 L;rw [RI,RI]at hv;exact hv
 have aH:jC b a d.heap (.ref 63) ab (dr ab 20) 20 eK (Uc.deeper c) c (ob++(.Try oc [.ExceptHandler (J (.Name (Y "RunFault") w)) U [.Assign [.Name (Y "fault") x] (.Constant (.bool Qp) T y) z] C] [] [] D::lq)) (aB++(.try aC [.asg (.name qV) (.k (.bool Qp))]::s))∧True:=
  vM r (vL (λ{O P R m M} aJ N aK n {o B aZ S} k j a0=>aF aJ N aK n aD k j) aG.1) G
 refine ar aH λhL Z=>?_;refine @hL _ _ _ _ {d with heap:=aj,toks:=ak} aE am F n _ _ _ _ h ?_ ?_
 ·intro a1 aL aM a2 M a3 a4 t aN a5 a6 aO;subst t;cases aO with
  |N9 aP=>
   induction aP using ah.PG
   have u:=an aN;exact j M (λl q e=>(u.same l q e rfl).1) u.gens u.os
 ·intro e aL aM M t;exact t.elim
end
theorem Eu:∀{G:List Qk}{f:List Int},IntsAre G f→bh e (f.map .int) G:=by
 intro G f a;induction a with
 |nil=>exact .nil
 |cons _ _ _ b=>exact .cons (.int _ _) b
theorem Ev(a:Rt):nsIn (cv a) SH (Y "law")=J (J (.ref 832)):=by kernel_rfl
set_option tactic.hygienic true in
theorem K1(m:∀f:List Int,f.length≤63→aw ab (dr ab 20) mu ((Q6 eK.length U).set 0 (J (.lst (f.map .int)))) (λa1 Z Z=>a1=.N9 (.bool Qp)) (λZ Z=>False) (λZ=>U)):Ru.Holds:=by
 refine⟨bm,holds_openX (r:=Ru.row) (q:=jl) (loose:=jm) (Xt:=λZ=>Qp) (XP:=λZ Z=>True) (d:=pJ) (kwd:=[])
  s4 (λZ Z=>trivial) (λZ Z Z Z Z=>trivial) tb_g% tb_g% tb_g%
  (λZ Z=>recFacts_nil rfl) tb_g% s3 (by decide+kernel) ⟨rfl,rfl,rfl,rfl,rfl,by decide+kernel⟩ ?_ ?_⟩
 ·exact⟨[.list []],by decide+kernel,by decide+kernel⟩
 ·intro b n e o K p q r a L M N O P s R S T g t V W X h u v w x y;have aa:=topRead_of p.T;have i:∀c a,(al b.params).get? c=J a→e.heap.get? c=J a:=λc a d=>h.keeps c a (by refine Q (show n.heap=al b.params from q) ?_;exact d);have j:=mg_of ((n5 b.params).keeps i) aa.g (Ev b.params);have k:o (Y "law")=J (.ref r):=g;rw [k]at j;clear s g k;cases j
  wrow_args u v w x y
  rename_i f _ _ _ _ _ ad ae af z ag A _ _ _ B _ C _;have D:=PySem.W.X.script_obj h A;have E:bh (λF=>e.heap.get? F) (f.map .int) z:=Eu B;have l:f.length≤63:=by exact(aN 850256368629228) C
  refine Et i aa (p:=.lst (f.map .int)) (.lst (T:=0) D E (by refine Q (QL ..) ?_;exact Qv l (by decide))) (m f l) λah G H I=>?_;exact⟨.inl (na (.bool Qp) (.bool Qp) [] rfl (λai=>rfl) (.bool Qp) (by wrow_post) (λZ=>⟨Rq,λZ d=>‹fu d›⟩)),.of_keep G,I,.of_eq (H.trans t)⟩
end
section
variable{i a n it d e hi:Int}{b C ca bi B c u T t p v ap kw:Nat}{G:Option Int}{fw hh:List Nat}{s cl:List (Int×Nat×Int)}{cn:List (List Nat)}{lb rt sb:Type}
set_option genCtorIdx true in
inductive fZ where
 |lt|le|eq|ne|gt|ge
structure cf where
 op:fZ
 v:Nat
 n:Int
structure bX where
 t:Nat
 OO:Bool
 s:Nat
 n:Int
inductive a3 where
 |set (p:bX)
 |OC (l:cf) (p:bX)
mutual
inductive c7 where
 |plain (c:a3)|exit (l:cf)|N0 (l:cf)|fin (l:cf)
 |cond (l:cf) (n:aP) (as:cr) (ho:Bool) (o:aP)
 |way (ap:Nat) (i:Bool) (A:bu)
 |sign (C:Nat) (A:bu) (o:aP)
 |sw (C:Nat) (A:bu) (o:aP)
 |loop (p:Int) (C:Nat) (b n H:Int) (body:aP) (y:Option a3)
 |pair (p:Int) (C:Nat) (b n H:Int) (body:aP) (m2:Int) (v2:Nat) (a2 b2:Int) (ins:aP) (y:Option a3)
inductive aP where
 |nil
 |cons (c:c7) (f:aP)
inductive cr where
 |nil
 |cons (l:cf) (n:aP) (f:cr)
inductive bu where
 |nil
 |cons (n:aP) (f:bu)
end
noncomputable abbrev an:=List Int
noncomputable def fZ.ev(c:fZ)(a b:Int):Bool:=match c with
 |.lt=>decide (a<b)
 |.le=>decide (a≤b)
 |.eq=>decide (a=b)
 |.ne=>decide (a≠b)
 |.gt=>decide (a>b)
 |.ge=>decide (a≥b)
noncomputable def cf.ev(a:cf)(b:an):Bool:=a.op.ev (b.getD a.v 0) a.n
noncomputable def bX.run(a:bX)(b:an):an:=b.set a.t (if a.OO then a.n-b.getD a.s 0 else b.getD a.s 0+a.n)
noncomputable def a3.run(b:a3)(a:an):an:=match b with
 |.set p=>p.run a
 |.OC l p=>if l.ev a then p.run a else a
noncomputable def f1(b:Option a3)(a:an):an:=match b with
 |none=>a
 |some c=>c.run a
set_option genCtorIdx true in
inductive aJ where
 |on|exit|N0|fin|fault
noncomputable def bD(b c a:Int):Nat:=(RM (c-b+a) a).toNat
noncomputable def d4(a:Nat)(c:Int)(b:an):an:=b.set a (b.getD a 0+c)
noncomputable def ew(d:an→aJ×an)(a:Option a3)(b:Nat)(c:Int):Nat→an→aJ×an
 |0,j=>(.on,j)
 |T+1,j=>match d j with
  |(.on,D)=>ew d a b c T (d4 b c (f1 a D))
  |(.N0,D)=>ew d a b c T (d4 b c (f1 a D))
  |f=>f
theorem vO(d:an→aJ×an)(a:Option a3)(b:Nat)(c:Int)(e:Nat)(g:an):ew d a b c (e+1) g=match d g with
  |(.on,D)=>ew d a b c e (d4 b c (f1 a D))
  |(.N0,D)=>ew d a b c e (d4 b c (f1 a D))
  |f=>f:=rfl
noncomputable def ex(e:an→aJ×an)(f:Option a3)(b:Nat)(c g a:Int)(d:an):aJ×an:=if a=0 then(.fault,d)else ew e f b a (bD c g a) (d.set b c)
noncomputable def h6(a:aJ×an)(b:an→aJ×an):aJ×an:=match a with
 |(.on,D)=>b D
 |a=>a
noncomputable def h7(a:aJ×an):aJ×an:=match a with
 |(.exit,D)=>(.on,D)
 |a=>a
noncomputable def fI(a:Int):Nat:=if a<0 then 0 else if a=0 then 1 else 2
noncomputable def aQ:bu→Nat
 |.nil=>0
 |.cons _ f=>aQ f+1
mutual
noncomputable def eL:c7→an→aJ×an
 |.plain c,j=>(.on,c.run j)
 |.exit l,j=>if l.ev j then(.exit,j)else(.on,j)
 |.N0 l,j=>if l.ev j then(.N0,j)else(.on,j)
 |.fin l,j=>if l.ev j then(.fin,j)else(.on,j)
 |.cond l n e _ a,j=>if l.ev j then bv n j else match gS e j with
  |some f=>f
  |none=>bv a j
 |.way ap _ A,j=>iY A ap j
 |.sign C A _,j=>iY A (fI (j.getD C 0)) j
 |.sw C A a,j=>if 0<j.getD C 0∧j.getD C 0≤(aQ A:Int)then iY A (j.getD C 0-1).toNat j else bv a j
 |.loop _ C b n H d y,j=>h7 (ex (λD=>bv d D) y C b n H j)
 |.pair _ C b n H d _ g h i k y,j=>h7 (ex (λD=>h6 (bv d D) (λm=>ex (λo=>bv k o) y g h i 1 m)) none C b n H j)
noncomputable def bv:aP→an→aJ×an
 |.nil,j=>(.on,j)
 |.cons c f,j=>h6 (eL c j) (λD=>bv f D)
noncomputable def gS:cr→an→Option (aJ×an)
 |.nil,_=>U
 |.cons l n f,j=>if l.ev j then J (bv n j)else gS f j
noncomputable def iY:bu→Nat→an→aJ×an
 |.nil,_,j=>(.on,j)
 |.cons n f,ap,j=>match ap with
  |0=>bv n j
  |a+1=>iY f a j
end
inductive b4 where
 |asg (p:bX)|O8 (l:cf) (p:bX)|OL (l:cf) (i:Int)|OY (l:cf)|cont|goto (i:Int)
 |ifs (l:cf)|Ox (l:cf)|Op|Ot
 |Od (i:Int) (C:Nat) (b n H:Int)
 |OS (i:Int)|OP (cl:List Int)|OT (C:Nat) (l0 l1 l2:Int)|OU (cl:List Int) (C:Nat)|fin
noncomputable abbrev aW:=Int×b4
noncomputable def a3.row(a:a3):b4:=match a with
 |.set p=>.asg p
 |.OC l p=>.O8 l p
noncomputable def fJ(a:Option a3):b4:=match a with
 |none=>.cont
 |some c=>c.row
noncomputable def dt(a:Int)(b:Nat):List Int:=(R4 b).map λ(ap:Nat)=>a+1+(ap:Int)
mutual
noncomputable def cs:c7→Nat
 |.plain _=>0|.exit _=>0|.N0 _=>0|.fin _=>0
 |.cond _ n c d a=>aF n+cP c+(if d then aF a else 0)
 |.way _ _ A=>aQ A+1+cQ A
 |.sign _ A _=>aQ A+1+cQ A
 |.sw _ A a=>aQ A+1+aF a+cQ A
 |.loop _ _ _ _ _ b _=>2+aF b
 |.pair _ _ _ _ _ b _ _ _ _ e _=>3+aF b+aF e
noncomputable def aF:aP→Nat
 |.nil=>0
 |.cons c f=>cs c+aF f
noncomputable def cP:cr→Nat
 |.nil=>0
 |.cons _ n f=>aF n+cP f
noncomputable def cQ:bu→Nat
 |.nil=>0
 |.cons n f=>aF n+cQ f
end
mutual
noncomputable def mv:c7→Nat
 |.plain _=>1|.exit _=>1|.N0 _=>1|.fin _=>1
 |.cond _ n c d a=>1+br n+fK c+(if d then 1+br a else 0)+1
 |.way _ _ A=>2+dT A+1
 |.sign _ A _=>1+dT A+1
 |.sw _ A a=>1+br a+1+dT A+1
 |.loop _ _ _ _ _ b _=>1+br b+2
 |.pair _ _ _ _ _ b _ _ _ _ e _=>1+br b+1+br e+2
noncomputable def br:aP→Nat
 |.nil=>0
 |.cons c f=>mv c+br f
noncomputable def fK:cr→Nat
 |.nil=>0
 |.cons _ n f=>1+br n+fK f
noncomputable def dT:bu→Nat
 |.nil=>0
 |.cons n f=>1+br n+1+dT f
end
mutual
noncomputable def dy:c7→Int→Int→Int→List aW
 |.plain c,_,_,_=>[(0,c.row)]
 |.exit l,d,_,_=>[(0,.OL l d)]
 |.N0 l,_,e,_=>[(0,.OL l e)]
 |.fin l,_,_,_=>[(0,.OY l)]
 |.cond l n h j f,d,e,a=>(0,.ifs l)::(b0 n d e a++(f2 h d e (a+aF n)++((if j then(0,.Op)::b0 f d e (a+aF n+cP h)else [])++[(0,.Ot)])))
 |.way ap i A,d,e,a=>(0,.OS (a+1+ap))::(0,.OP (if i then dt a (aQ A)else []))::(ey A d e (a+1) (a+1+aQ A) (a+1+aQ A)++[(a+1+aQ A,.cont)])
 |.sign C A _,d,e,a=>(0,.OT C (a+1) (a+2) (a+3))::(ey A d e (a+1) (a+1+aQ A) (a+1+aQ A)++[(a+1+aQ A,.cont)])
 |.sw C A f,d,e,a=>(0,.OU (dt a (aQ A)) C)::(b0 f d e (a+1+aQ A)++(0,.goto (a+1+aQ A))::(ey A d e (a+1) (a+1+aQ A) (a+1+aQ A+aF f)++[(a+1+aQ A,.cont)]))
 |.loop _ C b n H g y,_,_,a=>(0,.Od (a+1) C b n H)::(b0 g (a+2) (a+1) (a+2)++[(a+1,fJ y),(a+2,.cont)])
 |.pair _ C b n H g _ k m o p y,_,_,a=>(0,.Od (a+1) C b n H)::(b0 g (a+2) (a+1) (a+2)++(0,.Od (a+1) k m o 1)::(b0 p (a+2) (a+1) (a+2+aF g+1)++[(a+1,fJ y),(a+2,.cont)]))
noncomputable def b0:aP→Int→Int→Int→List aW
 |.nil,_,_,_=>[]
 |.cons c f,d,e,a=>dy c d e a++b0 f d e (a+cs c)
noncomputable def f2:cr→Int→Int→Int→List aW
 |.nil,_,_,_=>[]
 |.cons l n f,d,e,a=>(0,.Ox l)::(b0 n d e a++f2 f d e (a+aF n))
noncomputable def ey:bu→Int→Int→Int→Int→Int→List aW
 |.nil,_,_,_,_,_=>[]
 |.cons n f,d,e,i,t,a=>(i,.cont)::(b0 n d e a++(0,.goto t)::ey f d e (i+1) t (a+aF n))
end
mutual
theorem vP:∀(c:c7) (d e a:Int),(dy c d e a).length=mv c
 |.plain _=>λd e a=>rfl
 |.exit _=>λd e a=>rfl
 |.N0 _=>λd e a=>rfl
 |.fin _=>λd e a=>rfl
 |.cond o f g k i=>λd e a=>by
  have l:=dd f d e a;have m:=qW g d e (a+aF f);have n:=dd i d e (a+aF f+cP g);show(b0 f d e a++(f2 g d e (a+aF f)++(_++[_]))).length+1=1+br f+fK g+_+1;rw [Qr,Qr,Qr,l,m];induction k using Qz with
  |true=>show br f+(fK g+((b0 i d e (a+aF f+cP g)).length+1+1))+1=1+br f+fK g+(1+br i)+1;exact(aE 221611124846884157717854548) n
  |false=>show br f+(fK g+(0+1))+1=1+br f+fK g+0+1;exact(ak 921085011322307011)
 |.way _ _ b=>λd e a=>by
  show(ey b d e _ _ _++[_]).length+1+1=2+dT b+1;rw [Qr,mw b];show dT b+1+1+1=_;exact(aN 7075545091)
 |.sign _ b _=>λd e a=>by
  show(ey b d e _ _ _++[_]).length+1=1+dT b+1;rw [Qr,mw b];show dT b+1+1=_;exact(aN 140231683)
 |.sw _ b i=>λd e a=>by
  show(b0 i d e _++_::(ey b d e _ _ _++[_])).length+1=1+br i+1+dT b+1;rw [Qr,Qw,Qr,mw b,dd i];show br i+(dT b+1+1)+1=_;exact(ak 3524749686718915)
 |.loop _ _ _ _ _ h _=>λd e a=>by
  show(b0 h _ _ _++[_,_]).length+1=1+br h+2;rw [Qr,dd h];show br h+2+1=_;exact(aN 421304305411)
 |.pair _ _ _ _ _ h _ _ _ _ j _=>λd e a=>by
  show(b0 h _ _ _++_::(b0 j _ _ _++[_,_])).length+1=1+br h+1+br j+2;rw [Qr,Qw,Qr,dd h,dd j];show br h+(br j+2+1)+1=_;exact(ak 7143113058480538051)
theorem dd:∀(c:aP) (d e a:Int),(b0 c d e a).length=br c
 |.nil=>λd e a=>rfl
 |.cons c b=>λd e a=>by
  show(dy c _ _ _++b0 b _ _ _).length=mv c+br b;rw [Qr,vP c,dd b]
theorem qW:∀(c:cr) (d e a:Int),(f2 c d e a).length=fK c
 |.nil=>λd e a=>rfl
 |.cons g b f=>λd e a=>by
  show(b0 b _ _ _++f2 f _ _ _).length+1=1+br b+fK f;rw [Qr,dd b,qW f];exact(ak 53780988355)
theorem mw:∀(c:bu) (d e i t a:Int),(ey c d e i t a).length=dT c
 |.nil=>λd e i t a=>rfl
 |.cons b f=>λd e i t a=>by
  show(b0 b _ _ _++_::ey f _ _ _ _ _).length+1=1+br b+1+dT f;rw [Qr,Qw,dd b,mw f];exact(ak 13768550498755)
end
noncomputable def de(a:List aW):List Int:=(a.map (·.1)).filter (·≠0)
theorem mx:de []=[]:=rfl
theorem ku(a b:List aW):de (a++b)=de a++de b:=by
 unfold de;rw [Rp,List.filter_append]
theorem od(b:b4)(a:List aW):de ((0,b)::a)=de a:=rfl
theorem jD(a:Int)(c:a≠0)(d:b4)(b:List aW):de ((a,d)::b)=a::de b:=by
 show List.filter _ (a::b.map (·.1))=_;rw [WA,Qt (QD c)];rfl
noncomputable def dF(a:List aW)(q b:Int):Prop:=(de a).Nodup∧∀i∈de a,q<i∧i≤b
section
variable{b n:List aW}{q s0 h1 t:Int}{x ua:b4}
theorem jE:dF [] q h1:=⟨Rq,λb a=>nomatch a⟩
theorem K2(a:dF b q h1):dF ((0,x)::b) q h1:=a
theorem jF(c:dF b q s0)(d:dF n s0 h1)(f:q≤s0)(g:s0≤h1):dF (b++n) q h1:=by
 unfold dF;rw [ku];exact⟨Sh.mpr (bw c.1 d.1 (λh i j k=>by have l:=(c.2 h i).2;have m:=(d.2 j k).1;exact(b6 4056501291312) m l)),λe a=>(Ro.mp a).elim (λa=>by have:=c.2 e a;exact(pC 2862592002815378255496) this g) λa=>by have:=d.2 e a;exact(pC 1444340066267669917320) this f⟩
theorem h8(a:dF b s0 h1)(c:q≤s0)(d:h1≤t):dF b q t:=⟨a.1,λe f=>by have:=a.2 e f;exact(zM 157813285476706267409870472) this c d⟩
theorem K3(b:0≤q)(a:q<i)(c:i≤h1):dF [(i,x)] q h1:=by
 unfold dF;rw [jD i ‹(ck 19124653327224) b a›,mx];exact⟨QZ.mpr ⟨nofun,Rq⟩,λe d=>by rw [Rk.mp d];exact⟨a,c⟩⟩
theorem vQ(g:0≤a)(e:dF b (a+2) h1)(j:a+2≤h1):dF (b++[(a+1,x),(a+2,ua)]) a h1:=by
 unfold dF;rw [ku,jD _ (show a+1≠0 by exact(ay 8184140664) g),jD _ (show a+2≠0 by exact(ay 524608082808) g),mx];have h:∀d∈[a+1,a+2],d=a+1∨d=a+2:=λd f=>(QX.mp f).imp id Rk.mp;exact⟨Sh.mpr (bw e.1 (QZ.mpr ⟨λc=>by have:=Rk.mp c;exact(ay 6662984496) this,QZ.mpr ⟨nofun,Rq⟩⟩) (λk l d f=>by have m:=(e.2 k l).1;have n:=h d f;exact(b6 7955167829614713960211776) m n)),λi c=>(Ro.mp c).elim (λc=>by have:=e.2 i c;exact(b6 40118954618232094536) this) λc=>by have:=h i c;exact(b6 7505785325847200951416726824) j this⟩
noncomputable def lr(a:List aW)(b c d:Int)(e:Nat):Prop:=(de a).Nodup∧∀B∈de a,(b≤B∧B<b+e)∨(c<B∧B≤d)
theorem qX(g:0≤q)(d:lr b (q+1) a h1 u)(e:q+1+u≤a)(f:a≤h1):dF (b++[(q+1+u,x)]) q h1:=by
 unfold dF;rw [ku,jD _ (show q+1+(u:Int)≠0 by exact(aC 33550307758968) g),mx];exact⟨Sh.mpr (bw d.1 (QZ.mpr ⟨nofun,Rq⟩) (λh i n j=>by have k:=d.2 h i;have l:=Rk.mp j;exact(lX 315306154814347135675160822286317728450881955416) k e l)),λm c=>(Ro.mp c).elim (λc=>by have:=d.2 m c;exact(iG 9854774017076763448399404591476507776080062040) this e f) λc=>by have:=Rk.mp c;exact(iG 12581769679681838494001687113272) e this f⟩
theorem Ew(e:0≤q)(d:dF n (q+1+u) a)(f:lr b (q+1) a h1 u)(l:q+1+u≤a)(g:a≤h1):dF (n++(0,ua)::(b++[(q+1+u,x)])) q h1:=by
 have h:=qX (x:=x) e f l g;have m:de (b++[(q+1+u,x)])=de b++[q+1+u]:=by rw [ku,jD _ (show q+1+(u:Int)≠0 by exact(aC 33550307758968) e),mx]
 unfold dF;rw [ku,od];refine⟨Sh.mpr (bw d.1 h.1 (λo p r i=>?_)),λj c=>(Ro.mp c).elim (λc=>by have:=d.2 j c;exact(iG 187602829496508629359406088) this g) (h.2 j)⟩;have k:=d.2 o p;rw [m]at i;exact(Ro.mp i).elim (λc=>by have:=f.2 r c;exact(lX 3221906180200021802372842182342559351057416) k this) λc=>by have:=Rk.mp c;exact(iG 4019462594437471582750649352) k this
theorem Ex(k:0<i)(e:dF b a s0)(f:lr n (i+1) s0 h1 u)(d:i+1+u≤a+1)(h:a≤s0)(j:s0≤h1):lr ((i,x)::(b++(0,ua)::n)) i a h1 (u+1):=by
 unfold lr;rw [jD i ‹(ay 513479568) k›,ku,od];refine⟨QZ.mpr ⟨λc=>(Ro.mp c).elim (λc=>by have:=e.2 i c;exact(k0 590996634159982521912) d this) λc=>by have:=f.2 i c;exact(iG 30613922860532594784047203029551715296856) this d h,Sh.mpr (bw e.1 f.1 (λg l m o=>by have p:=e.2 g l;have q:=f.2 m o;exact(zN 1311455899169979568883511761968251173316358468445784) q d p))⟩,λg c=>(QX.mp c).elim (λr=>by exact(lX 14967546490259801589381097696696803114493095480) d r h j) λc=>(Ro.mp c).elim (λc=>by have:=e.2 g c;exact(lX 254943706398736995528774161673416328) this j) λc=>by have:=f.2 g c;exact(lX 517686791925206314569183664795700245756635865821776165289237587544) this d h j⟩
end
mutual
theorem Ey:∀(c:c7) (d e a:Int),0≤a→dF (dy c d e a) a (a+cs c)
 |.plain _=>λd e a b=>jE
 |.exit _=>λd e a b=>jE
 |.N0 _=>λd e a b=>jE
 |.fin _=>λd e a b=>jE
 |.cond x h j r i=>λd e a b=>by
  have n:=h9 h d e a b;have k:=vR j d e (a+aF h) ‹(aC 12700459896) b›;induction r using Qz with
  |true=>
   have l:=h9 i d e (a+aF h+cP j) ‹(bx 170902360793976) b›;exact h8 (jF n (jF k (jF (b:=(0,.Op)::_) l jE ‹(bM 983533594924894470554)› (QK _)) ‹(bx 18989150917658)› ‹(bM 983533594924894470554)›) ‹(aC 344450)› ‹(bM 240120506573411354)›) (QK _) (show _≤a+((aF h+cP j+aF i:Nat):Int) by exact(bM 14390321520091688343962))
  |false=>exact h8 (jF n (jF k (n:=[(0,.Ot)]) (h1:=a+aF h+cP j) jE ‹(bx 18989150917658)› (QK _)) ‹(aC 344450)› ‹(bx 18989150917658)›) (QK _) (show _≤a+((aF h+cP j+0:Nat):Int) by exact(bx 919281062872695194))
 |.way y z f=>λd e a b=>h8 (qX b (oe f d e (a+1) (a+1+aQ f) (a+1+aQ f) ‹(ay 38191992) b› ‹(aC 5789008085978)›) (QK _) ‹(bx 4861232318596058)›) (QK _) (show _≤a+((aQ f+1+cQ f:Nat):Int) by exact(bx 882094306214821274))
 |.sign m f i=>λd e a b=>h8 (qX b (oe f d e (a+1) (a+1+aQ f) (a+1+aQ f) ‹(ay 38191992) b› ‹(aC 5789008085978)›) (QK _) ‹(bx 4861232318596058)›) (QK _) (show _≤a+((aQ f+1+cQ f:Nat):Int) by exact(bx 882094306214821274))
 |.sw m f i=>λd e a b=>h8 (Ew b (h9 i d e (a+1+aQ f) ‹(aC 203520320376) b›) (oe f d e (a+1) (a+1+aQ f) (a+1+aQ f+aF i) ‹(ay 38191992) b› ‹(bx 77779717155275738)›) ‹(bx 4861232318596058)› ‹(bM 251784600934125220937114)›) (QK _) (show _≤a+((aQ f+1+aF i+cQ f:Nat):Int) by exact(bM 3684582439564317649263002))
 |.loop s m t h H g o=>λd e a b=>vQ b (h8 (h9 g (a+2) (a+1) (a+2) ‹(ay 3690308472) b›) (QK _) (show _≤a+((2+aF g:Nat):Int) by exact(aC 1855221346174682))) (show _≤a+((2+aF g:Nat):Int) by exact(aC 452934899822))
 |.pair s m t h H g A u v w p o=>λd e a b=>by
  have k:=h9 g (a+2) (a+1) (a+2) ‹(ay 3690308472) b›;have l:=h9 p (a+2) (a+1) (a+2+aF g+1) ‹(aC 208751982650232) b›;have q:=vQ (x:=fJ o) (ua:=.cont) b (jF k (n:=(0,.Od (a+1) u v w 1)::_) (h8 l (s0:=a+2+aF g+1) (q:=a+2+aF g) ‹(aC 23751336404289242)› (QK _)) ‹(aC 362416576622)› ‹(bx 318586356655237203674)›) ‹(bx 77779872230283374)›;rw [QW]at q;exact h8 q (QK _) (show _≤a+((3+aF g+aF p:Nat):Int) by exact(bx 909524161114733908777946))
theorem h9:∀(c:aP) (d e a:Int),0≤a→dF (b0 c d e a) a (a+aF c)
 |.nil=>λd e a b=>jE
 |.cons c f=>λd e a b=>h8 (jF (Ey c d e a b) (h9 f d e (a+cs c) ‹(aC 12700459896) b›) ‹(aC 344450)› ‹(bx 18989150917658)›) (QK _) (show _≤a+((cs c+aF f:Nat):Int) by exact(bx 3409867167842714))
theorem vR:∀(c:cr) (d e a:Int),0≤a→dF (f2 c d e a) a (a+cP c)
 |.nil=>λd e a b=>jE
 |.cons h f g=>λd e a b=>h8 (jF (h9 f d e a b) (vR g d e (a+aF f) ‹(aC 12700459896) b›) ‹(aC 344450)› ‹(bx 18989150917658)›) (QK _) (show _≤a+((aF f+cP g:Nat):Int) by exact(bx 3409867167842714))
theorem oe:∀(c:bu) (d e i t a:Int),0<i→i+aQ c≤a+1→lr (ey c d e i t a) i a (a+cQ c) (aQ c)
 |.nil=>λd e i t a b f=>⟨Rq,λj b=>nomatch b⟩
 |.cons g h=>λd e i t a b f=>by
  have f:i+((aQ h+1:Nat):Int)≤a+1:=f;have:=Ex (x:=.cont) (ua:=.goto t) b (h9 g d e a ‹(iF 379158250583458704) b f›) (oe h d e (i+1) t (a+aF g) ‹(ay 38192016) b› ‹(ff 45964237523512401654072) f›) ‹(iF 10227501764239749432) f› ‹(aC 344450)› ‹(bx 18989150917658)›;rw [show a+(aF g:Int)+(cQ h:Int)=a+((aF g+cQ h:Nat):Int) by exact(bx 3409867167842720)]at this;exact this
end
variable{z:List aW}{j D M:an}{y hv:Option a3}{cp:an→aJ×an}{A:bu}
noncomputable def a5(a:Nat→lb)(b:Nat)(c:lb):Nat→lb:=λB=>if B=b then c else a B
theorem dn(c:Nat→lb)(a:Nat)(b:lb):a5 c a b a=b:=Qt rfl
theorem cR(a:Nat→lb)(b:lb)(c:B≠u):a5 a u b B=a B:=Qs c
set_option genCtorIdx false in
structure cb where
 N1:Nat→Option Nat
 N7:Nat→Option Nat
 NZ:Nat→Option Nat
 NU:Nat→Option (List Nat)
set_option genCtorIdx false in
structure a6 where
 fd:cb
 blocks:List (List Nat)
 loops:List (Int×Nat×Int)
noncomputable def dG:List (List Nat)→Int
 |(B::_)::_=>B
 |_=> -1
noncomputable def ez(b:Int)(a:Nat)(c:Int):List (Int×Nat×Int)→cb→Option (List (Int×Nat×Int)×cb)
 |[],r=>J ([],r)
 |B::cl,r=>if b≠0∧B.1=b then(if B.2.2=c then ez b a c cl {r with NZ:=a5 r.NZ B.2.1 (J a),NU:=a5 r.NU a (J ((r.NU a).getD []++[B.2.1]))}else U)else J (B::cl,r)
theorem qY{a:Int×Nat×Int}{b:cb}:ez i kw it (a::cl) b=if i≠0∧a.1=i then(if a.2.2=it then ez i kw it cl {b with NZ:=a5 b.NZ a.2.1 (J kw),NU:=a5 b.NU kw (J ((b.NU kw).getD []++[a.2.1]))}else U)else J (a::cl,b):=rfl
theorem vS{c:Int×Nat×Int}{d:cb}(a:ez i b it (c::cl) d=J (g,ep)):ez i b it cl {d with NZ:=a5 d.NZ c.2.1 (J b),NU:=a5 d.NU b (J ((d.NU b).getD []++[c.2.1]))}=J (g,ep)∨(g=c::cl∧ep=d):=by
 rw [qY]at a;by_cases e:i≠0∧c.1=i
 ·rw [Qt e]at a;by_cases f:c.2.2=it
  ·rw [Qt f]at a;exact .inl a
  ·rw [Qs f]at a;exact ag a
 ·rw [Qs e]at a;have h:=Qj a;exact .inr ⟨(QP Ug h).symm,(QP Uf h).symm⟩
noncomputable def d5(b:Int)(c:Nat)(a:a6):Option a6:=(ez b c (dG a.blocks) a.loops a.fd).map λf=>⟨f.2,a.blocks,f.1⟩
theorem qZ(c:d5 i b x=J bl):∃cl r,ez i b (dG x.blocks) x.loops x.fd=J (cl,r)∧bl=⟨r,x.blocks,cl⟩:=by
 exact ae (SV.mp c) λa d e=>gg a.1 a.2 d e.symm
noncomputable def el(a:b4):Bool:=match a with
 |.Op=>Qp
 |_=>Qq
noncomputable def eM(e:List aW)(c:Bool)(b:Nat)(a:a6):Option a6:=match a.blocks with
 |(B::fw)::d=>match e[B]?with
  |some (_,y)=>if el y&& !c then none else
    let r:=if el y then a.fd else {a.fd with N1:=a5 a.fd.N1 B (some b)}
    if c then some ⟨{r with N7:=λu=>if u∈B::fw then some b else r.N7 u},d,a.loops⟩else some ⟨r,(b::B::fw)::d,a.loops⟩
  |none=>none
 |_=>none
theorem vT{d:Bool}(a:eM z d b x=some bl):∃B fw g r,x.blocks=(B::fw)::g∧(r=x.fd∨r={x.fd with N1:=a5 x.fd.N1 B (some b)})∧(bl=⟨{r with N7:=λu=>if u∈B::fw then some b else r.N7 u},g,x.loops⟩∨bl=⟨r,(b::B::fw)::g,x.loops⟩):=by
 unfold eM at a;generalize e:x.blocks=f;induction f using QH with
 |nil=>rw [e]at a;exact ag a
 |cons i g=>
  rw [e]at a;clear e;induction i using QH with
  |nil=>exact ag a
  |cons B fw=>
   refine⟨B,fw,g,if el (((z[B]?).getD (0,.Op)).2)=true then x.fd else {x.fd with N1:=a5 x.fd.N1 B (some b)},rfl,?_,?_⟩
   ·by_cases c:el (((z[B]?).getD (0,.Op)).2)=true
    ·exact .inl (Qt c)
    ·exact .inr (Qs c)
   ·dsimp only at a;generalize h:z[B]? =f;induction f using Qm with
    |none=>rw [h]at a;exact ag a
    |some j=>
     rw [h]at a;dsimp only at a;by_cases c:(el j.2&& !d)=true
     ·rw [Qt c]at a;exact ag a
     ·rw [Qs c]at a;clear c;induction d using Qz with
      |true=>exact .inl (Qj a).symm
      |false=>exact .inr (Qj a).symm
noncomputable def vU(e:List aW)(a:Nat)(c:a6)(d:Int)(f:b4):Option a6:=by induction f using b4.casesOn with
 |ifs l=>exact d5 d a {c with blocks:=[a]::c.blocks}
 |Ox l=>exact(eM e Qq a c).bind (d5 d a)
 |Op=>exact(eM e Qq a c).bind (d5 d a)
 |Ot=>exact(eM e Qp a c).bind (d5 d a)
 |Od cp C b n r=>exact J {c with loops:=(cp,a,dG c.blocks)::c.loops}
 |_=>exact d5 d a c
noncomputable def dH(a:List aW)(b:Nat)(c:a6):Option a6:=(a[b]?).bind λf=>vU a b c f.1 f.2
theorem kv{a:b4}(c:z[b]? =J (i,a)):dH z b x=vU z b x i a:=by
 unfold dH;rw [c];rfl
theorem vV{h:List aW}{b:Nat}{c e:a6}{f:Prop}(j:dH h b c=J e)(k:∀i,d5 i b {c with blocks:=[b]::c.blocks}=J e→f)(g:∀a i,(eM h a b c).bind (d5 i b)=J e→f)(l:∀cp,J {c with loops:=(cp,b,dG c.blocks)::c.loops}=J e→f)(m:∀i,d5 i b c=J e→f):f:=by
 refine ae (Q7.mp j) λn o d=>?_;clear j o;obtain⟨i,p⟩:=n;induction p using b4.casesOn with
 |ifs q=>exact k _ d
 |Ox q=>exact g _ _ d
 |Op=>exact g _ _ d
 |Ot=>exact g _ _ d
 |Od cp r b s t=>exact l _ d
 |_=>exact m _ d
noncomputable def eN(a:List aW):Nat→Nat→a6→Option a6
 |0,_,x=>J x
 |T+1,b,x=>(dH a b x).bind (eN a T (b+1))
theorem vW(a:List aW):∀(T p b:Nat) (x:a6),eN a (T+p) b x=(eN a T b x).bind (eN a p (b+T))
 |0,p,b,x=>by rw [RJ,Nat.add_zero];rfl
 |T+1,p,b,x=>by
  rw [show T+1+p=(T+p)+1 by exact(ak 3250373599)];show(dH a b x).bind (eN a (T+p) (b+1))=((dH a b x).bind (eN a T (b+1))).bind (eN a p (b+(T+1)));generalize dH a b x=d;induction d using Qm with
  |none=>rfl
  |some c=>
   show eN a (T+p) (b+1) c=(eN a T (b+1) c).bind _;rw [vW a T p (b+1) c,show b+1+T=b+(T+1) by exact(ak 4229481439)]
noncomputable def fk(c:Nat→Prop)(a b:cb):Prop:=∀u,c u→b.N1 u=a.N1 u∧b.N7 u=a.N7 u∧b.NZ u=a.NZ u∧b.NU u=a.NU u
abbrev hj(b c a:Nat):Prop:=b≤a∧a<c
abbrev q0(b c a:Nat):Prop:=a<b∨c≤a
theorem q1(a:∀B∈cl,i=0∨B.1≠i):ez i kw it cl r=J (cl,r):=by
 induction cl using QH with
 |nil=>rfl
 |cons B cl=>exact Qs λb=>(a B (.head _)).elim b.1 λa=>a b.2
theorem my{a:a6}(b:∀B∈a.loops,i=0∨B.1≠i):d5 i kw a=J a:=by
 show(ez _ _ _ _ _).map _=_;rw [q1 b];rfl
noncomputable def jG(a:b4):Bool:=match a with
 |.ifs _=>Qq
 |.Ox _=>Qq
 |.Op=>Qq
 |.Ot=>Qq
 |.Od .. =>Qq
 |_=>Qp
theorem og{a:b4}(c:z[b]? =J (i,a))(d:jG a=Qp):dH z b x=d5 i b x:=by
 rw [kv c];clear c;induction a using b4.casesOn<;>first|rfl|exact bG d.symm
theorem vX(a:a3):jG a.row=Qp:=by induction a using a3.casesOn<;>rfl
theorem vY(a:Option a3):jG (fJ a)=Qp:=by
 induction a using Qm with
 |none=>rfl
 |some b=>exact vX b
variable{x bl:a6}{r:cb}
structure cG where
 pos:Nat
 xs:an
 lc:Option Int
 N2:Nat→Option (Nat×Int)
set_option genCtorIdx true in
inductive dU where
 |to (l:cG)
 |ret|fault
structure c8 where
 rows:List aW
 d:cb
 Og:Int→Option Nat
def q2(a:Option aW):Option Nat:=a.bind λa=>by generalize a.2=c;induction c using b4.casesOn with
 |Od cp C b n r=>exact J C
 |_=>exact U
theorem Ez(a:q2 f=some C):∃i cp b n r,f=some (i,.Od cp C b n r):=by
 induction f using Qm with
 |none=>exact ag a
 |some f=>
  obtain⟨i,c⟩:=f;induction c using b4.casesOn with
  |Od cp d b n r=>exact⟨i,cp,b,n,r,by rw [show d=C from Qj a]⟩
  |_=>exact ag a
noncomputable def fL(a:c8)(b:Nat):List Nat→cG→Option cG
 |[],l=>J ⟨b+1,l.xs,l.lc,l.N2⟩
 |x::hh,l=>(l.N2 x).bind λc=>(q2 a.rows[x]?).bind λC=>if 1<c.1 then J ⟨x+1,d4 C c.2 l.xs,l.lc,a5 l.N2 x (J (c.1-1,c.2))⟩else fL a b hh ⟨l.pos,d4 C c.2 l.xs,l.lc,a5 l.N2 x U⟩
theorem vZ{c:Nat}(a:fL w t (c::hh) l=J o):∃T H C i cp b n r,l.N2 c=J (T,H)∧w.rows[c]? =J (i,.Od cp C b n r)∧((1<T∧o=⟨c+1,d4 C H l.xs,l.lc,a5 l.N2 c (J (T-1,H))⟩)∨(¬1<T∧fL w t hh ⟨l.pos,d4 C H l.xs,l.lc,a5 l.N2 c U⟩=J o)):=by
 refine ae (Q7.mp a) λe f a=>ae (Q7.mp a) λC g a=>zw (Ez g) λi cp b n r h=>⟨e.1,e.2,C,i,cp,b,n,r,f,h,?_⟩;by_cases d:1<e.1
 ·rw [Qt d]at a;exact .inl ⟨d,(Qj a).symm⟩
 ·rw [Qs d]at a;exact .inr ⟨d,a⟩
def eO(b:c8)(a:cG):Option cG:=match b.d.NU a.pos with
 |none=>some ⟨a.pos+1,a.xs,a.lc,a.N2⟩
 |some hh=>fL b a.pos hh a
def gs(b:c8)(a:cG)(d:Int):Option cG:=(b.Og d).map λc=>⟨c,a.xs,a.lc,a.N2⟩
inductive gT(w:c8)(j:an):Nat→Nat→Prop
 |Op {c:Nat}{i:Int} (h:w.rows[c]? =some (i,.Op)):gT w j c (c+1)
 |Ot {c:Nat}{i:Int} (h:w.rows[c]? =some (i,.Ot)):gT w j c (c+1)
 |yes {c:Nat}{i:Int}{l:cf} (h:w.rows[c]? =some (i,.ifs l)∨w.rows[c]? =some (i,.Ox l)) (hc:l.ev j=true):gT w j c (c+1)
 |no {c p' v:Nat}{i:Int}{l:cf} (h:w.rows[c]? =some (i,.ifs l)∨w.rows[c]? =some (i,.Ox l)) (hc:l.ev j=false) (hn:w.d.N1 c=some p') (f:gT w j p' v):gT w j c v
def eP(a:Option cG)(b:dU):Prop:=∃l,a=J l∧b=.to l
def v0(d:c8)(a:cG)(e:dU)(g:Nat)(c f b:Int):Prop:=
 (b=0∧e=.fault)∨(b≠0∧bD c f b=0∧∃t h i,d.d.NZ a.pos=J t∧d.d.NU t=J (h++a.pos::i)∧¬a.pos∈h∧eP (fL d t i ⟨a.pos,a.xs.set g c,a.lc,a5 a.N2 a.pos U⟩) e)∨
 (b≠0∧0<bD c f b∧d.d.NU a.pos=U∧e=.to ⟨a.pos+1,a.xs.set g c,a.lc,a5 a.N2 a.pos (J (bD c f b,b))⟩)
def v1(d:c8)(a:cG)(c:dU)(e:b4):Prop:=match e with
 |.asg p=>eP (eO d ⟨a.pos,p.run a.xs,a.lc,a.N2⟩) c
 |.O8 u p=>eP (eO d ⟨a.pos,if u.ev a.xs then p.run a.xs else a.xs,a.lc,a.N2⟩) c
 |.OL u i=>(u.ev a.xs=Qp∧eP (gs d a i) c)∨(u.ev a.xs=Qq∧eP (eO d a) c)
 |.OY u=>(u.ev a.xs=Qp∧c=.ret)∨(u.ev a.xs=Qq∧eP (eO d a) c)
 |.cont=>eP (eO d a) c
 |.Ot=>eP (eO d a) c
 |.goto i=>eP (gs d a i) c
 |.ifs _=>∃v,gT d a.xs a.pos v∧d.d.NU a.pos=U∧c=.to ⟨v,a.xs,a.lc,a.N2⟩
 |.Ox _=>∃t,d.d.N7 a.pos=J t∧a.pos<t∧c=.to ⟨t+1,a.xs,a.lc,a.N2⟩
 |.Op=>∃t,d.d.N7 a.pos=J t∧a.pos<t∧c=.to ⟨t+1,a.xs,a.lc,a.N2⟩
 |.Od _ C b n H=>v0 d a c C b n H
 |.OS i=>eP (eO d ⟨a.pos,a.xs,J i,a.N2⟩) c
 |.OP cl=>∃i,a.lc=J i∧(cl=[]∨i∈cl)∧eP (gs d a i) c
 |.OT C f g h=>eP (gs d a (if a.xs.getD C 0<0 then f else if a.xs.getD C 0=0 then g else h)) c
 |.OU cl C=>(1≤a.xs.getD C 0∧a.xs.getD C 0≤(cl.length:Int)∧eP (gs d a (cl.getD (a.xs.getD C 0-1).toNat 0)) c)∨(¬(1≤a.xs.getD C 0∧a.xs.getD C 0≤(cl.length:Int))∧eP (eO d a) c)
 |.fin=>c=.ret
def eZ(a:c8)(b:cG)(c:dU):Prop:=∃i x,a.rows[b.pos]? =J (i,x)∧v1 a b c x
inductive gU(w:c8):Nat→cG→cG→Prop
 |refl (l:cG):gU w 0 l l
 |step {T:Nat}{l no c2:cG} (h:eZ w l (.to no)) (f:gU w T no c2):gU w (T+1) l c2
theorem K4(a:gU w T l no)(b:gU w p no g):gU w (T+p) l g:=by
 induction a with
 |refl l=>rw [RJ];exact b
 |@step T l d e a f c=>
  have:=gU.step a (c b);rwa [show T+1+p=T+p+1 by exact(ak 3250373599)]
theorem K5(a:eZ w l (.to no)):gU w 1 l no:=.step a (.refl _)
def eQ(a:cf):Prop:=a.v<6∧-3≤a.n∧a.n≤3
def iZ(a:bX):Prop:=a.t<6∧a.s<6∧-4≤a.n∧a.n≤4
def mz(a:a3):Prop:=match a with
 |.set p=>iZ p
 |.OC l p=>eQ l∧iZ p
def jH(a:Option a3):Prop:=match a with
 |none=>True
 |some c=>mz c
def gV(d:Nat)(a b c:Int):Prop:=d<6∧-1≤a∧a≤4∧-1≤b∧b≤4∧-2≤c∧c≤3
mutual
noncomputable def fl(hx:Bool)(q:Int):c7→Prop
 |.plain c=>mz c
 |.exit l=>hx=Qp∧eQ l
 |.N0 l=>hx=Qp∧eQ l
 |.fin l=>eQ l
 |.cond l n f g a=>eQ l∧cD hx q n∧ia hx q f∧cD hx q a∧(g=Qq→a=.nil)
 |.way ap _ A=>ap<aQ A∧gW hx q A
 |.sign C A a=>C<6∧aQ A=3∧gW hx q A∧cD hx q a
 |.sw C A a=>C<6∧gW hx q A∧cD hx q a
 |.loop p C b n H d y=>q<p∧gV C b n H∧cD Qp p d∧jH y
 |.pair p C b n H d e h i j k y=>q<p∧gV C b n H∧cD Qq p d∧p<e∧gV h i j 1∧cD Qp e k∧jH y
noncomputable def cD(hx:Bool)(q:Int):aP→Prop
 |.nil=>True
 |.cons c f=>fl hx q c∧cD hx q f
noncomputable def ia(hx:Bool)(q:Int):cr→Prop
 |.nil=>True
 |.cons l n f=>eQ l∧cD hx q n∧ia hx q f
noncomputable def gW(hx:Bool)(q:Int):bu→Prop
 |.nil=>True
 |.cons n f=>cD hx q n∧gW hx q f
end
mutual
noncomputable def d6:c7→Nat
 |.plain _=>1|.exit _=>1|.N0 _=>1|.fin _=>1
 |.cond _ n d _ a=>bn n+gt d+bn a+3
 |.way _ _ A=>dI A+5
 |.sign _ A _=>dI A+5
 |.sw _ A a=>dI A+bn a+5
 |.loop _ _ b n H c _=>bD b n H*(bn c+1)+5
 |.pair _ _ b n H c _ _ e f g _=>bD b n H*(bn c+1+bD e f 1*(bn g+1)+1)+6
noncomputable def bn:aP→Nat
 |.nil=>0
 |.cons c f=>d6 c+bn f
noncomputable def gt:cr→Nat
 |.nil=>0
 |.cons _ n f=>bn n+gt f+1
noncomputable def dI:bu→Nat
 |.nil=>0
 |.cons n f=>bn n+dI f+2
end
section
variable(ht:List aW)(L:cb)
mutual
noncomputable def q3:c7→Int→Int→Int→Nat→Nat→Prop
 |.plain c,_,_,_,b,t=>ht[b]? =J (0,c.row)∧L.NU b=U∧t=b+1
 |.exit l,d,_,_,b,t=>ht[b]? =J (0,.OL l d)∧L.NU b=U∧t=b+1
 |.N0 l,_,e,_,b,t=>ht[b]? =J (0,.OL l e)∧L.NU b=U∧t=b+1
 |.fin l,_,_,_,b,t=>ht[b]? =J (0,.OY l)∧L.NU b=U∧t=b+1
 |.cond l n f j g,d,e,a,b,t=>∃c v E,ht[b]? =J (0,.ifs l)∧L.NU b=U∧f3 n d e a (b+1) c∧b≤c∧kx f d e (a+aF n) b c v E∧c≤v∧(match j with
  |true=>ht[v]? =J (0,.Op)∧L.N7 v=J E∧v<E∧f3 g d e (a+aF n+cP f) (v+1) E
  |false=>v=E)∧ht[E]? =J (0,.Ot)∧L.NU E=U∧t=E+1
 |.way ap i A,d,e,a,b,t=>∃p,ht[b]? =J (0,.OS (a+1+ap))∧L.NU b=U∧ht[b+1]? =J (0,.OP (if i then dt a (aQ A)else []))∧ls A d e (a+1) (a+1+aQ A) (a+1+aQ A) (b+2) p∧ht[p]? =J (a+1+aQ A,.cont)∧L.NU p=U∧t=p+1
 |.sign C A _,d,e,a,b,t=>∃p,ht[b]? =J (0,.OT C (a+1) (a+2) (a+3))∧ls A d e (a+1) (a+1+aQ A) (a+1+aQ A) (b+1) p∧ht[p]? =J (a+1+aQ A,.cont)∧L.NU p=U∧t=p+1
 |.sw C A g,d,e,a,b,t=>∃v p,ht[b]? =J (0,.OU (dt a (aQ A)) C)∧L.NU b=U∧f3 g d e (a+1+aQ A) (b+1) v∧b≤v∧ht[v]? =J (0,.goto (a+1+aQ A))∧ls A d e (a+1) (a+1+aQ A) (a+1+aQ A+aF g) (v+1) p∧ht[p]? =J (a+1+aQ A,.cont)∧L.NU p=U∧t=p+1
 |.loop _ C B hi H h y,_,_,a,b,t=>∃v,ht[b]? =J (0,.Od (a+1) C B hi H)∧L.NU b=U∧f3 h (a+2) (a+1) (a+2) (b+1) v∧ht[v]? =J (a+1,fJ y)∧L.NZ b=J v∧L.NU v=J [b]∧ht[v+1]? =J (a+2,.cont)∧L.NU (v+1)=U∧t=v+1+1
 |.pair _ C B hi H h _ k m o q y,_,_,a,b,t=>∃v f,ht[b]? =J (0,.Od (a+1) C B hi H)∧L.NU b=U∧f3 h (a+2) (a+1) (a+2) (b+1) v∧b<v∧ht[v]? =J (0,.Od (a+1) k m o 1)∧L.NU v=U∧f3 q (a+2) (a+1) (a+2+aF h+1) (v+1) f∧ht[f]? =J (a+1,fJ y)∧L.NZ b=J f∧L.NZ v=J f∧L.NU f=J [v,b]∧ht[f+1]? =J (a+2,.cont)∧L.NU (f+1)=U∧t=f+1+1
noncomputable def f3:aP→Int→Int→Int→Nat→Nat→Prop
 |.nil,_,_,_,b,t=>t=b
 |.cons c f,d,e,a,b,t=>∃p,q3 c d e a b p∧b≤p∧f3 f d e (a+cs c) p t
noncomputable def kx:cr→Int→Int→Int→Nat→Nat→Nat→Nat→Prop
 |.nil,_,_,_,b,c,v,_=>L.N1 b=J c∧v=c
 |.cons l n f,d,e,a,b,c,v,E=>∃p,L.N1 b=J c∧ht[c]? =J (0,.Ox l)∧L.N7 c=J E∧c<E∧f3 n d e a (c+1) p∧c≤p∧kx f d e (a+aF n) c p v E
noncomputable def ls:bu→Int→Int→Int→Int→Int→Nat→Nat→Prop
 |.nil,_,_,_,_,_,c,p=>p=c
 |.cons n f,d,e,i,t,a,c,p=>∃y,ht[c]? =J (i,.cont)∧L.NU c=U∧f3 n d e a (c+1) y∧c≤y∧ht[y]? =J (0,.goto t)∧ls f d e (i+1) t (a+aF n) (y+1) p
end
end
abbrev dz:=Nat→Option (Nat×Int)
section
variable{w:c8}{f:dU}{bd ns:dz→Prop}{y:Nat}{aj:aJ×an}
def d7(b:c8)(c:an)(d:dU)(e:Nat)(f:cG):Prop:=∃u a,u≤e∧gU b u f a∧a.xs=c∧eZ b a d
theorem eA(a:d7 w M f T l)(b:T≤p):d7 w M f p l:=hC a λc d e g h i=>⟨c,d,Qv e b,g,h,i⟩
theorem dJ(a:eZ w l (.to no))(b:d7 w M f T no):d7 w M f (T+1) l:=hC b λc d e g h i=>⟨c+1,d,R3 e,.step a g,h,i⟩
theorem q4(a:eZ w l f)(b:l.xs=M):d7 w M f T l:=⟨0,l,RO _,.refl l,b,a⟩
def gX(a:dz→Prop)(b:Nat):Prop:=∀s B C,b≤B→a s→a (a5 s B C)
theorem gu{a:Nat}(c:gX bd b)(d:b≤a):gX bd a:=λe f g h=>c e f g (Qv d h)
theorem v3(d:gX bd b):gX (λs=>bd s∧s b=o) (b+1):=λs e f a c=>⟨d s e f (S3 a) c.1,(cR _ _ (RA a)).trans c.2⟩
def ib(a:c8)(b:an)(c:dU)(d:dz→Prop)(e:Nat)(f:Option Nat)(g:an):Prop:=∀v G s,f=J v→d s→d7 a b c e ⟨v,g,G,s⟩
theorem lt(a:ib w M f bd p o D)(b:p≤T)(c:∀s,ns s→bd s):ib w M f ns T o D:=λd e s g h=>eA (a d e s g (c s h)) b
def du(b:c8)(c:an)(f:dU)(d e:Int)(g:dz→Prop)(h i:Nat)(a:aJ×an):Prop:=match a.1 with
 |.on=>ib b c f g h (J i) a.2
 |.exit=>ib b c f g h (b.Og d) a.2
 |.N0=>ib b c f g h (b.Og e) a.2
 |.fin=>a.2=c∧f=.ret
 |.fault=>a.2=c∧f=.fault
theorem i0(b:du w M f d e bd p y (.on,D)){a:dz}(c:bd a):d7 w M f p ⟨y,D,G,a⟩:=b y G a rfl c
theorem q5(a:du w M f d e bd p y g)(c:p≤T)(b:aj.1≠.on→g=aj)(on:aj.1=.on→ib w M f bd T (J h) aj.2):du w M f d e bd T h aj:=by
 induction aj using RG with
 |mk i k=>
  induction i using aJ.casesOn with
  |on=>exact on rfl
  |exit=>rw [b nofun]at a;exact lt a c λj a=>a
  |N0=>rw [b nofun]at a;exact lt a c λj a=>a
  |fin=>rw [b nofun]at a;exact a
  |fault=>rw [b nofun]at a;exact a
theorem K6(a:du w M f d e bd p y aj)(b:p≤T):du w M f d e bd T y aj:=q5 a b (λc=>rfl) λg=>by
 unfold du at a;rw [g]at a;exact lt a b λc a=>a
theorem jI(a:du w M f d e bd p g aj)(b:∀D G s,eZ w ⟨y,D,G,s⟩ (.to ⟨g,D,G,s⟩)):du w M f d e bd (p+1) y aj:=q5 a (Q1 _) (λj=>rfl) λc k G s h i=>by
 unfold du at a;rw [c]at a;obtain rfl:=Qj h;exact dJ (b _ _ _) (a _ _ _ rfl i)
theorem EA(a:du w M f d e bd p y (h6 aj cp))(g:∀D G s,bd s→du w M f d e bd p y (cp D)→d7 w M f (p+T) ⟨h,D,G,s⟩):du w M f d e bd (p+T) h aj:=by
 refine q5 a (QU _ _) (λb=>?_) λb k G s i j=>?_
 ·induction aj using RG with
  |mk c D=>clear a;induction c using aJ.casesOn<;>first|exact(b rfl).elim|rfl
 ·induction aj using RG with
  |mk c D=>
   obtain rfl:c=.on:=b;obtain rfl:=Qj i;exact g D G s j a
theorem i1{a:cG}(b:w.d.NU a.pos=U):eO w a=J ⟨a.pos+1,a.xs,a.lc,a.N2⟩:=by
 unfold eO;rw [b]
theorem lu{a:dz}(c:w.rows[b]? =J (i,.cont))(d:w.d.NU b=U):eZ w ⟨b,D,G,a⟩ (.to ⟨b+1,D,G,a⟩):=⟨i,_,c,_,i1 d,rfl⟩
theorem v4{a:Int}{d:dz}(e:w.rows[b]? =J (i,.goto a))(f:w.Og a=J c):eZ w ⟨b,D,G,d⟩ (.to ⟨c,D,G,d⟩):=⟨i,_,e,_,by unfold gs;rw [f];rfl,rfl⟩
end
variable{l no:cG}
section
variable{w:c8}{f:dU}{bd ns:dz→Prop}{y:Nat}{aj:aJ×an}{np:List Nat}
theorem EB{a:dz}(b:w.rows[y]? =some (i,fJ hv))(f:w.d.NU y=some hh)(d:fL w y hh ⟨y,f1 hv D,G,a⟩=some o):eZ w ⟨y,D,G,a⟩ (.to o):=by
 have e:∀c,fL w y hh ⟨y,c,G,a⟩=some o→eO w ⟨y,c,G,a⟩=some o:=λc b=>by
  unfold eO;show(match w.d.NU y with|none=>_|some hh=>_)=_;refine Q (f ..) ?_;exact b
 refine⟨i,_,b,?_⟩;induction hv using Qm with
 |none=>exact⟨o,e _ d,rfl⟩
 |some g=>clear b;induction g using a3.casesOn<;>exact⟨o,e _ d,rfl⟩
theorem v5{a:Nat}{b:Int}{c d e:Int}(f:l.N2 a=J (T,b))(g:w.rows[a]? =J (i,.Od c C d n e)):fL w y (a::hh) l=if 1<T then J ⟨a+1,d4 C b l.xs,l.lc,a5 l.N2 a (J (T-1,b))⟩else fL w y hh ⟨l.pos,d4 C b l.xs,l.lc,a5 l.N2 a U⟩:=by
 show(l.N2 a).bind _=_;refine Q (f ..) ?_;show(q2 w.rows[a]?).bind _=_;refine Q (g ..) ?_;rfl
def hk(b:c8)(e:an)(f:dU)(d:Int)(g:dz→Prop)(h j:Nat)(k:List Nat)(a:aJ×an):Prop:=match a.1 with
 |.on=>∀c G s,g s→∃i,fL b j k ⟨c,a.2,G,s⟩=J i∧d7 b e f h i
 |.exit=>ib b e f g h (b.Og d) a.2
 |.N0=>True
 |.fin=>a.2=e∧f=.ret
 |.fault=>a.2=e∧f=.fault
def ky(a:Option a3)(aj:aJ×an):aJ×an:=match aj with
 |(.on,D)=>(.on,f1 a D)
 |(.N0,D)=>(.on,f1 a D)
 |aj=>aj
theorem v6{g:Nat}{b:an→aJ×an}{e:Int}(a:hk w M f d bd p y np (ew b hv C e (T+1) j))(k:p≤u)(l:∀s,ns s→bd s)
  (on:∀D,hk w M f d bd p y np (ew b hv C e T (d4 C e D))→∀c G s,ns s→∃h,fL w y (g::np) ⟨c,D,G,s⟩=J h∧d7 w M f u h):hk w M f d ns u y (g::np) (ky hv (b j)):=by
 rw [vO]at a;generalize i:b j=m;induction m using RG with
 |mk n D=>
  rw [i]at a;clear i;induction n using aJ.casesOn with
  |on=>exact on _ a
  |N0=>exact on _ a
  |exit=>exact lt a k l
  |fin=>exact a
  |fault=>exact a
theorem be{a:Nat}{i:an→aJ×an}{k o:Int}(g:gX bd a)(l:w.rows[a]? =J (as,.Od o C a2 b2 c2))
  (m:∀(ns:dz→Prop) (p:Nat) (j:an) (G:Option Int) (s:dz),gX ns (a+1)→ns s→hk w M f d ns p y (a::np) (ky hv (i j))→d7 w M f (p+E) ⟨a+1,j,G,s⟩):
  ∀(T:Nat) (j:an) (G:Option Int) (s:dz),bd s→s a=J (T+1,k)→hk w M f d bd p y np (ew i hv C k (T+1) j)→d7 w M f (p+(T+1)*E) ⟨a+1,j,G,s⟩:=by
 intro T;induction T with
 |zero=>
  intro j G s h b c;refine Q (RJ ..) (Q (Nat.one_mul ..) ?_);refine m _ p j G s (v3 g) ⟨h,b⟩ (v6 c (Qu _) (λq b=>b.1) λr c n G s e=>?_);refine Q (v5 e.2 l ..) (Q (Qs (by decide) ..) ?_);exact c n G _ (g _ _ _ (Qu _) e.1)
 |succ T t=>
  intro j G s h b c;refine Q (R0 ..) (Q (Rj (S8 ..)) ?_);refine m _ _ j G s (v3 g) ⟨h,b⟩ (v6 c (QU _ _) (λq b=>b.1) λr c n G s e=>?_);refine Q (v5 e.2 l ..) (Q (Qt (TA (Up T)) ..) ?_);exact(aU _ rfl (t _ _ _ (g _ _ _ (Qu _) e.1) (dn _ _ _) c))
theorem q6{a:Nat}{l:an→aJ×an}{c q h:Int}(k:gX bd a)(i:w.rows[a]? =J (as,.Od q C h n c))(r:w.d.NU a=U)(t:w.d.NZ a=J y)(u:w.d.NU y=J (m++a::np))(v:¬a∈m)
  (x:∀(ns:dz→Prop) (p:Nat) (j:an) (G:Option Int) (s:dz),gX ns (a+1)→ns s→hk w M f d ns p y (a::np) (ky hv (l j))→d7 w M f (p+E) ⟨a+1,j,G,s⟩)
  {s:dz}(o:bd s)(b:hk w M f d bd p y np (ex l hv C h n c j)):d7 w M f (p+bD h n c*E+1) ⟨a,j,G,s⟩:=by
 unfold ex at b;by_cases e:c=0
 ·rw [Qt e]at b;exact q4 ⟨_,_,i,.inl ⟨e,b.2⟩⟩ b.1
 ·rw [Qs e]at b;generalize g:bD h n c=z;induction z using Rn with
  |zero=>
   rw [g]at b;exact ae (b a G (a5 s a U) (k _ _ _ (Qu _) o)) λA B D=>eA (dJ ⟨_,_,i,.inr (.inl ⟨e,g,y,m,np,t,u,v,A,B,rfl⟩)⟩ D) (R3 (QU _ _))
  |succ T=>
   rw [g]at b;exact dJ ⟨_,_,i,.inr (.inr (gf e (by rw [g];exact Up T) r (by rw [g])))⟩ (be k i x T _ G _ (k _ _ _ (Qu _) o) (dn _ _ _) b)
theorem v7{g:Nat}(a:hk w M f d bd p y (g::np) (ky hv aj))(l:w.rows[y]? =J (own,fJ hv))(m:w.d.NU y=J (g::np))(n:w.Og e=J y):du w M f d e bd (p+1) y aj:=by
 have j:∀b,(∀k h c,bd c→∃i,fL w y (g::np) ⟨k,f1 hv b,h,c⟩=J i∧d7 w M f p i)→ib w M f bd (p+1) (J y) b:=λb a k h c o q=>by
  obtain rfl:=Qj o;exact ae (a _ h c q) λi r s=>dJ (EB l m r) s
 induction aj using RG with
 |mk t b=>
  induction t using aJ.casesOn with
  |on=>exact j b a
  |N0=>exact(show ib w M f bd (p+1) (w.Og e) b from n.symm▸j b a)
  |exit=>exact lt a (Q1 _) λv u=>u
  |fin=>exact a
  |fault=>exact a
theorem v8(a:du w M f d e bd p t (h7 aj))(i:aj.1≠.N0)(j:w.Og g=J (y+1))(c:∀D G s,eZ w ⟨y+1,D,G,s⟩ (.to ⟨t,D,G,s⟩)):hk w M f g bd (p+1) y [] aj:=by
 induction aj using RG with
 |mk k D=>
  clear i;induction k using aJ.casesOn with
  |on=>exact λl G s b=>(aU _ rfl (dJ (c _ _ _) (i0 a b)))
  |N0=>trivial
  |exit=>exact(show ib w M f bd (p+1) (w.Og g) D from λl G s h b=>by
    rw [j]at h;obtain rfl:=Qj h;exact dJ (c _ _ _) (i0 a b))
  |fin=>exact a
  |fault=>exact a
theorem EC(a:aj.1≠.N0):ky U aj=aj:=by
 induction aj using RG with
 |mk b c=>induction b using aJ.casesOn<;>first|rfl|exact(a rfl).elim
theorem ED(a:hk w M f d bd p y np (ky U (h6 aj cp)))(b:aj.1≠.N0)(on:∀D G s,bd s→hk w M f d bd p y np (ky U (cp D))→d7 w M f T ⟨v,D,G,s⟩)(c:p≤T):du w M f d e bd T v aj:=by
 induction aj using RG with
 |mk g D=>
  induction g using aJ.casesOn with
  |on=>exact λk G s h i=>by obtain rfl:=Qj h;exact on D G s i a
  |N0=>exact(b rfl).elim
  |exit=>exact lt a c λl j=>j
  |fin=>exact a
  |fault=>exact a
end
def EE(a:c8):Prop:=∀c i x,a.rows[c]? =J (i,x)→i≠0→a.Og i=J c
theorem mA{a:c8}(b:a.Og i=J v):gs a l i=J ⟨v,l.xs,l.lc,l.N2⟩:=by
 unfold gs;refine Q (b ..) ?_;rfl
theorem EF(b:ap<u):a+1+(ap:Int)∈dt a u:=RH.mpr (aU ap (List.mem_range.mpr b) rfl)
theorem EG(b:ap<u):(dt a u).getD ap 0=a+1+(ap:Int):=by
 simp [dt,RN,b]
theorem q7:(dt a u).length=u:=by simp [dt]
def oh(a:c8)(hx:Bool)(d e:Int):Prop:=hx=Qp→(∃v,a.Og d=J v)∧∃v,a.Og e=J v
def mB(a:c8)(E b:Nat):Prop:=∀D G s,eZ a ⟨b,D,G,s⟩ (.to ⟨E+1,D,G,s⟩)
theorem v9{f:c8}(b:kx f.rows f.d g d e a prev c v E)(h:mB f E v):mB f E c:=by
 induction g using cr.casesOn with
 |nil=>exact b.2▸h
 |cons i j g=>exact b.elim λk b=>λl m n=>⟨_,_,b.2.1,E,b.2.2.1,b.2.2.2.1,rfl⟩
theorem mC(b:kx ht L g d e a prev c v E):L.N1 prev=J c:=by
 induction g using cr.casesOn with
 |nil=>exact b.1
 |cons f h g=>exact b.elim λi b=>b.1
section
variable{u2:List aW}{ep u4 L:cb}{ud ua:a6}{pl u5:Nat→Prop}{cp:Int}{us u3:cb→Prop}
def hl(c:List aW)(b:Nat)(a:List aW)(d:Nat):Prop:=d=b+a.length∧∀ap,ap<a.length→c[b+ap]? =a[ap]?
theorem dv(a:hl z b (f::u2) t):z[b]? =J f∧hl z (b+1) u2 t:=
 ⟨a.2 0 (Up _),by have:=a.1;rw [Qw]at this;exact(au 484789088789076) this,λc d=>by rw [S8,Uq 1];exact a.2 (c+1) (TA d)⟩
theorem gv{c e:List aW}{f:Prop}(d:hl z b (c++e) t)(h:∀p,hl z b c p→hl z p e t→f):f:=
 h (b+c.length) ⟨rfl,λg a=>(d.2 g (by rw [Qr];exact(au 7375272228) a)).trans (SD a)⟩
  ⟨by have:=d.1;rw [Qr]at this;exact(aE 250928740783268436) this,λg a=>by
   rw [S8];exact(d.2 _ (by rw [Qr];exact(au 583473772836) a)).trans (by rw [R5 (QU _ _),Nat.add_sub_cancel_left])⟩
theorem e0(a:hl z b u2 t):b≤t:=a.1▸QU _ _
def i2(b:List aW)(a:Nat)(c:a6)(d:Nat)(e:a6):Prop:=∃T,d=a+T∧eN b T a c=J e
theorem q8:i2 z b x b x:=⟨0,rfl,rfl⟩
theorem ic(a:dH z b x=J ud)(c:i2 z (b+1) ud t ua):i2 z b x t ua:=ae c λT d e=>⟨T+1,by exact(au 512620474655316) d,by
 show(dH z b x).bind _=_;rw [a];exact e⟩
theorem ie(c:i2 z b x p ud)(d:i2 z p ud t ua):i2 z b x t ua:=ae c λT a e=>ae d λf g h=>⟨T+f,by exact(bU 5334017226121196905044) g a,by rw [vW,e,←a];exact h⟩
theorem mD(a:dH z b x=J ud):i2 z b x (b+1) ud:=ic a q8
theorem e1(c:fk pl r ep)(d:fk pl ep u4):fk pl r u4:=λa b=>(gf ((d a b).1.trans (c a b).1) ((d a b).2.1.trans (c a b).2.1) ((d a b).2.2.1.trans (c a b).2.2.1) ((d a b).2.2.2.trans (c a b).2.2.2))
theorem dV(a:fk pl r ep)(b:∀u,u5 u→pl u):fk u5 r ep:=λu c=>a u (b u c)
theorem oi:fk pl r r:=λa a=>(gf rfl rfl rfl rfl)
theorem q9{a:Option Nat}(b:∀u,pl u→u≠B):fk pl r {r with N1:=a5 r.N1 B a}:=λu c=>(gf (cR _ _ (b u c)) rfl rfl rfl)
theorem wa{a:List Nat}{b:Option Nat}(c:∀u,pl u→¬u∈a):fk pl r {r with N7:=λu=>if u∈a then b else r.N7 u}:=λu d=>(gf rfl (Qs (c u d)) rfl rfl)
theorem wb{a:Nat}{c:Option Nat}(d:∀u,pl u→u≠B)(e:∀u,pl u→u≠a):fk pl r {r with NZ:=a5 r.NZ B c,NU:=a5 r.NU a g}:=λu b=>(gf rfl rfl (cR _ _ (d u b)) (cR _ _ (e u b)))
def fm(a:Int)(b:Nat)(s:List (Int×Nat×Int))(c:cb):Prop:=(∀B∈s,B.1≤a)∧∀u,b≤u→c.NU u=U
theorem mE(c:fm a b s r)(d:a≤cp)(e:b≤p):fm cp p s r:=⟨λf g=>Tm (c.1 f g) d,λh i=>c.2 h (Qv e i)⟩
theorem oj(c:fm a b s r)(f:fk (q0 b p) r ep)(g:a≤cp)(h:b≤p):fm cp p s ep:=⟨λi j=>Tm (c.1 i j) g,λd e=>(f d (.inr e)).2.2.2.trans (c.2 d (Qv h e))⟩
theorem ra(c:fm a b s r)(d:a≤cp)(f:i≤cp)(e:b≤p):fm cp p ((i,T,o)::s) r:=⟨eo f (mE c d e).1,(mE c d e).2⟩
def ig(d:List aW)(a b:Nat)(c:cb)(cn:List (List Nat))(s:List (Int×Nat×Int))(e:cb→Prop):Prop:=∃ep,i2 d a ⟨c,cn,s⟩ b ⟨ep,cn,s⟩∧fk (q0 a b) c ep∧∀L,fk (hj a b) ep L→e L
theorem wc(a:∀L,us L):ig z b b r cn s us:=⟨r,q8,oi,λL c=>a L⟩
theorem i3(a:ig z b t r cn s us)(c:∀L,us L→u3 L):ig z b t r cn s u3:=a.imp λe a=>(bw a.1 a.2.1 (λL d=>c L (a.2.2 L d)))
theorem f4(j:ig z b p r cn s us)(k:fm a b s r)(l:a≤cp)(e:b≤p)(f:p≤t)(m:∀ep,fm cp p s ep→ig z p t ep cn s u3):ig z b t r cn s (λL=>us L∧u3 L):=
 bk j λn o g q=>bk (m n (oj k g l e)) λu v h w=>
  ⟨u,ie o v,e1 (dV g λd c=>by exact(aE 179253201130805210664) c f) (dV h λd c=>by exact(aE 91416817148032134696) c e),λL i=>⟨q L (e1 (dV h λd c=>by exact(aE 14490670750608600) c) (dV i λd c=>by exact(aE 2864436956647322397912) c f)),w L (dV i λd c=>by exact(aE 1446185020099614059736) c e)⟩⟩
theorem rb(c:fm a b s r)(d:i=0∨a<i):∀B∈s,i=0∨B.1≠i:=λB e=>d.imp id λf g=>by have:=c.1 B e;exact(b6 551876966353200) f g this
theorem rc{a:b4}(c:z[b]? =J (i,a))(d:jG a=Qp)(e:∀B∈s,i=0∨B.1≠i):dH z b ⟨r,cn,s⟩=J ⟨r,cn,s⟩:=by
 rw [og c d,my e]
theorem fM{c:b4}(e:z[b]? =J (i,c))(f:jG c=Qp)(d:fm a b s r)(g:i=0∨a<i):ig z b (b+1) r cn s (λL=>L.NU b=U):=
 ⟨r,mD (rc e f (rb d g)),oi,λL h=>(h b ⟨Qu _,S7 _⟩).2.2.2.trans (d.2 b (Qu _))⟩
theorem rd{a:Int}{c d:Int}(e:z[b]? =J (i,.Od a C c hi d)):dH z b ⟨r,cn,s⟩=J ⟨r,cn,(a,b,dG cn)::s⟩:=kv e
theorem re(a:i≠0):ez i b o ((i,B,o)::s) r=ez i b o s {r with NZ:=a5 r.NZ B (J b),NU:=a5 r.NU b (J ((r.NU b).getD []++[B]))}:=by
 exact(Qt ⟨a,rfl⟩).trans (Qt rfl)
theorem EH{a:Nat}(c:i≠0)(d:r.NU b=U):ez i b o ((i,B,o)::(i,a,o)::s) r=ez i b o s {r with NZ:=a5 (a5 r.NZ B (J b)) a (J b),NU:=a5 (a5 r.NU b (J [B])) b (J [B,a])}:=by
 rw [re c,re c,d];show ez i b o s {r with NZ:=_,NU:=a5 _ b (J ((a5 r.NU b (J [B]) b).getD []++[a]))}=_;rw [dn];rfl
theorem wd{a:b4}(c:z[B]? =some (i,a))(d:el a=Qq):eM z Qq b ⟨r,(B::fw)::cn,s⟩=some ⟨{r with N1:=a5 r.N1 B (some b)},(b::B::fw)::cn,s⟩:=by
 show(match z[B]?with|some (_,a)=>_|none=>_)=_;rw [c];show(if(el a&& !Qq)=Qp then _ else _)=_;rw [d];rfl
theorem EI{a:b4}{c:Bool}(e:z[B]? =some (i,a))(d:el a=c):eM z Qp b ⟨r,(B::fw)::cn,s⟩=some ⟨{(if c=Qp then r else {r with N1:=a5 r.N1 B (some b)})with N7:=λu=>if u∈B::fw then some b else r.N7 u},cn,s⟩:=by
 show(match z[B]?with|some (_,a)=>_|none=>_)=_;rw [e];show(if(el a&& !Qp)=Qp then _ else _)=_;rw [d];clear d;induction c using Qz<;>rfl
end
def em(a:aJ):Prop:=a≠.exit∧a≠.N0
theorem rf{a:an→aJ×an}{b:Int}:∀(T:Nat) (j:an),(ew a y C b T j).1≠.N0
 |0,j=>nofun
 |T+1,j=>by
  refine Q (vO ..) ?_;generalize a j=c;induction c using RG with
  |mk d e=>induction d using aJ.casesOn with
   |on=>exact rf T _
   |N0=>exact rf T _
   |exit=>exact nofun
   |fin=>exact nofun
   |fault=>exact nofun
theorem lv:em .on:=⟨nofun,nofun⟩
theorem we:em .fin:=⟨nofun,nofun⟩
theorem ok{a:aJ×an}(b:a.1≠.N0):em (h7 a).1:=by
 induction a using RG with
 |mk c d=>induction c using aJ.casesOn with
  |on=>exact lv
  |N0=>exact(b rfl).elim
  |exit=>exact lv
  |fin=>exact we
  |fault=>exact⟨nofun,nofun⟩
theorem jJ{c:an→aJ×an}{d a:Int}:(ex c y C d n a j).1≠.N0:=by
 unfold ex;by_cases b:a=0
 ·refine Q (Qt b ..) ?_;exact nofun
 ·refine Q (Qs b ..) ?_;exact rf _ _
theorem EJ{a:aJ×an}(b:em a.1)(c:∀D,em (cp D).1):em (h6 a cp).1:=by
 induction a using RG with
 |mk d D=>induction d using aJ.casesOn with
  |on=>exact c D
  |_=>exact b
theorem rg{a:Prop}[Decidable a]{b c:aJ×an}(e:em b.1)(f:em c.1):em (if a then b else c).1:=by
 by_cases d:a
 ·refine Q (Qt d ..) ?_;exact e
 ·refine Q (Qs d ..) ?_;exact f
theorem EK{a:aJ×an}(b:∀f,o=some f→em f.1)(c:em a.1):em (match o with|some f=>f|none=>a).1:=by
 induction o using Qm with
 |none=>exact c
 |some f=>exact b f rfl
mutual
theorem EL:∀(c:c7) (q:Int) (j:an),fl Qq q c→em (eL c j).1
 |.plain c=>λq j a=>lv
 |.exit e=>λq j a=>bG a.1.symm
 |.N0 e=>λq j a=>bG a.1.symm
 |.fin e=>λq j a=>rg we lv
 |.cond e f h o d=>λq j a=>rg (i4 f q j a.2.1) (EK (wf h q j a.2.2.1) (i4 d q j a.2.2.2.1))
 |.way i p b=>λq j a=>ol b q i j a.2
 |.sign g b d=>λq j a=>ol b q _ j a.2.2.1
 |.sw g b d=>λq j a=>rg (ol b q _ j a.2.1) (i4 d q j a.2.2)
 |.loop k g l f H m n=>λq j a=>ok jJ
 |.pair k g l f H m r s t u v n=>λq j a=>ok jJ
theorem i4:∀(c:aP) (q:Int) (j:an),cD Qq q c→em (bv c j).1
 |.nil=>λq j a=>lv
 |.cons c b=>λq j a=>EJ (EL c q j a.1) (λd=>i4 b q d a.2)
theorem wf:∀(c:cr) (q:Int) (j:an),ia Qq q c→∀f,gS c j=J f→em f.1
 |.nil=>λq j b f a=>ag a
 |.cons d e g=>λq j b f a=>by
  have a:(if d.ev j=Qp then J (bv e j)else gS g j)=J f:=a;by_cases h:d.ev j=Qp
  ·rw [Qt h]at a;exact Qj a▸i4 e q j b.2.1
  ·rw [Qs h]at a;exact wf g q j b.2.2 f a
theorem ol:∀(c:bu) (q:Int) (ap:Nat) (j:an),gW Qq q c→em (iY c ap j).1
 |.nil=>λq ap j a=>lv
 |.cons b d=>λq ap j a=>match ap with
  |0=>i4 b q j a.1
  |ap+1=>ol d q ap j a.2
end
theorem wg{b:Int}:fI b<3∧(if b<0 then a+1 else if b=0 then a+2 else a+3)=a+1+(fI b:Int):=by
 unfold fI;by_cases c:b<0
 ·refine Q (Qt c ..) (Q (Qt c ..) ?_);exact⟨by decide,(To _).symm⟩
 ·refine Q (Qs c ..) (Q (Qs c ..) ?_);by_cases d:b=0
  ·refine Q (Qt d ..) (Q (Qt d ..) ?_);exact⟨by decide,(Int.add_assoc a 1 1).symm⟩
  ·refine Q (Qs d ..) (Q (Qs d ..) ?_);exact⟨by decide,(Int.add_assoc a 1 2).symm⟩
def EM(c:c8)(g:an)(h:dU)(f:c7):Prop:=∀(hx:Bool) (q d e a:Int) (b t:Nat),0≤a→q3 c.rows c.d f d e a b t→fl hx q f→oh c hx d e→∀{bd:dz→Prop}{p:Nat}{j:an}{G:Option Int}{s:dz},gX bd b→bd s→du c g h d e bd p t (eL f j)→d7 c g h (p+d6 f) ⟨b,j,G,s⟩
def EN(c:c8)(g:an)(h:dU)(f:aP):Prop:=∀(hx:Bool) (q d e a:Int) (b t:Nat),0≤a→f3 c.rows c.d f d e a b t→cD hx q f→oh c hx d e→∀{bd:dz→Prop}{p:Nat}{j:an}{G:Option Int}{s:dz},gX bd b→bd s→du c g h d e bd p t (bv f j)→d7 c g h (p+bn f) ⟨b,j,G,s⟩
def EO(b:c8)(g:an)(h:dU)(f:cr):Prop:=∀(hx:Bool) (q d e a:Int) (i c v E:Nat),0≤a→kx b.rows b.d f d e a i c v E→ia hx q f→oh b hx d e→mB b E v→∀j:an,match gS f j with
  |none=>∀hi,gT b j v hi→gT b j c hi
  |some aj=>∃hi,gT b j c hi∧∀{bd:dz→Prop}{p:Nat}{G:Option Int}{s:dz},gX bd c→bd s→du b g h d e bd p (E+1) aj→d7 b g h (p+gt f) ⟨hi,j,G,s⟩
def EP(b:c8)(g:an)(h:dU)(f:bu):Prop:=∀(hx:Bool) (q d e i t a:Int) (c y k:Nat),0≤a→0<i→ls b.rows b.d f d e i t a c y→gW hx q f→oh b hx d e→b.Og t=J k→∀ap,ap<aQ f→∃hi,b.Og (i+ap)=J hi∧∀{bd:dz→Prop}{p:Nat}{j:an}{G:Option Int}{s:dz},gX bd c→bd s→du b g h d e bd p k (iY f ap j)→d7 b g h (p+dI f) ⟨hi,j,G,s⟩
section
variable{w:c8}{f:dU}(t0:EE w)
include t0
mutual
theorem EQ:∀c:c7,EM w M f c
 |.plain c=>λA B p q d n k g e h x E u b t o y i a=>bf e λj T k=>by
  subst k;clear h e;induction c using a3.casesOn with
  |set r=>exact dJ ⟨_,_,j,_,i1 T,rfl⟩ (i0 a i)
  |OC aP r=>exact dJ ⟨_,_,j,_,i1 T,rfl⟩ (i0 a i)
 |.exit r=>λA B p q d n k g e h x E u b t o y i a=>bf e λj T k=>by
  clear e;subst k;have a:du w M f p q E u (n+1) (if r.ev b=true then(.exit,b)else(.on,b)):=a;generalize s:r.ev b=O;induction O using Qz with
  |true=>rw [Qt s]at a;exact(x h.1).1.elim λl G=>dJ ⟨_,_,j,.inl ⟨s,_,mA G,rfl⟩⟩ (a l t o G i)
  |false=>rw [Qs (ne_true_of_eq_false s)]at a;exact dJ ⟨_,_,j,.inr ⟨s,_,i1 T,rfl⟩⟩ (i0 a i)
 |.N0 r=>λA B p q d n k g e h x E u b t o y i a=>bf e λj T k=>by
  clear e;subst k;have a:du w M f p q E u (n+1) (if r.ev b=true then(.N0,b)else(.on,b)):=a;generalize s:r.ev b=O;induction O using Qz with
  |true=>rw [Qt s]at a;exact(x h.1).2.elim λl G=>dJ ⟨_,_,j,.inl ⟨s,_,mA G,rfl⟩⟩ (a l t o G i)
  |false=>rw [Qs (ne_true_of_eq_false s)]at a;exact dJ ⟨_,_,j,.inr ⟨s,_,i1 T,rfl⟩⟩ (i0 a i)
 |.fin r=>λA B p q d n k g e h x E u b t o y i a=>bf e λj T k=>by
  clear e;subst k;have a:du w M f p q E u (n+1) (if r.ev b=true then(.fin,b)else(.on,b)):=a;generalize s:r.ev b=O;induction O using Qz with
  |true=>rw [Qt s]at a;exact q4 ⟨_,_,j,.inl ⟨s,a.2⟩⟩ a.1
  |false=>rw [Qs (ne_true_of_eq_false s)]at a;exact dJ ⟨_,_,j,.inr ⟨s,_,i1 T,rfl⟩⟩ (i0 a i)
 |.cond r Z aa af I=>λA B p q d n k g e h x E u b t o y i a=>by
  refine zt e λc l P j R bO aw ce G V ax e=>?_;rw [e.2]at a;have az:mB w P P:=λaA t o=>⟨_,_,ax,_,i1 e.1,rfl⟩;have step:∀C,gT w b n C→eZ w ⟨n,b,t,o⟩ (.to ⟨C,b,t,o⟩):=λC L=>⟨_,_,j,C,L,R,rfl⟩;have aB:mB w P l:=by
   clear h a e;clear e;induction af using Qz with
   |true=>exact λaA t o=>⟨_,_,V.1,P,V.2.1,V.2.2.1,rfl⟩
   |false=>exact V▸az
  have ai:du w M f p q E u (P+1) (if r.ev b=true then bv Z b else match gS aa b with|some aj=>aj|none=>bv I b):=a;have D:d6 (.cond r Z aa af I)=bn Z+gt aa+bn I+3:=rfl;generalize s:r.ev b=O;induction O using Qz with
  |true=>
   rw [Qt s]at ai;exact eA (dJ (step _ (.yes (.inl j) s)) (ih Z A B p q d (n+1) c g bO h.2.1 x (gu y (Q1 _)) i (jI ai (v9 ce aB)))) (by refine Q (D ..) ?_;exact(aE 190010584782880189))
  |false=>
   rw [Qs (ne_true_of_eq_false s)]at ai;have W:=wh aa A B p q (d+aF Z) n c l P ‹(aC 12700459896) g› ce h.2.2.1 x aB b;generalize aD:gS aa b=O;induction O using Qm with
   |some aj=>
    rw [aD]at ai W;exact W.elim λC W=>eA (dJ (step _ (.no (.inl j) s (mC ce) W.1)) (W.2 (gu y aw) i ai)) (by refine Q (D ..) ?_;exact(aE 11838553031492029))
   |none=>
    rw [aD]at ai W;induction af using Qz with
    |true=>exact eA (dJ (step _ (.no (.inl j) s (mC ce) (W _ (.Op V.1)))) (ih I A B p q (d+aF Z+cP aa) (l+1) P ‹(bx 170902360793976) g› V.2.2.2 h.2.2.2.1 x (gu y (RW (Qv aw G))) i (jI ai az))) (by refine Q (D ..) ?_;exact(aE 167250694087916989))
    |false=>
     have af:=h.2.2.2.2 rfl;clear e h a;subst af;exact eA (dJ (step _ (.no (.inl j) s (mC ce) (W _ (.Ot (by refine Q (show l=P from V) ?_;exact ax))))) (show d7 w M f u _ from by refine Q (show l=P from V) ?_;exact i0 ai i)) (by refine Q (D ..) ?_;exact(aE 46389302925373))
 |.way an aG m=>λA B p q d n k g e h x E u b t o y i a=>by
  refine sz e λl j R S a6 F N k=>?_;rw [k]at a;have ab:=t0 _ _ _ F ‹(aC 33550307758968) g›;refine(om m A B p q (d+1) (d+1+aQ m) (d+1+aQ m) (n+2) l l ‹(aC 203520320376) g› ‹(ay 38191992) g› a6 h.2 x ab an h.1).elim λC L=>?_;have D:d6 (.way an aG m)=dI m+5:=rfl;refine eA (dJ (no:=⟨n+1,b,some (d+1+an),o⟩) ⟨_,_,j,_,i1 R,rfl⟩ (dJ (no:=⟨C,b,some (d+1+an),o⟩) ⟨_,_,S,_,rfl,?_,_,mA L.1,rfl⟩ (L.2 (gu y (QU _ _)) i (jI a λv v v=>lu F N)))) (by refine Q (D ..) ?_;exact(ak 120036161477629));clear e a S D;induction aG using Qz with
  |true=>exact .inr (EF h.1)
  |false=>exact .inl rfl
 |.sign z m I=>λA B p q d n k g e h x E u b t o y i a=>by
  refine pt e λl j a6 F N k=>?_;rw [k]at a;have ab:=t0 _ _ _ F ‹(aC 33550307758968) g›;have ao:fI (b.getD z 0)<aQ m∧(if b.getD z 0<0 then d+1 else if b.getD z 0=0 then d+2 else d+3)=d+1+(fI (b.getD z 0):Int):=by
   refine Q (h.2.1 ..) ?_;exact wg
  refine(om m A B p q (d+1) (d+1+aQ m) (d+1+aQ m) (n+1) l l ‹(ff 59436871661198792302756728) g ao› ‹(ff 3401406626970929431416) g ao› a6 h.2.2.1 x ab _ ao.1).elim λC L=>?_;have D:d6 (.sign z m I)=dI m+5:=rfl;exact eA (dJ ⟨_,_,j,_,mA (ao.2▸L.1),rfl⟩ (L.2 (gu y (Q1 _)) i (jI a λv v v=>lu F N))) (by refine Q (D ..) ?_;exact(ak 7502260092349))
 |.sw z m I=>λA B p q d n k g e h x E u b t o y i a=>by
  refine sB e λl X j R bO G S a6 F N k=>?_;rw [k]at a;have ab:=t0 _ _ _ F ‹(aC 33550307758968) g›;have D:d6 (.sw z m I)=dI m+bn I+5:=rfl;have a:du w M f p q E u (X+1) (if 0<b.getD z 0∧b.getD z 0≤(aQ m:Int)then iY m (b.getD z 0-1).toNat b else bv I b):=a;have ai:=jI a λv v v=>lu F N;by_cases Y:0<b.getD z 0∧b.getD z 0≤(aQ m:Int)
  ·rw [Qt Y]at ai;have aH:(b.getD z 0-1).toNat<aQ m:=by exact(bx 165793783412752035593269890691398216456) Y (cz _)
   exact(om m A B p q (d+1) (d+1+aQ m) (d+1+aQ m+aF I) (l+1) X X ‹(ff 59456372054105694788233992) Y g› ‹(ay 38191992) g› a6 h.2.1 x ab _ aH).elim λC L=>eA (dJ (no:=⟨C,b,t,o⟩) ⟨_,_,j,.inl ⟨Y.1,by refine Q (q7 ..) ?_;exact Y.2,_,mA (by refine Q (EG aH ..) ?_;exact L.1),rfl⟩⟩ (L.2 (gu y (RW G)) i ai)) (by refine Q (D ..) ?_;exact(au 1953689380863421))
  ·rw [Qs Y]at ai;exact eA (dJ ⟨_,_,j,.inr ⟨by refine Q (q7 ..) ?_;exact Y,_,i1 R,rfl⟩⟩ (ih I A B p q (d+1+aQ m) (n+1) l ‹(aC 203520320376) g› bO h.2.2 x (gu y (Q1 _)) i (jI ai λv v v=>v4 S ab))) (by refine Q (D ..) ?_;exact(au 30665293814824381))
 |.loop r z ag C H K X=>λA B p q d n k g e h x E u b t o y i a=>by
  refine zs e λl j R bO S ar N F as k=>?_;rw [k]at a;have ah:=t0 _ _ _ S ‹(ay 8184140664) g›;have al:=t0 _ _ _ F ‹(ay 524608082808) g›;have D:d6 (.loop r z ag C H K X)=bD ag C H*(bn K+1)+5:=rfl;refine eA (q6 (E:=bn K+1) (m:=[]) (d:=d+2) y j R ar N nofun (λaI u b t o ad am a=>?_) i (v8 a jJ al λv v v=>lu F as)) (by refine Q (D ..) ?_;exact(ak 7502260092349));exact eA (ih K true r (d+2) (d+1) (d+2) (n+1) l ‹(ay 3690308472) g› bO h.2.2.1 (λv=>⟨⟨_,al⟩,_,ah⟩) ad am (v7 a S N ah)) ‹(ak 4229481433)›
 |.pair r z ag C H K aJ aL ap aq ae X=>λA B p q d n k g e h x E u b t o y i a=>by
  refine sB e λl aM j R bO G S ar bI F e=>sx e λN as av aK aN k=>?_;rw [k]at a;have ah:=t0 _ _ _ F ‹(ay 8184140664) g›;have al:=t0 _ _ _ aK ‹(ay 524608082808) g›;have D:d6 (.pair r z ag C H K aJ aL ap aq ae X)=bD ag C H*(bn K+1+bD ap aq 1*(bn ae+1)+1)+6:=rfl;refine eA (q6 (E:=bn K+1+bD ap aq 1*(bn ae+1)+1) (m:=[l]) (d:=d+2) y j R N av (λaO=>RA G (Rk.mp aO)) (λaI u b t o ad am a=>?_) i (v8 a jJ al λv v v=>lu aK aN)) (by refine Q (D ..) ?_;exact(ak 6677626371517));refine eA (ih K false r (d+2) (d+1) (d+2) (n+1) l ‹(ay 3690308472) g› bO h.2.2.1 nofun ad am (ED (T:=u+bD ap aq 1*(bn ae+1)+1) a (i4 K r b h.2.2.1).2 (λaA t o i a=>?_) ‹(ak 793537)›)) ‹(au 4290002767584217)›;rw [EC jJ]at a;refine q6 (E:=bn ae+1) (m:=[]) (d:=d+2) (gu ad G) S ar as av nofun (λaI u b t o ad am a=>?_) i a;exact eA (ih ae true aJ (d+2) (d+1) (d+2+aF K+1) (l+1) aM ‹(aC 208751982650232) g› bI h.2.2.2.2.2.1 (λv=>⟨⟨_,al⟩,_,ah⟩) ad am (v7 a F av ah)) ‹(ak 4229481433)›
theorem ih:∀n:aP,EN w M f n
 |.nil=>λd e g h i j k l m o p u v x r s q a b=>(show k=j from m)▸i0 b a
 |.cons c n=>λd e g h i j k l m o p u v x r s q a b=>bk m λt y z A=>by
  have B:bn (.cons c n)=d6 c+bn n:=rfl;refine Q (B ..) (Q (Uq (d6 c) ..) (Q (Rj (S8 ..)) ?_));exact EQ c d e g h i j t l y o.1 p q a (EA b λC r s a b=>ih n d e g h (i+cs c) t k ‹(aC 12700459896) l› A o.2 p (gu q z) a b)
theorem wh:∀g:cr,EO w M f g
 |.nil=>λe h i j k F d A B l m n o p a=>λq r=>m.2▸r
 |.cons s c g=>λe h i j k F d A B l m n o p a=>by
  refine sz m λC H t I K bO G ce=>?_;show match(if s.ev a=true then some (bv c a)else gS g a)with|none=>_|some aj=>_
  have D:gt (.cons s c g)=bn c+gt g+1:=rfl;generalize u:s.ev a=v;induction v using Qz with
  |true=>
   exact Q (Qt rfl ..) ⟨d+1,.yes (.inr t) u,λx y z=>eA (ih c e h i j k (d+1) C l bO n.2.1 o (gu x (Q1 _)) y (jI z (v9 ce p))) (by refine Q (D ..) ?_;exact(au 3357525197785))⟩
  |false=>
   refine Q (Qs nofun ..) ?_;have b:=wh g e h i j (k+aF c) d C A B ‹(aC 12700459896) l› ce n.2.2 o p a;generalize E:gS g a=v;induction v using Qm with
   |some aj=>
    rw [E]at b;exact b.imp λq b=>⟨.no (.inr t) u (mC ce) b.1,λx y z=>eA (b.2 (gu x G) y z) (by refine Q (D ..) ?_;exact(au 64890178585))⟩
   |none=>
    rw [E]at b;exact λq r=>.no (.inr t) u (mC ce) (b q r)
theorem om:∀A:bu,EP w M f A
 |.nil=>λe g h i c t j k u v l a x m n o b p=>(Ss b p).elim
 |.cons d q=>λe g h i c t j k u v l a x m n o b p=>by
  refine zr x λy z E bO F G a6=>?_;have B:dI (.cons d q)=bn d+dI q+2:=rfl;induction b using Rn with
  |zero=>
   refine⟨k,by refine Q (show c+((0:Nat):Int)=c by exact(ay 316448)) ?_;exact t0 _ _ _ z ‹(ay 513479568) a›,λr a s=>?_⟩;exact eA (dJ (lu z E) (ih d e g h i j (k+1) y l bO m.1 n (gu r (Q1 _)) a (jI s λC C C=>v4 G o))) (by refine Q (B ..) ?_;exact(au 475945753132477))
  |succ b=>
   refine(om q e g h i (c+1) t (j+aF d) (y+1) u v ‹(aC 12700459896) l› ‹(ay 38192016) a› a6 m.2 n o b (S2 p)).imp λH D=>?_;exact⟨by refine Q (show c+((b+1:Nat):Int)=c+1+(b:Int) by exact(aC 361809318944)) ?_;exact D.1,λr a s=>eA (D.2 (gu r (RW F)) a s) (by refine Q (B ..) ?_;exact(au 1714207951897))⟩
end
end
def gY(c:c7):Prop:=∀{d e a:Int}{b t:Nat}{r:cb}{cn:List (List Nat)}{s:List (Int×Nat×Int)}{z:List aW},0≤a→hl z b (dy c d e a) t→fm a b s r→ig z b t r cn s (λL=>q3 z L c d e a b t)
def hm(c:aP):Prop:=∀{d e a:Int}{b t:Nat}{r:cb}{cn:List (List Nat)}{s:List (Int×Nat×Int)}{z:List aW},0≤a→hl z b (b0 c d e a) t→fm a b s r→ig z b t r cn s (λL=>f3 z L c d e a b t)
def lw(c:bu):Prop:=∀{d e i t a f0:Int}{b y:Nat}{r:cb}{cn:List (List Nat)}{s:List (Int×Nat×Int)}{z:List aW},0≤a→f0<i→f0≤a→hl z b (ey c d e i t a) y→fm f0 b s r→ig z b y r cn s (λL=>ls z L c d e i t a b y)
def mF(g:cr):Prop:=∀{d e a:Int}{c v:Nat}{r:cb}{last:Nat}{fw:List Nat}{cn:List (List Nat)}{s:List (Int×Nat×Int)}{z:List aW},0≤a→hl z c (f2 g d e a) v→fm a c s r→(∀B∈last::fw,B<c)→(∃i y,z[last]? =J (i,y)∧el y=Qq)→
 ∃ep b f,i2 z c ⟨r,(last::fw)::cn,s⟩ v ⟨ep,(b::f)::cn,s⟩∧(∃i y,z[b]? =J (i,y)∧el y=Qq)∧(∀B∈last::fw,B∈b::f)∧(∀B∈b::f,B∈last::fw∨hj c v B)∧(b=last∨hj c v b)∧fk (λu=>q0 c v u∧u≠last) r ep∧ep.NU last=r.NU last∧
  ∀L E,(∀u,hj c v u→L.NU u=ep.NU u∧L.NZ u=ep.NZ u∧(u≠b→L.N1 u=ep.N1 u)∧(¬u∈b::f→L.N7 u=ep.N7 u))→(last≠b→L.N1 last=ep.N1 last)→v≤E→(∀u∈b::f,L.N7 u=J E)→L.N1 b=J v→kx z L g d e a last c v E
theorem ER(a:a3):gY (.plain a):=λe N c=>ar (dv N) λb N=>by
 obtain rfl:=N.1;exact i3 (fM b (vX a) c (.inl rfl)) λf d=>⟨b,d,rfl⟩
theorem ES(b:cf):gY (.exit b):=λe N c=>ar (dv N) λa N=>by
 obtain rfl:=N.1;exact i3 (fM a rfl c (.inl rfl)) λf d=>⟨a,d,rfl⟩
theorem ET(b:cf):gY (.N0 b):=λe N c=>ar (dv N) λa N=>by
 obtain rfl:=N.1;exact i3 (fM a rfl c (.inl rfl)) λf d=>⟨a,d,rfl⟩
theorem EU(b:cf):gY (.fin b):=λe N c=>ar (dv N) λa N=>by
 obtain rfl:=N.1;exact i3 (fM a rfl c (.inl rfl)) λf d=>⟨a,d,rfl⟩
theorem EV{j:Bool}(k:lw A):gY (.way ap j A):=λ{n o b p q c r s t} l N a=>ar (dv N) λf N=>ar (dv N) λg N=>gv N λm h N=>ar (dv N) λi N=>by
 obtain rfl:=N.1;have d:=e0 h;refine i3 (f4 (cp:=b) (fM f rfl a (.inl rfl)) a (QK _) (Q1 _) ‹(au 484788567355356) d› λc a=>f4 (cp:=b) (fM g rfl a (.inl rfl)) a (QK _) (Q1 _) ‹(au 7756617493327836) d› λc a=>
  f4 (cp:=b) (k (f0:=b) ‹(aC 203520320376) l› ‹(ay 964)› ‹(aC 5520770)› h a) a (QK _) d (Q1 _) λc a=>fM i rfl a (.inr ‹(aC 5520772)›)) λu e=>⟨m,f,e.1,g,e.2.2.1,i,e.2.2.2,rfl⟩
theorem EW(i:lw A):gY (.sign C A o):=λ{l m b n p c q r s} j N a=>ar (dv N) λd N=>gv N λk e N=>ar (dv N) λf N=>by
 obtain rfl:=N.1;have g:=e0 e;refine i3 (f4 (cp:=b) (fM d rfl a (.inl rfl)) a (QK _) (Q1 _) ‹(au 30299285459676) g› λc a=>
  f4 (cp:=b) (i (f0:=b) ‹(aC 203520320376) j› ‹(ay 964)› ‹(aC 5520770)› e a) a (QK _) g (Q1 _) λc a=>fM f rfl a (.inr ‹(aC 5520772)›)) λt h=>⟨k,d,h.2.1,f,h.2.2,rfl⟩
theorem EX(l:lw A)(m:hm o):gY (.sw C A o):=λ{q r b s t c u v w} g N a=>ar (dv N) λh N=>gv N λn hL N=>ar (dv N) λi N=>gv N λp j N=>ar (dv N) λk N=>by
 obtain rfl:=N.1;have d:=e0 j;have f:=e0 hL;refine i3 (f4 (cp:=b) (fM h rfl a (.inl rfl)) a (QK _) (Q1 _) ‹(aE 36202022196861506268) f d› λc a=>f4 (cp:=b) (m ‹(aC 203520320376) g› hL (mE a ‹(aC 5520770)› (Qu _))) a (QK _) f ‹(au 1893703717596) d› λc a=>f4 (cp:=b) (fM i rfl a (.inl rfl)) a (QK _) (Q1 _) ‹(au 30299285459676) d› λc a=>
  f4 (cp:=b) (l (f0:=b) ‹(bx 2734443181745016) g› ‹(ay 964)› ‹(bx 74176518530)› j a) a (QK _) d (Q1 _) λc a=>fM k rfl a (.inr ‹(aC 5520772)›)) λx e=>⟨n,p,h,e.1,e.2.1,by exact(ak 113873628) f,i,e.2.2.2.1,k,e.2.2.2.2,rfl⟩
theorem EY{b:c7}(h:gY b)(i:hm f):hm (.cons b f):=λ{m n j o p k q r s} d N a=>gv N λl c e=>
 i3 (f4 (cp:=j+cs b) (h d c a) a ‹(aC 344450)› (e0 c) (e0 e) λk a=>i ‹(aC 12700459896) d› e a) λt g=>⟨l,g.1,e0 c,g.2⟩
theorem EZ{h:aP}(o:hm h)(p:lw f):lw (.cons h f):=λ{r s t u v b w x c y z A} i j k N a=>ar (dv N) λl N=>gv N λq m N=>ar (dv N) λn N=>by
 have d:=e0 m;have e:=e0 N;exact i3 (f4 (cp:=b) (fM l rfl a (.inr j)) a (QK _) (Q1 _) ‹(au 1357133928764124) e d› λc a=>f4 (cp:=b) (o i m (mE a k (Qu _))) a (QK _) d ‹(ak 113873628) e› λc a=>f4 (cp:=b) (fM n rfl a (.inl rfl)) a (QK _) (Q1 _) e λc a=>
  p ‹(aC 12700459896) i› ‹(ck 148785456) j› ‹(iF 12811053336) k› N a) λB g=>⟨q,l,g.1,g.2.1,by exact(ak 113873628) d,n,g.2.2.2⟩
theorem E0{e:Int}{m t:Int}(u:hm body):gY (.loop e C m hi t body y):=λ{G H j d I v f n w} o N h=>ar (dv N) λp N=>gv N λa q N=>ar (dv N) λr N=>ar (dv N) λs N=>by
 obtain rfl:=N.1;have c:=e0 q;refine bk (u (r:=v) (cn:=f) ‹(ay 3690308472) o› q (ra (i:=j+1) (T:=d) (o:=dG f) h ‹(ay 100034)› ‹(ay 1600574)› (Q1 _))) λg x k z=>?_;have A:g.NU a=U:=(k a (.inr (Qu _))).2.2.2.trans (h.2 a ‹(ak 113873628) c›);have gZ:∀l,j<l→∀m∈n,l=0∨m.1≠l:=λl B=>rb h (.inr B);have D:dH w a ⟨g,f,(j+1,d,dG f)::n⟩=J ⟨{g with NZ:=a5 g.NZ d (J a),NU:=a5 g.NU a (J [d])},f,n⟩:=by
  refine Q (og r (vY y) ..) ?_;show(ez (j+1) a (dG f) _ g).map _=_;refine Q (re ‹(ay 8184140664) o› ..) (Q (A ..) (Q (q1 (gZ _ ‹(ay 964)›) ..) ?_));rfl
 refine⟨_,ic (rd p) (ie x (ic D (mD (rc s rfl (gZ _ ‹(ay 100036)›))))),e1 (dV k λe b=>by exact(aE 2578282516704954756648) b) (wb (λe b=>by exact(aE 35157351817902467617500) c b) λe b=>by exact(aE 156186439685510835770076) c b),λE i=>?_⟩;have F:=i a ⟨by exact(ak 113873628) c,by exact(ak 12844419)⟩;refine⟨a,p,(i d ⟨Qu _,by exact(au 30304913560284) c⟩).2.2.2.trans ((cR _ _ ‹(ak 1413845724) c›).trans ((k d (.inl (S7 _))).2.2.2.trans (h.2 d (Qu _)))),z E (e1 (wb (λe b=>by exact(au 5158697886360) b) λe b=>by exact(au 205544692048536) b) (dV i λe b=>by exact(aE 83417116938703365399192) b)),r,(i d ⟨Qu _,by exact(au 30304913560284) c⟩).2.2.1.trans (dn _ _ _),F.2.2.2.trans (dn _ _ _),s,?_,rfl⟩;exact(i (a+1) ⟨by exact(ak 2378797788) c,by exact(ak 205510719)⟩).2.2.2.trans ((cR _ _ ‹(aN 813)›).trans ((k (a+1) (.inr (Q1 _))).2.2.2.trans (h.2 _ ‹(ak 2378797788) c›)))
theorem E1{a:Int}{o H:Int}(I:hm body)(K:hm as):gY (.pair a C o hi H body a2 b2 c2 f0 as y):=λ{aa ab i f ad t h p L} j N q=>ar (dv N) λu N=>gv N λg v N=>ar (dv N) λw N=>gv N λe x N=>ar (dv N) λz N=>ar (dv N) λA N=>by
 obtain rfl:=N.1;have c:=e0 v;have d:=e0 x;have B:=ra (cp:=i+2) (i:=i+1) (T:=f) (o:=dG h) q ‹(ay 100034)› ‹(ay 1600574)› (Q1 _);refine bk (I (r:=t) (cn:=h) ‹(ay 3690308472) j› v B) λM O D P=>?_;have E:=oj (cp:=i+2+aF body+1) B D ‹(aC 5798666115182)› c;refine bk (K (r:=M) (cn:=h) ‹(aC 208751982650232) j› x (ra (i:=i+1) (T:=g) (o:=dG h) E (QK _) ‹(aC 90604158014)› (Q1 _))) λk R r S=>?_;have T:k.NU e=U:=(r e (.inr (Qu _))).2.2.2.trans (E.2 e ‹(ak 113873628) d›);have gZ:∀m,i<m→∀o∈p,m=0∨o.1≠m:=λm V=>rb q (.inr V);have W:dH L e ⟨k,h,(i+1,g,dG h)::(i+1,f,dG h)::p⟩=J ⟨{k with NZ:=a5 (a5 k.NZ g (J e)) f (J e),NU:=a5 (a5 k.NU e (J [g])) e (J [g,f])},h,p⟩:=by
  refine Q (og z (vY y) ..) ?_;show(ez (i+1) e (dG h) _ k).map _=_;refine Q (EH ‹(ay 8184140664) j› T) (Q (q1 (gZ _ ‹(ay 964)›) ..) ?_);rfl
 have F:fk (λa=>a<f∨a=f∨a=g∨e≤a) t k:=e1 (dV D λa b=>by exact(aE 494396004526744461102720074945244) d b) (dV r λa b=>by exact(aE 555792306394131115786508450697948) c b);refine⟨_,ic (rd u) (ie O (ic (rd w) (ie R (ic W (mD (rc A rfl (gZ _ ‹(ay 100036)›))))))),e1 (dV F λa b=>by exact(bU 2055302762231447325932035075679490780) d b) λa b=>(gf rfl rfl ((cR _ _ ‹(bU 324134787926961393238766555868) d c b›).trans (cR _ _ ‹(bU 38591345037264440689866609372) d c b›)) ((cR _ _ ‹(bU 109977205759688678827091595996) d c b›).trans (cR _ _ ‹(bU 109977205759688678827091595996) d c b›))),λn l=>?_⟩;have X:=l f ⟨Qu _,by exact(aE 35384577369522868956) d c⟩;have Y:=l g ⟨by exact(ak 113873628) c,by exact(au 30304913560284) d⟩;have Z:=l e ⟨by exact(au 83847924191964) d c,by exact(ak 12844419)⟩;have G:fk (λa=>a≠f∧a≠g∧a≠e∧hj f (e+1+1) a) k n:=λa b=>have j:=l a b.2.2.2;(gf j.1 j.2.1 (j.2.2.1.trans ((cR _ _ b.1).trans (cR _ _ b.2.1))) (j.2.2.2.trans ((cR _ _ b.2.2.1).trans (cR _ _ b.2.2.1))));have s:∀a,a=f∨a=g∨a=e+1→n.NU a=U:=λa b=>(l a ⟨by exact(aE 442002323271417426357337756380) d c b,by exact(bU 42397339565320256674346866157851356) d c b⟩).2.2.2.trans ((cR _ _ ‹(aE 989665723501265878316360700636) d c b›).trans ((cR _ _ ‹(aE 989665723501265878316360700636) d c b›).trans ((F a ‹(aE 3905132123797968381536804466792) b›).2.2.2.trans (q.2 a ‹(aE 442002323271417426357337756380) d c b›))));exact⟨g,e,u,s f (.inl rfl),P n (e1 (dV r λa b=>by exact(aE 3709800143187010200) b) (dV G λa b=>by exact(aE 16761348763406595394225878295722249821020824) b d)),by exact(ak 115053276) c,w,s g (.inr (.inl rfl)),S n (dV G λa b=>by exact(aE 8714941290204367227144454747742938255254168) b c),z,X.2.2.1.trans (dn _ _ _),Y.2.2.1.trans ((cR _ _ ‹(ak 139825884) c›).trans (dn _ _ _)),Z.2.2.2.trans (dn _ _ _),A,s _ (.inr (.inr rfl)),rfl⟩
theorem E2:mF .nil:=λ{l m n b c d e f o p q} a N g h i=>by
 clear g h;obtain rfl:c=b:=N.1;exact(zB d e f q8 i (λj a=>a) (λj a=>.inl a) (.inl rfl) oi rfl (λr s t u v w k=>⟨k,rfl⟩))
theorem E3{a:cf}(b:z[c]? =J (0,.Ox a))(d:∃i y,z[last]? =J (i,y)∧el y=Qq):dH z c ⟨r,(last::fw)::cn,s⟩=J ⟨{r with N1:=a5 r.N1 last (J c)},(c::last::fw)::cn,s⟩:=dY d λi y e f=>by
 refine Q (kv b ..) ?_;show(eM z Qq c _).bind (d5 0 c)=_;exact Q (wd e f ..) (my λg g=>.inl rfl)
theorem E4(a:z[c]? =J (0,.Op))(b:∃i y,z[last]? =J (i,y)∧el y=Qq):dH z c ⟨r,(last::fw)::cn,s⟩=J ⟨{r with N1:=a5 r.N1 last (J c)},(c::last::fw)::cn,s⟩:=dY b λi y d e=>by
 refine Q (kv a ..) ?_;show(eM z Qq c _).bind (d5 0 c)=_;exact Q (wd d e ..) (my λf f=>.inl rfl)
theorem wi{a:b4}{b:Bool}(d:z[c]? =J (0,.Ot))(e:z[B]? =J (i,a))(f:el a=b):dH z c ⟨r,(B::fw)::cn,s⟩=J ⟨{(if b=Qp then r else {r with N1:=a5 r.N1 B (J c)})with N7:=λu=>if u∈B::fw then J c else r.N7 u},cn,s⟩:=by
 refine Q (kv d ..) ?_;show(eM z Qp c _).bind (d5 0 c)=_;exact Q (EI e f ..) (my λg g=>.inl rfl)
theorem E5{P:cf}{w:aP}(Q:hm w)(R:mF f):mF (.cons P w f):=λ{aj al S e c x g y z T am} l N A q V=>ar (dv N) λr N=>gv N λs B C=>by
 have d:=e0 B;have h:=e0 C;have k:g<e:=q g (.head _);have D:fm S (e+1) T {x with N1:=a5 x.N1 g (J e)}:=⟨A.1,λb a=>A.2 b ‹(ak 113873628) a›⟩;refine bk (Q (cn:=(e::g::y)::z) l B D) λan W m X=>?_;have Y:∀i∈e::g::y,i<s:=eo ‹(ak 115053276) d› λi j=>TH (q i j) ‹(ak 115053276) d›;refine sD (R (cn:=z) ‹(aC 12700459896) l› C (oj D m ‹(aC 344450)› d) Y (gg _ _ r rfl)) λZ t E aa ab F G H n ao ad=>?_;have I:e≤t:=H.elim (λu=>RT u.symm) λl=>by exact(aE 616801463290073820) d l
 have ae:∀b,hj (e+1) s b→¬b∈t::E:=λb a j=>(G b j).elim (λc=>(QX.mp c).elim (λc=>by exact(au 8821946751574680) a c) λc=>by have:=q b c;exact(au 8820903074521752) a this) λc=>by exact(aE 339948381349909029528) a c
 refine⟨Z,t,E,ic (E3 r V) (ie W aa),ab,λi j=>F i (.tail _ j),λi j=>(G i j).elim (λc=>(QX.mp c).elim (λc=>.inr ‹(aE 46900263786511909294812) d c h›) .inl) λc=>.inr ‹(aE 46900263796492828447452) d c›,.inr (by have:=H;exact(aE 2349538986137161869240675798851556060) d this h I),e1 (q9 λb a=>a.2) (e1 (dV m λb a=>by have:=a.1;exact(aE 2868593551582536871464) this h) (dV n λb a=>by have:=a.1;exact(aE 26874699288181540668439634940636) d this h)),(n g ‹(aE 19776011166872162833116) d k›).2.2.2.trans (m g ‹(au 1067205650724) k›).2.2.2,λK af v ag L M ah=>?_⟩;refine⟨s,?_,r,M e (F e (.head _)),by exact(aE 1233779969225429724) d L h,X K λb a=>?_,by exact(ak 113873628) d,ad K af (λb a=>v b ‹(aE 46900263796492828447452) d a›) (λai=>(v e ‹(au 617990802902913756) d h›).2.2.1 ai) L M ah⟩
 ·exact(ag ‹(au 12650852895012) k I›).trans ((n g ‹(aE 19776011166872162833116) d k›).1.trans ((m g ‹(au 1067205650724) k›).1.trans (dn _ _ _)))
 ·have o:=v b ‹(aE 45830991306357158371992) a h›;have p:=n b ‹(aE 7005685974630754083480) a›;have O:=ae b a;exact⟨(o.2.2.1 λu=>O (u▸.head _)).trans p.1,(o.2.2.2 O).trans p.2.1,o.2.1.trans p.2.2.1,o.1.trans p.2.2.2⟩
theorem E6{am:cf}{u:aP}(an:hm u)(ao:mF f)(ap:hm o):gY (.cond am u f as o):=λ{R S C g r T x V H} e N W=>ar (dv N) λD N=>gv N λs X N=>gv N λh I N=>gv N λi Y N=>ar (dv N) λE N=>by
 obtain rfl:=N.1;have c:=e0 X;have d:=e0 I;have Z:dH H g ⟨T,x,V⟩=J ⟨T,[g]::x,V⟩:=by
  exact Q (kv D ..) (my λaq aq=>.inl rfl)
 have aa:=mE (p:=g+1) W (QK _) (Q1 _);refine bk (an (cn:=[g]::x) e X aa) λaK ab F av=>?_;have K:=oj (cp:=C+aF u) aa F ‹(aC 344450)› c;refine sD (ao (cn:=x) (last:=g) (fw:=[]) ‹(aC 12700459896) e› I K (eo ‹(ak 115053276) c› nb) (gg _ _ D rfl)) λp l v ad ae aL t af G aw ag=>?_;have t:∀w∈l::v,w=g∨hj s h w:=λw k=>(t w k).imp_left Rk.mp;have ax:p.NU g=U:=aw.trans ((F g (.inl (S7 _))).2.2.2.trans (W.2 g (Qu _)));have L:∀a,h≤a→p.NU a=U:=λa b=>(G a ‹(aE 1356692968433940375075066588) c b d›).2.2.2.trans (K.2 a ‹(au 327529711884) b d›);have ay:∀a,hj (g+1) s a→¬a∈l::v:=λa b k=>(t a k).elim (λh=>by exact(au 8821946751574680) b h) λh=>by exact(aE 339948381349909029528) b h
 have ah:∀{j:cb}{i:Nat},h≤i→fk (λa=>hj g h a∧¬a∈l::v) p j→(∀a,hj g h a→j.NU a=p.NU a∧j.NZ a=p.NZ a∧(a≠l→j.N1 a=p.N1 a))→(∀a∈l::v,j.N7 a=J i)→j.N1 l=J h→
   j.NU g=U∧f3 H j u R S C (g+1) s∧kx H j f R S (C+aF u) g s h i:=λ{j i} az ai y aA aB=>
  (bw ((y g ‹(au 617990802902913756) c d›).1.trans ax) (av j (e1 (dV G λa b=>by exact(aE 7005685974630754083480) b) (dV ai λa b=>⟨by exact(aE 45830991306357158371992) b d,ay a b⟩))) (ag j i (λa b=>(gf ((y a ‹(aE 46900263796492828447452) c b›).1) ((y a ‹(aE 46900263796492828447452) c b›).2.1) ((y a ‹(aE 46900263796492828447452) c b›).2.2) (λaD=>(ai a ⟨by exact(aE 46900263796492828447452) c b,aD⟩).2.1))) (λz=>(y g ‹(au 617990802902913756) c d›).2.2 z) az aA aB))
 have A:l=g∨hj s h l:=af;induction as using Qz with
 |false=>
  clear I af ag N;obtain rfl:i=h:=Y.1;refine dY ae λaM aN aG aH=>⟨_,ic Z (ie ab (ie ad (mD (wi E aG aH)))),e1 (dV F λa b=>by exact(bU 17559155408133539520654888) b d) (e1 (dV G λa b=>by exact(bU 110078768284391590634810163035935452) c b d) (e1 (q9 λa b=>by exact(eH 5337985187975512024126098265795187250175709916) c b A d) (wa λa b k=>by have:=t a k;exact(bU 69751778295059840055229968785613558492) c b this d))),λj m=>?_⟩;have aj:=ah (j:=j) (i:=i) (Qu _) (λa b=>have e:=m a (by have M:=b.1.1;have O:=b.1.2;omega);(bw (e.1.trans (cR _ _ λr=>b.2 (r▸.head _))) (e.2.1.trans (Qs b.2)) e.2.2)) (λa b=>have e:=m a ‹(aE 325818762583295241432) b›;(bw e.2.2.2 e.2.2.1 (λz=>e.1.trans (cR _ _ z)))) (λa k=>(m a (by have:=t a k;exact(bU 395369506573946962796065998135399132) c this d)).2.1.trans (Qt k)) ((m l ‹(bU 395369506573946962796065998135399132) c A d›).1.trans (dn _ _ _));exact⟨s,i,i,D,aj.1,aj.2.1,by exact(ak 113873628) c,aj.2.2,d,rfl,E,(m i ‹(aE 5213129207205364273884) c d›).2.2.2.trans (L i (Qu _)),rfl⟩
 |true=>
  refine ar (dv Y) λP al=>?_;have n:=e0 al;refine bk (ap (r:={p with N1:=a5 p.N1 l (J h)}) (cn:=(h::l::v)::x) (a:=C+aF u+cP f) ‹(bx 170902360793976) e› al ⟨λw aI=>Tm (K.1 w aI) ‹(bx 18989150917658)›,λa b=>L a ‹(ak 113873628) b›⟩) λaO aJ B bq=>?_;have cI:∀a,a<g∨h<a→¬a∈h::l::v:=λa b k=>(QX.mp k).elim (λr=>by exact(aE 12531135403877497425138396) c b r d) λk=>by have:=t a k;exact(aE 17029242747817343763470513871557340) c b this d
  refine⟨_,ic Z (ie ab (ie ad (ic (E4 P ae) (ie aJ (mD (wi E P rfl)))))),e1 (dV F λa b=>by exact(eH 15311434007238296177142615425716956) n b d) (e1 (dV G λa b=>by exact(eH 17132378907390441907118679067129976763224796) n c b d) (e1 (q9 λa b=>by exact(lZ 59285195914430035950682206338406309482803312438579932) n c b A d) (e1 (dV B λa b=>by exact(eH 15814347396687761685208094715974364) c b d) (wa λa b=>cI a ‹(bU 93375984368803851570549468) n b›)))),λj m=>?_⟩;have aj:=ah (j:=j) (i:=i) ‹(ak 113873628) n› (λa b=>have e:=m a (by have M:=b.1.1;have O:=b.1.2;omega);have q:=B a (by have M:=b.1.1;have O:=b.1.2;omega);(gf (e.1.trans (q.1.trans (cR _ _ λr=>b.2 (r▸.head _)))) ((e.2.1.trans (Qs λk=>(QX.mp k).elim (λr=>by have M:=b.1.1;have O:=b.1.2;omega) b.2)).trans q.2.1) (e.2.2.1.trans q.2.2.1) (e.2.2.2.trans q.2.2.2))) (λa b=>have e:=m a ‹(bU 280771513571672128300290780) n b›;have q:=B a ‹(aE 231862508949187800) b›;(bw (e.2.2.2.trans q.2.2.2) (e.2.2.1.trans q.2.2.1) (λz=>e.1.trans (q.1.trans (cR _ _ z))))) (λa k=>(m a (by have:=t a k;exact(eH 1733753499251522704606908878101943053751004) n c this d)).2.1.trans (Qt (.tail _ k))) ((m l ‹(eH 1733753499251522704606908878101943053751004) n c A d›).1.trans ((B l ‹(bU 586912080295330539083292492731100) c A d›).1.trans (dn _ _ _)));exact⟨s,h,i,D,aj.1,aj.2.1,by exact(ak 113873628) c,aj.2.2,d,⟨P,(m h ‹(bU 4492298594853856134018405084) n c d›).2.1.trans (Qt (.head _)),by exact(ak 115053276) n,bq j λa b=>have e:=m a ‹(eH 1278367102841690040781226737590936) b c d›;(bw e.1 (e.2.1.trans (Qs (cI a ‹(aE 156705984198927000) b›))) e.2.2)⟩,E,(m i ‹(bU 4492304297640467083338486492) n c d›).2.2.2.trans ((B i ‹(ak 638254)›).2.2.2.trans (L i ‹(ak 113873628) n›)),rfl⟩
mutual
theorem E7:∀c:c7,gY c
 |.plain c=>ER c
 |.exit a=>ES a
 |.N0 a=>ET a
 |.fin a=>EU a
 |.cond a g h n d=>E6 (ii g) (wj h) (ii d)
 |.way o p b=>EV (oo b)
 |.sign e b d=>EW (oo b)
 |.sw e b d=>EX (oo b) (ii d)
 |.loop i e j k H f l=>E0 (ii f)
 |.pair i e j k H f q r s t m l=>E1 (ii f) (ii m)
theorem ii:∀c:aP,hm c
 |.nil=>λd N a=>by
  clear a;obtain rfl:=N.1;exact wc λe=>rfl
 |.cons c b=>EY (E7 c) (ii b)
theorem wj:∀f:cr,mF f
 |.nil=>E2
 |.cons b a f=>E5 (ii a) (wj f)
theorem oo:∀c:bu,lw c
 |.nil=>λe f g N a=>by
  clear a;obtain rfl:=N.1;exact wc λh=>rfl
 |.cons b d=>EZ (ii b) (oo d)
end
theorem kz{b a:Int}(f:gV C b n a):bD b n a≤6:=by
 refine fO f λc g h i j d e=>?_;have k:(RM (n-b+a) a).natAbs≤6:=by
  rw [Int.natAbs_tdiv];show(n-b+a).natAbs/a.natAbs≤6;by_cases c:a.natAbs=0
  ·rw [c,Nat.div_zero];exact(aH 25225)
  ·have:(n-b+a).natAbs≤5+a.natAbs:=by exact(nk 10987486644515432966915803869434284416755573940436193200828412789129758217388175115289304188871950095922157825059576) i d g h j e (cI _) (cI _)
   refine Qv (Nat.div_le_div_right this) ?_;rw [Nat.add_div_right _ ‹(aC 2969685169985009304312) d e c›];have:5/a.natAbs≤5:=Nat.div_le_self _ _;exact(aN 949600463628) this
 unfold bD;exact(bx 54355748994427642792076768729693004222533289175721220876) k (cI _) (cz _)
mutual
noncomputable def cS:c7→Nat
 |.plain _=>1|.exit _=>1|.N0 _=>1|.fin _=>1
 |.cond _ n c _ a=>ba n+en c+ba a+3
 |.way _ _ A=>c9 A+5
 |.sign _ A _=>c9 A+5
 |.sw _ A a=>c9 A+ba a+5
 |.loop _ _ _ _ _ b _=>6*(ba b+1)+5
 |.pair _ _ _ _ _ b _ _ _ _ d _=>6*(ba b+1+6*(ba d+1)+1)+6
noncomputable def ba:aP→Nat
 |.nil=>0
 |.cons c f=>cS c+ba f
noncomputable def en:cr→Nat
 |.nil=>0
 |.cons _ n f=>ba n+en f+1
noncomputable def c9:bu→Nat
 |.nil=>0
 |.cons n f=>ba n+c9 f+2
end
theorem rh{a:Nat}(c:T≤6)(d:b≤a):T*b≤6*a:=Nat.mul_le_mul c d
mutual
theorem wk:∀(c:c7) (g:Bool) (q:Int),fl g q c→d6 c≤cS c∧mv c≤cS c∧cs c≤mv c
 |.plain _=>λg q b=>(bw (Qu _) (Qu _) (RO _))
 |.exit _=>λg q b=>(bw (Qu _) (Qu _) (RO _))
 |.N0 _=>λg q b=>(bw (Qu _) (Qu _) (RO _))
 |.fin _=>λg q b=>(bw (Qu _) (Qu _) (RO _))
 |.cond B h j v e=>λg q b=>by
  have f:=d8 h g q b.2.1;have k:=ri j g q b.2.2.1;have l:=d8 e g q b.2.2.2.1;have s:∀m n,m≤1+br e→n≤m→bn h+gt j+bn e+3≤ba h+en j+ba e+3∧1+br h+fK j+m+1≤ba h+en j+ba e+3∧aF h+cP j+n≤1+br h+fK j+m+1:=λm n w x=>by exact(zQ 1087173133833639890743156338674161281059024808717472391093522498679814633057142159253614055632394185706518203977066865274171604820691873828564184) l f k w x
  clear b;induction v using Qz with
  |true=>exact s (1+br e) (aF e) (Qu _) (Qv l.2.2 (Nat.le_add_left _ _))
  |false=>exact s 0 0 (RO _) (Qu _)
 |.way C D a=>λg q b=>by
  have f:=jK a g q b.2;show dI a+5≤c9 a+5∧2+dT a+1≤c9 a+5∧aQ a+1+cQ a≤2+dT a+1;exact(bU 4177954993612860986950826683731832636483237317318405336) f
 |.sign o a e=>λg q b=>by
  have f:=jK a g q b.2.2.1;show dI a+5≤c9 a+5∧1+dT a+1≤c9 a+5∧aQ a+1+cQ a≤1+dT a+1;exact(bU 1187470755686044994258929659031867821036108054654168) f
 |.sw o a e=>λg q b=>by
  have f:=jK a g q b.2.1;have k:=d8 e g q b.2.2;show dI a+bn e+5≤c9 a+ba e+5∧1+br e+1+dT a+1≤c9 a+ba e+5∧aQ a+1+aF e+cQ a≤1+br e+1+dT a+1;exact(l3 1153727761102368213438983609265146535346119617369597549780311071049164611360983013042914866097368) f k
 |.loop p o r h H d y=>λg q b=>by
  have f:=d8 d true p b.2.2.1;have k:=rh (kz b.2.1) (show bn d+1≤ba d+1 by exact(aE 3234895307488226520) f);show bD r h H*(bn d+1)+5≤6*(ba d+1)+5∧1+br d+2≤6*(ba d+1)+5∧2+aF d≤1+br d+2;exact(bU 1469039643157618684804119678075815425837196819469595473437180685528) f k
 |.pair p o r h H d z E t u i y=>λg q b=>by
  have f:=d8 d false p b.2.2.1;have l:=d8 i true z b.2.2.2.2.2.1;have A:=rh (kz b.2.2.2.2.1) (show bn i+1≤ba i+1 by exact(aE 3234895307488226520) l);have k:=rh (kz b.2.1) (show bn d+1+bD t u 1*(bn i+1)+1≤ba d+1+6*(ba i+1)+1 by exact(eH 218846117839976570300889024323794330315992) f A);show bD r h H*(bn d+1+bD t u 1*(bn i+1)+1)+6≤6*(ba d+1+6*(ba i+1)+1)+6∧1+br d+1+br i+2≤6*(ba d+1+6*(ba i+1)+1)+6∧3+aF d+aF i≤1+br d+1+br i+2;exact(l3 427074317470367073869859413090333297660739542407485028004690465468266414614420254464694033588460667236193095201963797806110600408) l f k
theorem d8:∀(c:aP) (g:Bool) (q:Int),cD g q c→bn c≤ba c∧br c≤ba c∧aF c≤br c
 |.nil=>λg q a=>(bw (Qu _) (Qu _) (Qu _))
 |.cons c e=>λg q a=>
  have b:=wk c g q a.1;have d:=d8 e g q a.2
  (bw (UT b.1 d.1) (UT b.2.1 d.2.1) (UT b.2.2 d.2.2))
theorem ri:∀(c:cr) (g:Bool) (q:Int),ia g q c→gt c≤en c∧fK c≤en c∧cP c≤fK c
 |.nil=>λg q d=>(bw (Qu _) (Qu _) (Qu _))
 |.cons h a b=>λg q d=>by
  have e:=d8 a g q d.2.1;have f:=ri b g q d.2.2;show bn a+gt b+1≤ba a+en b+1∧1+br a+fK b≤ba a+en b+1∧aF a+cP b≤1+br a+fK b;exact(pE 240911209104041337419407007704037048621104162278962905182674047787132906712) f e
theorem jK:∀(c:bu) (g:Bool) (q:Int),gW g q c→dI c≤c9 c∧dT c≤c9 c∧cQ c+2*aQ c≤dT c
 |.nil=>λg q d=>(bw (Qu _) (Qu _) (Qu _))
 |.cons b a=>λg q d=>by
  have e:=d8 b g q d.1;have f:=jK a g q d.2;show bn b+dI a+2≤ba b+c9 a+2∧1+br b+1+dT a≤ba b+c9 a+2∧aF b+cQ a+2*(aQ a+1)≤1+br b+1+dT a;exact(l3 4614911025875529128695137118379188211309029612134554828457959901988000147070405512102282623839448) f e
end
def op(a:aW):Prop:=match a.2 with
 |.asg p=>iZ p
 |.O8 l p=>eQ l∧iZ p
 |.OL l _=>eQ l
 |.OY l=>eQ l
 |.ifs l=>eQ l
 |.Ox l=>eQ l
 |.Od _ C b n H=>gV C b n H
 |.OT C _ _ _=>C<6
 |.OU cl C=>C<6
 |_=>True
theorem wl(a:jH y):op (i,fJ y):=by
 induction y using Qm with
 |none=>trivial
 |some b=>induction b using a3.casesOn<;>exact a
def e2(a:List aW):Prop:=∀f∈a,op f
theorem f5:e2 []:=nb
theorem dw(a:op f)(b:e2 u2):e2 (f::u2):=eo a b
theorem gw{a b:List aW}(d:e2 a)(e:e2 b):e2 (a++b):=λc f=>(Ro.mp f).elim (d c) (e c)
mutual
theorem E8:∀(c:c7) (g:Bool) (q d e a:Int),fl g q c→e2 (dy c d e a)
 |.plain c=>λg q d e a b=>by
  induction c using a3.casesOn<;>exact dw b f5
 |.exit _=>λg q d e a b=>dw b.2 f5
 |.N0 _=>λg q d e a b=>dw b.2 f5
 |.fin _=>λg q d e a b=>dw b f5
 |.cond u h m n i=>λg q d e a b=>by
  have o:=ij i g q d e (a+aF h+cP m) b.2.2.2.1;refine dw b.1 (gw (ij h g q d e a b.2.1) (gw (wm m g q d e _ b.2.2.1) (gw ?_ (dw trivial f5))));clear b;induction n using Qz with
  |true=>exact dw trivial o
  |false=>exact f5
 |.way v w f=>λg q d e a b=>dw trivial (dw trivial (gw (oq f g q d e _ _ _ b.2) (dw trivial f5)))
 |.sign j f i=>λg q d e a b=>dw b.1 (gw (oq f g q d e _ _ _ b.2.2.1) (dw trivial f5))
 |.sw j f i=>λg q d e a b=>dw b.1 (gw (ij i g q d e _ b.2.2) (dw trivial (gw (oq f g q d e _ _ _ b.2.1) (dw trivial f5))))
 |.loop k j p h H l r=>λg q d e a b=>dw b.2.1 (gw (ij l true k _ _ _ b.2.2.1) (dw (wl b.2.2.2) (dw trivial f5)))
 |.pair k j p h H l s x y z t r=>λg q d e a b=>dw b.2.1 (gw (ij l false k _ _ _ b.2.2.1) (dw b.2.2.2.2.1 (gw (ij t true s _ _ _ b.2.2.2.2.2.1) (dw (wl b.2.2.2.2.2.2) (dw trivial f5)))))
theorem ij:∀(c:aP) (g:Bool) (q d e a:Int),cD g q c→e2 (b0 c d e a)
 |.nil=>λg q d e a b=>f5
 |.cons c f=>λg q d e a b=>gw (E8 c g q d e a b.1) (ij f g q d e _ b.2)
theorem wm:∀(c:cr) (g:Bool) (q d e a:Int),ia g q c→e2 (f2 c d e a)
 |.nil=>λg q d e a b=>f5
 |.cons i f h=>λg q d e a b=>dw b.1 (gw (ij f g q d e a b.2.1) (wm h g q d e _ b.2.2))
theorem oq:∀(c:bu) (g:Bool) (q d e i t a:Int),gW g q c→e2 (ey c d e i t a)
 |.nil=>λg q d e i t a b=>f5
 |.cons f h=>λg q d e i t a b=>dw trivial (gw (ij f g q d e a b.1) (dw trivial (oq h g q d e _ _ _ b.2)))
end
def f6(b:List aW)(a:Int):Option Nat:=if a=0 then U else b.findIdx? (λf=>decide (f.1=a))
theorem ot:∀(z:List aW),(de z).Nodup→∀(c v:Nat) (i:Int) (x bl:b4),z[c]? =J (i,x)→z[v]? =J (i,bl)→i≠0→c=v
 |[],d,c,v,i,x,bl,a,b,e=>by simp at a
 |g::z,d,c,v,i,x,bl,a,b,e=>by
  have k:(de z).Nodup:=by
   obtain⟨f,l⟩:=g;by_cases h:f=0
   ·clear a b;subst h;rwa [od]at d
   ·rw [jD f h]at d;exact(QZ.mp d).2
  have j:∀v bl,z[v]? =J (i,bl)→g.1=i→False:=λv bl m n=>by
   obtain⟨f,l⟩:=g;cases n;rw [jD f e]at d;refine(QZ.mp d).1 ?_;unfold de;refine UA.mpr ⟨RH.mpr (aU _ (QB m) rfl),by simp [e]⟩
  induction c using Rn with
  |zero=>induction v using Rn with
   |zero=>rfl
   |succ v=>
    simp at a b;exact(j v bl b (by rw [a])).elim
  |succ c=>induction v using Rn with
   |zero=>
    simp at a b;exact(j c x a (by rw [b])).elim
   |succ v=>
    simp at a b;rw [ot z k c v i x bl a b e]
theorem E9(g:(de z).Nodup){d:b4}(e:z[c]? =some (i,d))(f:i≠0):f6 z i=some c:=by
 unfold f6;rw [Qs f];generalize a:z.findIdx? (λh=>decide (h.1=i))=j;induction j using Qm with
 |none=>
  rw [List.findIdx?_eq_none_iff]at a;have:=a _ (QB e);simp at this
 |some b=>
  obtain⟨k,l,n⟩:=Sc.mp a;have m:z[b].1=i:=by simpa using l
  rw [ot z g b c i z[b].2 d (by rw [Rh k,←m]) e f]
set_option tactic.hygienic true in
theorem Fa(a:f6 z i=J c):i≠0∧∃x,z[c]? =J (i,x):=by
 unfold f6 at a;split at a
 ·exact ag a
 ·rename_i b;obtain⟨d,e,g⟩:=Sc.mp a;have f:z[c].1=i:=by simpa using e
  exact⟨b,z[c].2,by rw [Rh d,←f]⟩
def cw(bi:aP)(a:Int):List aW:=b0 bi 0 0 a++[(0,.fin)]
theorem wn(b:aP)(c:0≤a):(de (cw b a)).Nodup:=by
 unfold cw;rw [ku,od,mx,RI];exact(h9 b 0 0 a c).1
def gx:a6:=⟨⟨λa=>U,λa=>U,λa=>U,λa=>U⟩,[],[]⟩
theorem Fc(b:aP)(e:0≤a):∃r,eN (cw b a) (br b+1) 0 gx=J ⟨r,[],[]⟩∧f3 (cw b a) r b 0 0 a 0 (br b):=by
 have N:hl (cw b a) 0 (b0 b 0 0 a) (br b):=⟨by rw [dd,RJ],λk f=>by rw [RJ];exact SD f⟩;have c:fm a 0 [] gx.fd:=⟨nb,λg g=>rfl⟩;have h:(cw b a)[br b]? =J (0,.fin):=by
  unfold cw;rw [←dd b 0 0 a,R5 (Qu _),Nat.sub_self];rfl
 refine bk (f4 (cp:=a) (ii b (cn:=[]) e N c) c (QK _) (RO _) (Q1 _) λr c=>fM h rfl c (.inl rfl)) λr d l i=>ae d λT j d=>?_;obtain rfl:T=br b+1:=by exact(ak 147837100836) j
 exact⟨r,d,(i r oi).1⟩
def ou(bi:aP)(a:Int)(b:cb):c8:=⟨cw bi a,b,f6 (cw bi a)⟩
def ov(a:aJ):dU:=match a with
 |.fault=>.fault
 |_=>.ret
theorem pS(b:aP)(e:0≤a)(f:cD Qq q b)(i:f3 (cw b a) r b 0 0 a 0 (br b))(c:an):∃u g,u≤bn b∧gU (ou b a r) u ⟨0,c,U,λZ=>U⟩ g∧g.xs=(bv b c).2∧eZ (ou b a r) g (ov (bv b c).1):=by
 have j:(cw b a)[br b]? =J (0,.fin):=by
  unfold cw;rw [←dd b 0 0 a,R5 (Qu _),Nat.sub_self];rfl
 have d:=i4 b q c f;have k:du (ou b a r) (bv b c).2 (ov (bv b c).1) 0 0 (λZ=>True) 0 (br b) (bv b c):=by
  generalize bv b c=aj at d;induction aj using RG with
  |mk h p=>induction h using aJ.casesOn with
   |on=>exact λl s t m Z=>Qj m▸q4 ⟨_,_,j,rfl⟩ rfl
   |exit=>exact(d.1 rfl).elim
   |N0=>exact(d.2 rfl).elim
   |fin=>exact⟨rfl,rfl⟩
   |fault=>exact⟨rfl,rfl⟩
 have:=ih (w:=ou b a r) (λl v h n o=>E9 (wn b e) n o) b Qq q 0 0 a 0 (br b) e i f nofun (G:=U) (s:=λZ=>U) (λZ Z Z Z Z=>trivial) trivial k;rwa [RJ]at this
def bs(bi:Nat)(a:an):Prop:=a.length=6∧∀B∈a,B.natAbs≤bi
theorem jL(b:bs bi j)(a:Nat):(j.getD a 0).natAbs≤bi:=by
 refine Q (RN ..) ?_;generalize c:j[a]? =d;induction d using Qm with
 |none=>simp
 |some e=>exact b.2 e (QB c)
theorem cj(a:bs bi j)(b:bi≤g):bs g j:=⟨a.1,λc d=>Qv (a.2 c d) b⟩
theorem mG(a:bs bi j)(c:bi≤g){b:Int}(d:b.natAbs≤g):bs g (j.set ap b):=by
 refine⟨by refine Q (TK ..) ?_;exact a.1,λe p=>?_⟩;rcases List.mem_or_eq_of_mem_set p with p|p
 ·exact Qv (a.2 e p) c
 ·refine Q (p ..) ?_;exact d
theorem Fd{b a:Int}(c:b.natAbs≤bi)(d: -4≤a)(e:a≤4):(a-b).natAbs≤bi+4:=by exact(dk 3392371405042916073514237812973266885120283967205244855397806944456901482972935549688) d c e (cI _) (cI _)
theorem Fe{b a:Int}(c:b.natAbs≤bi)(d: -4≤a)(e:a≤4):(b+a).natAbs≤bi+4:=by exact(dk 3392370568925652410393935927689363867285500638478668331288471266419277664340412658424) d c e (cI _) (cI _)
theorem lx{a:bX}(b:bs bi j)(f:iZ a):bs (bi+4) (a.run j):=by
 refine cY f λg h c d=>mG b (QU _ _) ?_;by_cases e:a.OO=Qp
 ·refine Q (Qt e ..) ?_;exact Fd (jL b a.s) c d
 ·refine Q (Qs e ..) ?_;exact Fe (jL b a.s) c d
def dW(s:Nat→Option (Nat×Int)):Prop:=∀x T H,s x=J (T,H)→1≤T∧T≤6∧-2≤H∧H≤3
theorem ow{b:Nat→Option (Nat×Int)}(c:dW b)(d:Nat):dW (a5 b d U):=λe T H a=>by
 unfold a5 at a;split at a
 ·exact ag a
 ·exact c e T H a
theorem wo{c:Nat→Option (Nat×Int)}(d:dW c)(e:Nat){b:Int}(f:1≤T∧T≤6∧-2≤b∧b≤3):dW (a5 c e (J (T,b))):=λg h i a=>by
 unfold a5 at a;split at a
 ·cases a;exact f
 ·exact d g h i a
theorem rj{a:Int}(b:bs bi j)(c: -2≤a∧a≤3):bs (bi+4) (d4 C a j):=by
 have:=jL b C;exact mG b ‹(aN 247489)› ‹(dk 3392370568925652410393935927689363867285500638478668331288471266419217786674932032488) c this (cI _) (cI _)›
set_option tactic.hygienic true in
theorem rk:∀(hh:List Nat) (bi:Nat) (l g:cG),bs bi l.xs→dW l.N2→fL w t hh l=J g→bs (bi+4*hh.length) g.xs∧dW g.N2
 |[],bi,l,g,c,b,a=>by cases a;exact⟨c,b⟩
 |x::hh,bi,l,g,c,b,a=>by
  refine bE λk e=>sJ (vZ a) λT H h m n o p q i r a=>e ?_;clear e;have d:=b _ _ _ i;have f:=rj (C:=h) c d.2.2;rcases a with⟨j,a⟩|⟨s,a⟩
  ·exact Q (a ..) ⟨cj f ‹(ak 1048207309933)›,wo b x (bw (Nat.le_sub_of_add_le j) (Qv (Wi _ _) d.2.1) d.2.2)⟩
  ·have:=rk hh (bi+4) _ g f (ow b x) a;exact⟨cj this.1 ‹(ak 274781257108539097)›,this.2⟩
def i5(a:Nat)(b:cb):Prop:=∀y hh,b.NU y=J hh→hh.length≤a
set_option tactic.hygienic true in
theorem Ff{b:c8}(f:i5 ca b.d)(d:bs bi l.xs)(e:dW l.N2)(a:eO b l=some o):bs (bi+4*ca) o.xs∧dW o.N2:=by
 unfold eO at a;generalize c:b.d.NU l.pos=g;induction g using Qm with
 |none=>rw [c]at a;refine Q (Rj (Qj a ..)) ?_;exact⟨cj d ‹(ak 64192897)›,e⟩
 |some h=>
  rw [c]at a;have:=rk h bi l o d e a;have i:=f _ _ c;exact⟨cj this.1 ‹(au 620458268522584332) i›,this.2⟩
theorem Fg(c:bs bi l.xs)(d:dW l.N2)(a:gs w l i=some o):bs bi o.xs∧dW o.N2:=by
 unfold gs at a;generalize b:w.Og i=e;induction e using Qm with
 |none=>rw [b]at a;cases a
 |some f=>rw [b]at a;cases a;exact⟨c,d⟩
theorem Fh{a:Bool}(b:bs bi j)(c:bs bi D):bs bi (if a=Qp then j else D):=by
 split<;>assumption
theorem Fi{o:c8}(B:e2 o.rows)(r:i5 ca o.d)(b:bs bi l.xs)(C:4≤bi)(c:dW l.N2)(v:eZ o l (.to g)):bs (bi+4*(ca+1)) g.xs∧dW g.N2:=by
 refine dY v λn D s v=>?_;have bm:=B _ (QB s);have i:∀{t:Option cG},eP t (.to g)→t=J g:=λ⟨j,e,d⟩=>by cases d;exact e
 have f:∀{u:Nat}{j:cG},bs u j.xs→dW j.N2→u≤bi+4→eP (eO o j) (.to g)→bs (bi+4*(ca+1)) g.xs∧dW g.N2:=λe d a k=>by
  have:=Ff r e d (i k);exact⟨cj this.1 ‹(au 10503113234397388464396) a›,this.2⟩
 have h:∀{m:Int},eP (gs o l m) (.to g)→bs (bi+4*(ca+1)) g.xs∧dW g.N2:=λk=>by
  have:=Fg b c (i k);exact⟨cj this.1 ‹(ak 1023639937)›,this.2⟩
 clear s;induction D using b4.casesOn with
 |asg q=>exact f (j:=⟨l.pos,q.run l.xs,l.lc,l.N2⟩) (lx b bm) c (Qu _) v
 |O8 m q=>exact f (j:=⟨l.pos,if m.ev l.xs then q.run l.xs else l.xs,l.lc,l.N2⟩) (Fh (lx b bm.2) (cj b ‹(aN 247489)›)) c (Qu _) v
 |OL m n=>
  rcases v with v|v
  ·exact h v.2
  ·exact f b c ‹(aN 247489)› v.2
 |OY m=>
  rcases v with v|v
  ·cases v.2
  ·exact f b c ‹(aN 247489)› v.2
 |cont=>exact f b c ‹(aN 247489)› v
 |Ot=>exact f b c ‹(aN 247489)› v
 |goto n=>exact h v
 |ifs m=>refine bk v λw e d a=>?_;clear i f h v;clear v;cases a;exact⟨cj b ‹(ak 1023639937)›,c⟩
 |Ox m=>refine bk v λw e d a=>?_;clear i f h v;clear v;cases a;exact⟨cj b ‹(ak 1023639937)›,c⟩
 |Op=>refine bk v λw e d a=>?_;clear i f h v;clear v;cases a;exact⟨cj b ‹(ak 1023639937)›,c⟩
 |Od n p x N H=>
  have y:=kz bm;refine fO bm λO E F P Q G I=>?_;have z:bs bi (l.xs.set p x):=mG b (Qu _) ‹(bx 1327991418354671107846388847533378470621768440) E C F (cI _)›;rcases v with⟨e,d⟩|⟨e,d,R,S,K,a,k,T,L⟩|⟨e,d,a,k⟩
  ·cases d
  ·have:=rk K bi ⟨l.pos,l.xs.set p x,l.lc,a5 l.N2 l.pos U⟩ g z (ow c _) (i L);have A:=r _ _ k;rw [Qr,Qw]at A;exact⟨cj this.1 ‹(aE 42013304095885971149100) A›,this.2⟩
  ·clear v i f h;cases k;exact⟨cj z ‹(ak 1023639937)›,wo c _ (bw ‹(aN 11578547553156) d y› y ‹(ay 32926643102260474599785208) G I›)⟩
 |OS n=>exact f (j:=⟨l.pos,l.xs,J n,l.N2⟩) b c ‹(aN 247489)› v
 |OP M=>refine bk v λn e d a=>?_;exact h a
 |OT p V W X=>exact h v
 |OU M p=>
  rcases v with⟨e,d,a⟩|⟨e,a⟩
  ·exact h a
  ·exact f b c ‹(aN 247489)› a
 |fin=>cases v
structure ik(ca b:Nat)(x:a6):Prop where
 fr:∀u,b≤u→x.fd.NU u=none
 le:i5 ca x.fd
 ls:x.loops.length≤b
theorem wp{b a:Nat}{m n:Int}:∀(cl:List (Int×Nat×Int)) (r:cb) {g:List (Int×Nat×Int)}{ep:cb},ez m a n cl r=J (g,ep)→i5 b r→((r.NU a).getD []).length+cl.length≤b→i5 b ep∧g.length≤cl.length∧∀u,u≠a→ep.NU u=r.NU u
 |[],r,g,ep,c,d,e=>by
  have i:=Qj c;refine Q (Rj (show([]:List (Int×Nat×Int))=g from QP Ug i)) (Q (Rj (show r=ep from QP Uf i)) ?_);exact bw d (Qu _) (λf f=>rfl)
 |B::cl,r,g,ep,c,d,e=>by
  rw [Qw]at e⊢;rcases vS c with c|⟨o,p⟩
  ·have:=wp (b:=b) cl _ c (λj q h=>by
     by_cases k:j=a
     ·rw [k]at h;refine Q (Rj (Qj ((dn _ _ _).symm.trans h) ..)) (Q (Qr ..) ?_);show _+1≤_;exact(au 1864675086636) e
     ·exact d j q ((cR _ _ k).symm.trans h)) (by
     show(((a5 r.NU a (J ((r.NU a).getD []++[B.2.1]))) a).getD []).length+_≤b;refine Q (dn ..) ?_;show((r.NU a).getD []++[B.2.1]).length+_≤b;refine Q (Qr ..) ?_;show _+1+_≤b;exact(au 482559495229740) e)
   exact⟨this.1,RW this.2.1,λu l=>(this.2.2 u l).trans (cR _ _ l)⟩
  ·refine Q (o ..) (Q (p ..) ?_);exact bw d (Qu _) (λf f=>rfl)
theorem rl(e:d5 i b x=J bl)(a:ik ca b x)(f:b≤ca):ik ca (b+1) bl:=by
 refine dY (qZ e) λj k g h=>Q (h ..) ?_;have:=wp x.loops x.fd g a.le (by refine Q (a.fr b (Qu _) ..) ?_;have:=a.ls;simp;exact(au 1045381499148) this f);exact⟨λc d=>(this.2.2 c ‹(ak 139825884) d›).trans (a.fr c ‹(ak 113873628) d›),this.1,RW (Qv this.2.1 a.ls)⟩
theorem ox{a:Bool}(h:eM z a b x=J bl):bl.fd.NU=x.fd.NU∧bl.loops=x.loops:=by
 refine kV (vT h) λd e f c g t h=>?_;have t:c.NU=x.fd.NU:=by rcases t with t|t<;>exact Q (t ..) rfl
 rcases h with h|h<;>(refine Q (h ..) ?_;exact⟨t,rfl⟩)
theorem Fj{d:Bool}(e:eM z d b x=J bl)(a:ik ca b x):ik ca b bl:=
 ar (ox e) λc f=>⟨λg h=>by refine Q (c ..) ?_;exact a.fr g h,λi j=>by refine Q (c ..) ?_;exact a.le i j,by refine Q (f ..) ?_;exact a.ls⟩
theorem wq(a:dH z b x=J bl)(c:ik ca b x)(e:b+1≤ca):ik ca (b+1) bl:=by
 have g:∀{f:Bool}{d:Int},(eM z f b x).bind (d5 d b)=J bl→ik ca (b+1) bl:=λa=>by
  exact ae (Q7.mp a) λl h i=>rl i (Fj h c) ‹(ak 113873628) e›
 refine vV a (λd a=>?_) (λf d a=>g a) (λm a=>?_) λd a=>?_
 ·exact rl (x:=⟨x.fd,[b]::x.blocks,x.loops⟩) a ⟨c.fr,c.le,c.ls⟩ (S3 e)
 ·exact Q (Rj (Qj a ..)) ⟨λj k=>c.fr j (S3 k),c.le,R3 c.ls⟩
 ·exact rl a c (S3 e)
theorem wr:∀(T b:Nat) (x bl:a6),eN z T b x=J bl→ik ca b x→b+T≤ca→ik ca (b+T) bl
 |0,b,x,bl,a,c,d=>by cases a;exact c
 |T+1,b,x,bl,a,c,d=>by
  refine ae (Q7.mp a) λe f g=>?_;have:=wr T (b+1) e bl g (wq f c ‹(au 1864675086636) d›) ‹(au 482559495229740) d›;rwa [show b+(T+1)=b+1+T by exact(ak 3285777439)]
theorem Fk(a:Nat):ik a 0 gx:=⟨λb b=>rfl,(λd e c=>by cases c),RO _⟩
structure gy(ca:Nat)(r:cb):Prop where
 Pq:∀b t,r.NZ b=some t→t<ca
 bn:∀b t,r.N7 b=some t→t<ca
theorem ws(d:b<ca):∀(cl:List (Int×Nat×Int)) (r:cb) {g:List (Int×Nat×Int)}{ep:cb},ez i b it cl r=J (g,ep)→gy ca r→gy ca ep
 |[],r,g,ep,a,V=>by refine Q (Rj (show r=ep from QP Uf (Qj a))) ?_;exact V
 |B::cl,r,g,ep,a,V=>by
  rcases vS a with a|⟨k,h⟩
  ·refine ws d cl _ a ⟨λe j c=>?_,V.bn⟩;by_cases f:e=B.2.1
   ·rw [f]at c;refine Q (Rj (Qj ((dn _ _ _).symm.trans c) ..)) ?_;exact d
   ·exact V.Pq e j ((cR _ _ f).symm.trans c)
  ·refine Q (h ..) ?_;exact V
theorem rm(a:b<ca)(c:d5 i b x=J bl)(d:gy ca x.fd):gy ca bl.fd:=by
 refine dY (qZ c) λg h e f=>Q (f ..) ?_;exact ws a _ _ e d
theorem Fl{g:Bool}(i:b<ca)(h:eM z g b x=J bl)(c:gy ca x.fd):gy ca bl.fd:=by
 refine kV (vT h) λj k m l n t h=>?_;have a:gy ca l:=by rcases t with t|t<;>rw [t]<;>exact⟨c.Pq,c.bn⟩
 rcases h with h|h<;>refine Q (h ..) ?_
 ·refine⟨a.Pq,λd t e=>?_⟩;by_cases f:d∈j::k
  ·refine Q (Rj (Qj ((Qt f).symm.trans e) ..)) ?_;exact i
  ·exact a.bn d t ((Qs f).symm.trans e)
 ·exact a
theorem Fm(c:b<ca)(a:dH z b x=J bl)(d:gy ca x.fd):gy ca bl.fd:=by
 have g:∀{f:Bool}{e:Int},(eM z f b x).bind (d5 e b)=J bl→gy ca bl.fd:=λa=>by
  exact ae (Q7.mp a) λj h i=>rm c i (Fl c h d)
 exact vV a (λe a=>rm (x:=⟨x.fd,[b]::x.blocks,x.loops⟩) c a d) (λf e a=>g a) (λk a=>by refine Q (Rj (Qj a ..)) ?_;exact d) λe a=>rm c a d
theorem wt:∀(T b:Nat) (x bl:a6),eN z T b x=J bl→gy ca x.fd→b+T≤ca→gy ca bl.fd
 |0,b,x,bl,a,V,c=>by cases a;exact V
 |T+1,b,x,bl,a,V,c=>by
  exact ae (Q7.mp a) λd e f=>wt T (b+1) d bl f (Fm ‹(au 116455625004) c› e V) ‹(au 482559495229740) c›
theorem Fn(b:Nat):gy b gx.fd:=⟨(λc d a=>by cases a),(λc d a=>by cases a)⟩
theorem rn{a b:Int}:bD a n b=bD (-a) (-n) (-b):=by
 unfold bD;rw [←WN,show-(n-a+b)= -n- -a+ -b by exact(b6 263857172713879088)]
theorem oy{b a:Int}(d:0<a):(n<b→bD b n a=0)∧(b≤n→∃p,bD b n a=p+1∧bD (b+a) n a=p):=by
 refine⟨λc=>?_,λc=>?_⟩
 ·unfold bD;by_cases e:0≤n-b+a
  ·rw [Rr e,Int.ediv_eq_zero_of_lt e ‹(b6 1973309131056) c›];rfl
  ·have g:RM (n-b+a) a= -RM (-(n-b+a)) a:=by rw [Int.neg_tdiv,VW]
   rw [g,Rr ‹(b6 23733084745623814668) e›];have:=UI (show 0≤-(n-b+a) by exact(b6 23733084745623814668) e) (show 0≤a by exact(ay 2728848) d);exact(aC 5172697108303652774063898723192) this (cz _)
 ·unfold bD;have h:RM (n-b+a) a=(n-b)/a+1:=by
   rw [Rr ‹(b6 1399149998015376) d c›,Int.add_ediv_of_dvd_right (Int.dvd_refl a),Int.ediv_self ‹(ay 513479568) d›]
  have f:RM (n-(b+a)+a) a=(n-b)/a:=by
   rw [show n-(b+a)+a=n-b by exact(b6 873808628576),Rr ‹(ck 222144792) c›]
  have:=UI (show 0≤n-b by exact(ck 222144792) c) (show 0≤a by exact(ay 2728848) d);rw [h,f];exact⟨_,by exact(ff 19630860583164717342093171959618527030840469322922918776) this f (cz _) (cz _),rfl⟩
theorem wu{a b:Int}(f:b≠0):(¬(if b>0 then a≤n else a≥n)∧bD a n b=0)∨((if b>0 then a≤n else a≥n)∧∃p,bD a n b=p+1∧bD (a+b) n b=p):=by
 by_cases d:b>0
 ·rw [Qt d];by_cases c:a≤n
  ·exact .inr ⟨c,(oy d).2 c⟩
  ·exact .inl ⟨c,(oy d).1 ‹(ck 7105932) c›⟩
 ·rw [Qs d];have e:0< -b:=by exact(ay 540959573617452) d f
  by_cases c:a≥n
  ·refine ae ((oy (b:= -a) (n:= -n) e).2 ‹(ck 1598794008) c›) λp g h=>?_;refine .inr ⟨c,p,by rw [rn];exact g,?_⟩;rw [rn,show-(a+b)= -a+ -b by exact(ck 96814547504)];exact h
  ·exact .inl ⟨c,by rw [rn];exact(oy (b:= -a) (n:= -n) e).1 ‹(ck 40844750220) c›⟩
mutual
noncomputable def f7(a:Nat):c7→Prop
 |.cond _ n d _ b=>2≤a∧cT (a-2) n∧kA (a-2) d∧cT (a-2) b
 |.way _ _ A=>2≤a∧il (a-2) A
 |.sign _ A b=>2≤a∧il (a-2) A∧cT (a-2) b
 |.sw _ A b=>2≤a∧il (a-2) A∧cT (a-2) b
 |.loop _ _ _ _ _ c _=>2≤a∧cT (a-2) c
 |.pair _ _ _ _ _ c _ _ _ _ e _=>3≤a∧cT (a-3) c∧cT (a-3) e
 |_=>True
noncomputable def cT(a:Nat):aP→Prop
 |.nil=>True
 |.cons c f=>f7 a c∧cT a f
noncomputable def kA(a:Nat):cr→Prop
 |.nil=>True
 |.cons _ n f=>cT a n∧kA a f
noncomputable def il(a:Nat):bu→Prop
 |.nil=>True
 |.cons n f=>cT a n∧il a f
end
noncomputable def g0:cr→an→Option aP
 |.nil,_=>U
 |.cons l n f,j=>if l.ev j then J n else g0 f j
theorem ww{a:cf}{b:aP}:g0 (.cons a b f) j=if a.ev j=Qp then J b else g0 f j:=rfl
theorem wx{c:cf}{b:aP}(a:g0 (.cons c g f) j=J b):g=b∨g0 f j=J b:=by
 rw [ww]at a;by_cases d:c.ev j=Qp
 ·rw [Qt d]at a;exact .inl (Qj a)
 ·rw [Qs d]at a;exact .inr a
theorem wy:∀(f:cr) (j:an),gS f j=(g0 f j).map λn=>bv n j
 |.nil=>λj=>rfl
 |.cons b n f=>λj=>by
  show(if b.ev j=Qp then J (bv n j)else gS f j)=Option.map _ (if b.ev j=Qp then J n else g0 f j);by_cases a:b.ev j=Qp
  ·rw [Qt a,Qt a];rfl
  ·rw [Qs a,Qs a];exact wy f j
noncomputable def e3:bu→Nat→aP
 |.nil,_=>.nil
 |.cons n _,0=>n
 |.cons _ f,ap+1=>e3 f ap
theorem oz:∀(A:bu) (ap:Nat) (j:an),iY A ap j=bv (e3 A ap) j
 |.nil=>λap j=>rfl
 |.cons b a=>λap j=>match ap with
  |0=>rfl
  |ap+1=>oz a ap j
end
noncomputable def wz:List N:=[.iff (.cmp (.v 0) [.Eq] [.k (.int 5)]) [.ret (J (.k (.int 0)))] [],.iff (.or [.cmp (.v 0) [.Eq] [.k (.int 2)],.cmp (.v 0) [.Eq] [.k (.int 3)]]) [.ret (J (.k (.int 2)))] [],.ret (J (.k (.int 1)))]
theorem Fo:ab.fn 103=J ⟨[0],[],4,wz⟩:=by kernel_rfl
noncomputable def wA:List N:=[.asg (.attr (.v 0) (Y "numeric")) (.bin .mul (.lst [.k .none]) (.v 1)),.asg (.attr (.v 0) (Y "characters")) (.bin .mul (.lst [.k .none]) (.v 2))]
theorem Fp:ab.fn 117=J ⟨[0,1,2],[],3,wA⟩:=by kernel_rfl
noncomputable def wB:List N:=[.iff (.cmp (.sub (.v 1) (.k (.int 0))) [.Eq] [.k (.int 5)]) [.ret (J (.call (.k (.NS (.ref 180))) [.attr (.v 0) (Y "characters"),.sub (.v 1) (.k (.int 1)),.sub (.v 1) (.k (.int 2))]))] [],.ret (J (.call (.k (.NS (.ref 166))) [.attr (.v 0) (Y "numeric"),.sub (.v 1) (.k (.int 0)),.sub (.v 1) (.k (.int 1))]))]
theorem Fq:ab.fn 124=J ⟨[0,1],[],5,wB⟩:=by kernel_rfl
noncomputable def wC:List N:=[.iff (.cmp (.sub (.v 1) (.k (.int 0))) [.Eq] [.k (.int 5)]) [.expr (.call (.k (.NS (.ref 187))) [.attr (.v 0) (Y "characters"),.sub (.v 1) (.k (.int 1)),.call (.k (.NS (.ref 194))) [.v 2,.sub (.v 1) (.k (.int 2))]])] [.expr (.call (.k (.NS (.ref 173))) [.attr (.v 0) (Y "numeric"),.sub (.v 1) (.k (.int 0)),.sub (.v 1) (.k (.int 1)),.v 2])]]
theorem Fs:ab.fn 131=J ⟨[0,1,2],[],7,wC⟩:=by kernel_rfl
noncomputable def wD:List N:=[.iff (.or [.cmp (.v 1) [.Lt] [.k (.int 0)],.cmp (.bin .add (.v 1) (.v 2)) [.Gt] [.call (.k (.NS (.builtin "len"))) [.v 0]]]) [.raise] []]
theorem Ft:ab.fn 152=J ⟨[0,1,2],[],5,wD⟩:=by kernel_rfl
noncomputable def wE:List N:=[.asg (.name 3) (.sub (.v 0) (.v 1)),.iff (.or [.cmp (.v 3) [.Is] [.k .none],.cmp (.sub (.v 3) (.k (.int 0))) [.NotEq] [.v 2]]) [.raise] [],.ret (J (.sub (.v 3) (.k (.int 1))))]
theorem Fu:ab.fn 159=J ⟨[0,1,2],[],5,wE⟩:=by kernel_rfl
noncomputable def wF:List N:=[.expr (.call (.k (.NS (.ref 152))) [.v 0,.v 2,.call (.k (.NS (.ref 103))) [.v 1]]),.iff (.cmp (.v 1) [.Eq] [.k (.int 3)]) [.ret (J (.tup [.call (.k (.NS (.ref 159))) [.v 0,.v 2,.k (.int 1)],.call (.k (.NS (.ref 159))) [.v 0,.bin .add (.v 2) (.k (.int 1)),.k (.int 1)]]))] [],.asg (.name 3) (.call (.k (.NS (.ref 159))) [.v 0,.v 2,.v 1]),.iff (.cmp (.v 1) [.Eq] [.k (.int 2)]) [.expr (.call (.k (.NS (.ref 159))) [.v 0,.bin .add (.v 2) (.k (.int 1)),.k (.int 6)])] [],.ret (J (.v 3))]
theorem Fv:ab.fn 166=J ⟨[0,1,2],[],11,wF⟩:=by kernel_rfl
noncomputable def wG:List N:=[.expr (.call (.k (.NS (.ref 152))) [.v 0,.v 2,.call (.k (.NS (.ref 103))) [.v 1]]),.iff (.cmp (.v 1) [.Eq] [.k (.int 3)]) [.asg (.item (.v 0) (.v 2)) (.tup [.k (.int 1),.sub (.v 3) (.k (.int 0))]),.asg (.item (.v 0) (.bin .add (.v 2) (.k (.int 1)))) (.tup [.k (.int 1),.sub (.v 3) (.k (.int 1))]),.ret U] [],.asg (.item (.v 0) (.v 2)) (.tup [.v 1,.v 3]),.iff (.cmp (.v 1) [.Eq] [.k (.int 2)]) [.asg (.item (.v 0) (.bin .add (.v 2) (.k (.int 1)))) (.tup [.k (.int 6),.v 3])] []]
theorem Fw:ab.fn 173=J ⟨[0,1,2,3],[],10,wG⟩:=by kernel_rfl
noncomputable def wH:List N:=[.asg (.name 2) (.bin .shl (.k (.int 1)) (.bin .sub (.v 1) (.k (.int 1)))),.iff (.or [.cmp (.v 0) [.Lt] [.neg (.v 2)],.cmp (.v 0) [.GtE] [.v 2]]) [.raise] [],.ret (J (.v 0))]
theorem Fx:ab.fn 222=J ⟨[0,1],[],4,wH⟩:=by kernel_rfl
noncomputable def wI:List N:=[.ret (J (.call (.k (.NS (.ref 222))) [.bin .add (.v 0) (.v 1),.v 2]))]
theorem Fy:ab.fn 229=J ⟨[0,1,2],[],4,wI⟩:=by kernel_rfl
noncomputable def wJ:List N:=[.ret (J (.call (.k (.NS (.ref 222))) [.bin .sub (.v 0) (.v 1),.v 2]))]
theorem Fz:ab.fn 236=J ⟨[0,1,2],[],4,wJ⟩:=by kernel_rfl
noncomputable def wK:List N:=[.asg (.name 2) (.bin .fdiv (.call (.k (.NS (.builtin "abs"))) [.v 0]) (.call (.k (.NS (.builtin "abs"))) [.v 1])),.ret (J (.Oe (.cmp (.cmp (.v 0) [.Lt] [.k (.int 0)]) [.Eq] [.cmp (.v 1) [.Lt] [.k (.int 0)]]) (.v 2) (.neg (.v 2))))]
theorem FA:ab.fn 250=J ⟨[0,1],[],4,wK⟩:=by kernel_rfl
noncomputable def wL:List N:=[.iff (.cmp (.v 1) [.Eq] [.k (.int 0)]) [.raise] [],.ret (J (.call (.k (.NS (.ref 222))) [.call (.k (.NS (.ref 250))) [.v 0,.v 1],.v 2]))]
theorem FC:ab.fn 257=J ⟨[0,1,2],[],6,wL⟩:=by kernel_rfl
noncomputable def wM:List N:=[.iff (.cmp (.v 0) [.Eq] [.v 1]) [.ret (J (.k (.int 0)))] [],.ret (J (.Oe (.cmp (.v 0) [.Lt] [.v 1]) (.neg (.k (.int 1))) (.k (.int 1))))]
theorem FD:ab.fn 278=J ⟨[0,1],[],2,wM⟩:=by kernel_rfl
noncomputable def wN:List N:=[.iff (.cmp (.v 0) [.Eq] [.k (.str (Y "eq"))]) [.ret (J (.cmp (.v 1) [.Eq] [.k (.int 0)]))] [],.iff (.cmp (.v 0) [.Eq] [.k (.str (Y "ne"))]) [.ret (J (.cmp (.v 1) [.NotEq] [.k (.int 0)]))] [],.iff (.cmp (.v 0) [.Eq] [.k (.str (Y "lt"))]) [.ret (J (.cmp (.v 1) [.Lt] [.k (.int 0)]))] [],.iff (.cmp (.v 0) [.Eq] [.k (.str (Y "le"))]) [.ret (J (.cmp (.v 1) [.LtE] [.k (.int 0)]))] [],.iff (.cmp (.v 0) [.Eq] [.k (.str (Y "gt"))]) [.ret (J (.cmp (.v 1) [.Gt] [.k (.int 0)]))] [],.iff (.cmp (.v 0) [.Eq] [.k (.str (Y "ge"))]) [.ret (J (.cmp (.v 1) [.GtE] [.k (.int 0)]))] [],.raise]
theorem FE:ab.fn 285=J ⟨[0,1],[],3,wN⟩:=by kernel_rfl
noncomputable def mH:List N:=[.iff (.cmp (.v 0) [.Eq] [.k (.str (Y "add"))]) [.ret (J (.call (.k (.NS (.ref 229))) [.v 2,.v 3,.attr (.v 4) (Y "width")]))] [],.iff (.cmp (.v 0) [.Eq] [.k (.str (Y "sub"))]) [.ret (J (.call (.k (.NS (.ref 236))) [.v 2,.v 3,.attr (.v 4) (Y "width")]))] [],.iff (.cmp (.v 0) [.Eq] [.k (.str (Y "mul"))]) [.ret (J (.call (.k (.NS (.ref 243))) [.v 2,.v 3,.attr (.v 4) (Y "width")]))] [],.iff (.cmp (.v 0) [.Eq] [.k (.str (Y "div"))]) [.ret (J (.call (.k (.NS (.ref 257))) [.v 2,.v 3,.attr (.v 4) (Y "width")]))] [],.iff (.or [.cmp (.v 0) [.Eq] [.k (.str (Y "pow"))],.cmp (.v 0) [.Eq] [.k (.str (Y "powi"))]]) [.ret (J (.call (.k (.NS (.ref 271))) [.v 2,.v 3,.attr (.v 4) (Y "width")]))] [],.ret (J (.call (.k (.NS (.ref 285))) [.v 0,.call (.k (.NS (.ref 278))) [.v 2,.v 3]]))]
theorem oA:ab.fn 292=J ⟨[0,1,2,3,4],[],12,mH⟩:=by kernel_rfl
noncomputable def wO:List N:=[.iff (.call (.k (.NS (.builtin "isinstance"))) [.v 0,.k (.NS (.type "tuple"))]) [.ret (J (.cmp (.sub (.v 0) (.k (.int 0))) [.Eq] [.k (.int 0)]))] [],.ret (J (.cmp (.v 0) [.Eq] [.k (.int 0)]))]
theorem FF:ab.fn 306=J ⟨[0],[],3,wO⟩:=by kernel_rfl
noncomputable def ro:List N:=[.iff (.call (.k (.NS (.ref 306))) [.v 3]) [.raise] [],.asg (.name 6) (.sub (.v 4) (.v 0)),.asg (.name 7) (.call (.v 6) [.k (.str (Y "add")),.v 0,.call (.v 6) [.k (.str (Y "sub")),.v 0,.v 2,.v 1,.v 5],.v 3,.v 5]),.asg (.name 8) (.call (.v 6) [.k (.str (Y "div")),.v 0,.v 7,.v 3,.v 5]),.iff (.cmp (.v 0) [.NotEq] [.k (.int 0)]) [.asg (.name 8) (.call (.k (.NS (.ref 299))) [.v 8])] [],.ret (J (.call (.k (.NS (.ref 222))) [.call (.k (.NS (.builtin "max"))) [.v 8,.k (.int 0)],.attr (.v 5) (Y "width")]))]
theorem wP:ab.fn 313=J ⟨[0,1,2,3,4,5],[],15,ro⟩:=by kernel_rfl
noncomputable def wQ:List N:=[.asg (.attr (.v 0) (Y "memory")) (.v 1),.asg (.attr (.v 0) (Y "limits")) (.v 2),.asg (.attr (.v 0) (Y "units")) (.v 3),.asg (.attr (.v 0) (Y "world")) (.v 4),.asg (.attr (.v 0) (Y "expressions")) (.v 5),.asg (.attr (.v 0) (Y "statements")) (.v 6),.asg (.attr (.v 0) (Y "frame")) (.Of []),.asg (.attr (.v 0) (Y "depth")) (.k (.int 0)),.asg (.attr (.v 0) (Y "steps")) (.k (.int 0)),.asg (.attr (.v 0) (Y "places")) (.Of []),.asg (.attr (.v 0) (Y "flows")) (.Of []),.asg (.attr (.v 0) (Y "clears")) (.Of []),.asg (.attr (.v 0) (Y "active")) (.lst []),.asg (.attr (.v 0) (Y "loops")) (.Of []),.asg (.attr (.v 0) (Y "operations")) (.Of [])]
theorem FG:ab.fn 327=J ⟨[0,1,2,3,4,5,6],[],7,wQ⟩:=by kernel_rfl
noncomputable def wR:List N:=[.iff (.cmp (.sub (.v 1) (.k (.int 0))) [.NotIn] [.attr (.v 0) (Y "expressions")]) [.raise] [],.ret (J (.call (.sub (.attr (.v 0) (Y "expressions")) (.sub (.v 1) (.k (.int 0)))) [.v 0,.v 1]))]
theorem FH:ab.fn 341=J ⟨[0,1],[],3,wR⟩:=by kernel_rfl
noncomputable def wS:List N:=[.asg (.name 2) (.NY (.attr (.v 0) (Y "frame")) (Y "get") [.v 1]),.iff (.not (.call (.k (.NS (.builtin "isinstance"))) [.v 2,.k (.NS (.type "tuple"))])) [.raise] [],.ret (J (.v 2))]
theorem FI:ab.fn 348=J ⟨[0,1],[],6,wS⟩:=by kernel_rfl
noncomputable def wT:List N:=[.iff (.cmp (.sub (.v 1) (.k (.int 0))) [.Eq] [.k (.str (Y "substr"))]) [.ret (J (.call (.k (.NS (.ref 362))) [.v 0,.v 1]))] [],.asg (.name 2) (.call (.k (.NS (.ref 348))) [.v 0,.sub (.v 1) (.k (.int 2))]),.iff (.cmp (.sub (.v 1) (.k (.int 0))) [.Eq] [.k (.str (Y "elem"))]) [.ret (J (.call (.k (.NS (.ref 208))) [.v 2,.comp (.call (.k (.NS (.ref 341))) [.v 3,.v 1]) [1] Qp Qq (.sub (.v 1) (.k (.int 3))) [(3,0)] 4]))] [],.ret (J (.v 2))]
theorem FJ:ab.fn 367=J ⟨[0,1],[],6,wT⟩:=by kernel_rfl
noncomputable def wU:List N:=[.ret (J (.sub (.v 1) (.k (.int 2))))]
theorem FK:ab.fn 374=J ⟨[0,1],[],2,wU⟩:=by kernel_rfl
noncomputable def wV:List N:=[.ret (J (.NY (.attr (.v 0) (Y "memory")) (Y "load") [.call (.k (.NS (.ref 367))) [.v 0,.v 1]]))]
theorem FL:ab.fn 381=J ⟨[0,1],[],3,wV⟩:=by kernel_rfl
noncomputable def wW:List N:=[.iff (.cmp (.v 2) [.NotIn] [.attr (.v 0) (Y "operations")]) [.raise] [],.ret (J (.call (.sub (.attr (.v 0) (Y "operations")) (.v 2)) [.v 1,.v 2,.v 3,.v 4,.attr (.v 0) (Y "limits")]))]
theorem FM:ab.fn 388=J ⟨[0,1,2,3,4],[],6,wW⟩:=by kernel_rfl
noncomputable def wX:List N:=[.asg (.name 2) (.call (.k (.NS (.ref 341))) [.v 0,.sub (.v 1) (.k (.int 2))]),.asg (.name 3) (.call (.k (.NS (.ref 341))) [.v 0,.sub (.v 1) (.k (.int 3))]),.ret (J (.call (.k (.NS (.ref 388))) [.v 0,.sub (.v 1) (.k (.int 0)),.sub (.v 1) (.k (.int 1)),.v 2,.v 3]))]
theorem FN:ab.fn 395=J ⟨[0,1],[],6,wX⟩:=by kernel_rfl
noncomputable def wY:List N:=[.asg (.name 2) (.call (.k (.NS (.ref 341))) [.v 0,.sub (.v 1) (.k (.int 2))]),.asg (.name 3) (.call (.k (.NS (.ref 341))) [.v 0,.sub (.v 1) (.k (.int 3))]),.ret (J (.call (.k (.NS (.ref 388))) [.v 0,.sub (.v 1) (.k (.int 0)),.sub (.sub (.v 1) (.k (.int 2))) (.k (.int 1)),.v 2,.v 3]))]
theorem FO:ab.fn 402=J ⟨[0,1],[],6,wY⟩:=by kernel_rfl
noncomputable def wZ:List N:=[.asg (.name 0) (.Of [.k (.str (Y "const")),.k (.NS (.ref 374)),.k (.str (Y "var")),.k (.NS (.ref 381)),.k (.str (Y "elem")),.k (.NS (.ref 381))]),.fr (.name 1) (.over (.tup [.k (.str (Y "add")),.k (.str (Y "sub")),.k (.str (Y "mul")),.k (.str (Y "div")),.k (.str (Y "pow")),.k (.str (Y "powi")),.k (.str (Y "and")),.k (.str (Y "or")),.k (.str (Y "eqv")),.k (.str (Y "neqv"))])) [.asg (.item (.v 0) (.v 1)) (.k (.NS (.ref 395)))],.fr (.name 1) (.over (.tup [.k (.str (Y "eq")),.k (.str (Y "ne")),.k (.str (Y "lt")),.k (.str (Y "le")),.k (.str (Y "gt")),.k (.str (Y "ge"))])) [.asg (.item (.v 0) (.v 1)) (.k (.NS (.ref 402)))],.ret (J (.v 0))]
theorem FP:ab.fn 409=J ⟨[],[],6,wZ⟩:=by kernel_rfl
noncomputable def w0:List N:=[.asg (.attr (.v 0) (Y "labels")) (.Of []),.asg (.attr (.v 0) (Y "next_arm")) (.Of []),.asg (.attr (.v 0) (Y "block_end")) (.Of []),.asg (.attr (.v 0) (Y "do_end")) (.Of []),.asg (.attr (.v 0) (Y "ending")) (.Of [])]
theorem FQ:ab.fn 423=J ⟨[0],[],1,w0⟩:=by kernel_rfl
noncomputable def w1:List N:=[.iff (.cmp (.v 1) [.Eq] [.k (.int 0)]) [.ret U] [],.iff (.cmp (.v 1) [.In] [.attr (.v 0) (Y "labels")]) [.bad] [],.asg (.item (.attr (.v 0) (Y "labels")) (.v 1)) (.v 2)]
theorem FR:ab.fn 437=J ⟨[0,1,2],[],4,w1⟩:=by kernel_rfl
noncomputable def w2:List N:=[.iff (.not (.v 1)) [.bad] [],.asg (.name 5) (.sub (.v 1) (.neg (.k (.int 1)))),.asg (.name 6) (.sub (.v 5) (.neg (.k (.int 1)))),.iff (.cmp (.sub (.sub (.sub (.v 4) (.v 6)) (.k (.int 1))) (.k (.int 0))) [.Eq] [.k (.str (Y "else"))]) [.iff (.cmp (.v 2) [.NotEq] [.k (.str (Y "endif"))]) [.bad] []] [.asg (.item (.attr (.v 0) (Y "next_arm")) (.v 6)) (.v 3)],.iff (.cmp (.v 2) [.Eq] [.k (.str (Y "endif"))]) [.fr (.name 7) (.over (.v 5)) [.asg (.item (.attr (.v 0) (Y "block_end")) (.v 7)) (.v 3)],.expr (.NY (.v 1) (Y "pop") [])] [.expr (.NY (.v 5) (Y "append") [.v 3])]]
theorem FS:ab.fn 444=J ⟨[0,1,2,3,4],[],9,w2⟩:=by kernel_rfl
noncomputable def rp:List N:=[.iff (.not (.v 0)) [.ret (J (.neg (.k (.int 1))))] [],.ret (J (.sub (.sub (.v 0) (.neg (.k (.int 1)))) (.neg (.k (.int 1)))))]
theorem w3:ab.fn 451=J ⟨[0],[],1,rp⟩:=by kernel_rfl
noncomputable def w4:List N:=[.O3 (.and [.v 1,.cmp (.v 3) [.NotEq] [.k (.int 0)],.cmp (.sub (.sub (.v 1) (.neg (.k (.int 1)))) (.k (.int 0))) [.Eq] [.v 3]]) [.asg (.tup [5,6,7]) (.NY (.v 1) (Y "pop") []),.iff (.cmp (.v 7) [.NotEq] [.call (.k (.NS (.ref 451))) [.v 2]]) [.bad] [],.asg (.item (.attr (.v 0) (Y "do_end")) (.v 6)) (.v 4),.iff (.cmp (.v 4) [.NotIn] [.attr (.v 0) (Y "ending")]) [.asg (.item (.attr (.v 0) (Y "ending")) (.v 4)) (.lst [])] [],.expr (.NY (.sub (.attr (.v 0) (Y "ending")) (.v 4)) (Y "append") [.v 6])]]
theorem FT:ab.fn 458=J ⟨[0,1,2,3,4],[],10,w4⟩:=by kernel_rfl
noncomputable def w5:List N:=[.asg (.name 1) (.call (.k (.NS (.ref 426))) []),.asg (.name 2) (.lst []),.asg (.name 3) (.lst []),.fr (.name 4) (.range (.call (.k (.NS (.builtin "len"))) [.v 0])) [.asg (.name 5) (.sub (.sub (.v 0) (.v 4)) (.k (.int 0))),.asg (.name 6) (.sub (.sub (.v 0) (.v 4)) (.k (.int 1))),.expr (.call (.k (.NS (.ref 437))) [.v 1,.v 5,.v 4]),.iff (.cmp (.sub (.v 6) (.k (.int 0))) [.Eq] [.k (.str (Y "if"))]) [.expr (.NY (.v 2) (Y "append") [.lst [.v 4]])] [.iff (.cmp (.sub (.v 6) (.k (.int 0))) [.In] [.tup [.k (.str (Y "elseif")),.k (.str (Y "else")),.k (.str (Y "endif"))]]) [.expr (.call (.k (.NS (.ref 444))) [.v 1,.v 2,.sub (.v 6) (.k (.int 0)),.v 4,.v 0])] [.iff (.cmp (.sub (.v 6) (.k (.int 0))) [.Eq] [.k (.str (Y "do"))]) [.expr (.NY (.v 3) (Y "append") [.tup [.sub (.v 6) (.k (.int 1)),.v 4,.call (.k (.NS (.ref 451))) [.v 2]]]),.cont] []]],.expr (.call (.k (.NS (.ref 458))) [.v 1,.v 3,.v 2,.v 5,.v 4])],.iff (.v 2) [.bad] [],.iff (.v 3) [.bad] [],.ret (J (.v 1))]
theorem FU:ab.fn 465=J ⟨[0],[],15,w5⟩:=by kernel_rfl
noncomputable def w6:List N:=[.iff (.call (.k (.NS (.builtin "isinstance"))) [.v 0,.k (.NS (.type "tuple"))]) [.asg (.name 0) (.sub (.v 0) (.k (.int 0)))] [],.iff (.cmp (.v 0) [.Eq] [.k (.int 0)]) [.ret (J (.k (.int 0)))] [],.ret (J (.Oe (.cmp (.v 0) [.Gt] [.k (.int 0)]) (.k (.int 1)) (.neg (.k (.int 1)))))]
theorem FV:ab.fn 472=J ⟨[0],[],3,w6⟩:=by kernel_rfl
noncomputable def rq:List N:=[.iff (.cmp (.attr (.v 1) (Y "name")) [.NotIn] [.attr (.v 0) (Y "flows")]) [.asg (.item (.attr (.v 0) (Y "flows")) (.attr (.v 1) (Y "name"))) (.call (.k (.NS (.ref 465))) [.attr (.v 1) (Y "statements")])] [],.ret (J (.sub (.attr (.v 0) (Y "flows")) (.attr (.v 1) (Y "name"))))]
theorem w7:ab.fn 479=J ⟨[0,1],[],3,rq⟩:=by kernel_rfl
noncomputable def w8:List N:=[.iff (.cmp (.sub (.v 3) (.k (.int 0))) [.NotIn] [.attr (.v 0) (Y "statements")]) [.raise] [],.ret (J (.call (.sub (.attr (.v 0) (Y "statements")) (.sub (.v 3) (.k (.int 0)))) [.v 0,.v 1,.v 2,.v 3]))]
theorem FW:ab.fn 486=J ⟨[0,1,2,3],[],5,w8⟩:=by kernel_rfl
noncomputable def w9:List N:=[.aug (.attr (.v 0) (Y "steps")) .add (.k (.int 1)),.iff (.cmp (.attr (.v 0) (Y "steps")) [.Gt] [.attr (.attr (.v 0) (Y "limits")) (Y "steps")]) [.bad] []]
theorem FX:ab.fn 493=J ⟨[0],[],2,w9⟩:=by kernel_rfl
noncomputable def xa:List N:=[.asg (.name 3) (.call (.k (.NS (.ref 479))) [.v 0,.v 1]),.asg (.name 4) (.v 2),.O3 (.cmp (.v 4) [.Lt] [.call (.k (.NS (.builtin "len"))) [.attr (.v 1) (Y "statements")]]) [.expr (.call (.k (.NS (.ref 493))) [.v 0]),.asg (.name 5) (.call (.k (.NS (.ref 486))) [.v 0,.v 1,.v 4,.sub (.sub (.attr (.v 1) (Y "statements")) (.v 4)) (.k (.int 1))]),.iff (.not (.call (.k (.NS (.builtin "isinstance"))) [.v 5,.k (.NS (.type "tuple"))])) [.iff (.and [.cmp (.v 5) [.Eq] [.bin .add (.v 4) (.k (.int 1))],.cmp (.v 4) [.In] [.attr (.v 3) (Y "ending")]]) [.asg (.name 5) (.call (.k (.NS (.ref 619))) [.v 0,.v 1,.v 3,.v 4,.k (.int 0)])] [],.asg (.name 4) (.v 5)] [.iff (.cmp (.sub (.v 5) (.k (.int 0))) [.Eq] [.k (.str (Y "jump"))]) [.asg (.name 4) (.sub (.v 5) (.k (.int 1)))] [.ret (J (.sub (.v 5) (.k (.int 1))))]]],.ret (J (.k (.int 0)))]
theorem FY:ab.fn 500=J ⟨[0,1,2],[],13,xa⟩:=by kernel_rfl
noncomputable def xb:List N:=[.asg (.name 3) (.call (.k (.NS (.ref 479))) [.v 0,.v 1]),.iff (.cmp (.v 2) [.NotIn] [.attr (.v 3) (Y "labels")]) [.raise] [],.ret (J (.tup [.k (.str (Y "jump")),.sub (.attr (.v 3) (Y "labels")) (.v 2)]))]
theorem FZ:ab.fn 507=J ⟨[0,1,2],[],6,xb⟩:=by kernel_rfl
noncomputable def xc:List N:=[.expr (.NY (.attr (.v 0) (Y "memory")) (Y "store") [.call (.k (.NS (.ref 367))) [.v 0,.v 1],.v 2])]
theorem F1:ab.fn 514=J ⟨[0,1,2],[],4,xc⟩:=by kernel_rfl
noncomputable def xd:List N:=[.asg (.name 4) (.call (.k (.NS (.ref 341))) [.v 0,.sub (.v 3) (.k (.int 2))]),.expr (.call (.k (.NS (.ref 514))) [.v 0,.sub (.v 3) (.k (.int 1)),.v 4]),.ret (J (.bin .add (.v 2) (.k (.int 1))))]
theorem F2:ab.fn 521=J ⟨[0,1,2,3],[],7,xd⟩:=by kernel_rfl
noncomputable def xe:List N:=[.ret (J (.sub (.sub (.attr (.v 0) (Y "frame")) (.v 1)) (.k (.int 1))))]
theorem F3:ab.fn 528=J ⟨[0,1],[],2,xe⟩:=by kernel_rfl
noncomputable def xf:List N:=[.asg (.item (.attr (.attr (.v 0) (Y "memory")) (Y "numeric")) (.call (.k (.NS (.ref 528))) [.v 0,.sub (.v 3) (.k (.int 2))])) (.tup [.k (.int 7),.sub (.v 3) (.k (.int 1))]),.ret (J (.bin .add (.v 2) (.k (.int 1))))]
theorem F4:ab.fn 535=J ⟨[0,1,2,3],[],6,xf⟩:=by kernel_rfl
noncomputable def xg:List N:=[.asg (.name 2) (.sub (.attr (.attr (.v 0) (Y "memory")) (Y "numeric")) (.call (.k (.NS (.ref 528))) [.v 0,.v 1])),.iff (.or [.cmp (.v 2) [.Is] [.k .none],.cmp (.sub (.v 2) (.k (.int 0))) [.NotEq] [.k (.int 7)]]) [.raise] [],.ret (J (.sub (.v 2) (.k (.int 1))))]
theorem F5:ab.fn 542=J ⟨[0,1],[],6,xg⟩:=by kernel_rfl
noncomputable def xh:List N:=[.ret (J (.Of [.k (.str (Y "assign")),.k (.NS (.ref 521)),.k (.str (Y "setlabel")),.k (.NS (.ref 535))]))]
theorem F6:ab.fn 549=J ⟨[],[],2,xh⟩:=by kernel_rfl
noncomputable def xi:List N:=[.ret (J (.call (.k (.NS (.ref 507))) [.v 0,.v 1,.sub (.v 3) (.k (.int 1))]))]
theorem F7:ab.fn 556=J ⟨[0,1,2,3],[],5,xi⟩:=by kernel_rfl
noncomputable def rr:List N:=[.asg (.name 4) (.call (.k (.NS (.ref 341))) [.v 0,.sub (.v 3) (.k (.int 2))]),.iff (.cmp (.k (.int 1)) [.LtE,.LtE] [.v 4,.call (.k (.NS (.builtin "len"))) [.sub (.v 3) (.k (.int 1))]]) [.ret (J (.call (.k (.NS (.ref 507))) [.v 0,.v 1,.sub (.sub (.v 3) (.k (.int 1))) (.bin .sub (.v 4) (.k (.int 1)))]))] [],.ret (J (.bin .add (.v 2) (.k (.int 1))))]
theorem xj:ab.fn 563=J ⟨[0,1,2,3],[],8,rr⟩:=by kernel_rfl
noncomputable def xk:List N:=[.asg (.name 4) (.call (.k (.NS (.ref 542))) [.v 0,.sub (.v 3) (.k (.int 1))]),.iff (.and [.sub (.v 3) (.k (.int 2)),.cmp (.v 4) [.NotIn] [.sub (.v 3) (.k (.int 2))]]) [.raise] [],.ret (J (.call (.k (.NS (.ref 507))) [.v 0,.v 1,.v 4]))]
theorem F8:ab.fn 570=J ⟨[0,1,2,3],[],8,xk⟩:=by kernel_rfl
noncomputable def xl:List N:=[.asg (.name 4) (.call (.k (.NS (.ref 472))) [.call (.k (.NS (.ref 341))) [.v 0,.sub (.v 3) (.k (.int 1))]]),.ret (J (.call (.k (.NS (.ref 507))) [.v 0,.v 1,.sub (.v 3) (.bin .add (.k (.int 3)) (.v 4))]))]
theorem F9:ab.fn 577=J ⟨[0,1,2,3],[],8,xl⟩:=by kernel_rfl
noncomputable def rs:List N:=[.iff (.call (.k (.NS (.ref 341))) [.v 0,.sub (.v 3) (.k (.int 1))]) [.ret (J (.call (.k (.NS (.ref 486))) [.v 0,.v 1,.v 2,.sub (.v 3) (.k (.int 2))]))] [],.ret (J (.bin .add (.v 2) (.k (.int 1))))]
theorem xm:ab.fn 584=J ⟨[0,1,2,3],[],6,rs⟩:=by kernel_rfl
noncomputable def xn:List N:=[.asg (.name 4) (.call (.k (.NS (.ref 479))) [.v 0,.v 1]),.asg (.name 5) (.v 2),.O3 (.k (.bool Qp)) [.asg (.name 6) (.sub (.sub (.attr (.v 1) (Y "statements")) (.v 5)) (.k (.int 1))),.iff (.or [.cmp (.sub (.v 6) (.k (.int 0))) [.In] [.tup [.k (.str (Y "else")),.k (.str (Y "endif"))]],.call (.k (.NS (.ref 341))) [.v 0,.sub (.v 6) (.k (.int 1))]]) [.ret (J (.bin .add (.v 5) (.k (.int 1))))] [],.asg (.name 5) (.sub (.attr (.v 4) (Y "next_arm")) (.v 5))]]
theorem Ga:ab.fn 591=J ⟨[0,1,2,3],[],9,xn⟩:=by kernel_rfl
noncomputable def xo:List N:=[.ret (J (.bin .add (.sub (.attr (.call (.k (.NS (.ref 479))) [.v 0,.v 1]) (Y "block_end")) (.v 2)) (.k (.int 1))))]
theorem Gb:ab.fn 598=J ⟨[0,1,2,3],[],5,xo⟩:=by kernel_rfl
noncomputable def xp:List N:=[.ret (J (.bin .add (.v 2) (.k (.int 1))))]
theorem Gc:ab.fn 605=J ⟨[0,1,2,3],[],4,xp⟩:=by kernel_rfl
noncomputable def ru:List N:=[.asg (.name 4) (.call (.k (.NS (.ref 479))) [.v 0,.v 1]),.asg (.name 5) (.sub (.sub (.v 3) (.k (.int 2))) (.k (.int 1))),.asg (.name 6) (.call (.k (.NS (.ref 341))) [.v 0,.sub (.v 3) (.k (.int 3))]),.asg (.name 7) (.call (.k (.NS (.ref 341))) [.v 0,.sub (.v 3) (.k (.int 4))]),.asg (.name 8) (.call (.k (.NS (.ref 341))) [.v 0,.sub (.v 3) (.k (.int 5))]),.asg (.name 9) (.call (.k (.NS (.ref 313))) [.v 5,.v 6,.v 7,.v 8,.attr (.v 0) (Y "operations"),.attr (.v 0) (Y "limits")]),.expr (.NY (.attr (.v 0) (Y "memory")) (Y "store") [.call (.k (.NS (.ref 367))) [.v 0,.sub (.v 3) (.k (.int 2))],.v 6]),.asg (.item (.attr (.v 0) (Y "loops")) (.tup [.attr (.v 1) (Y "name"),.v 2])) (.tup [.v 9,.v 8]),.iff (.cmp (.v 9) [.Gt] [.k (.int 0)]) [.ret (J (.bin .add (.v 2) (.k (.int 1))))] [],.expr (.NY (.attr (.v 0) (Y "loops")) (Y "pop") [.tup [.attr (.v 1) (Y "name"),.v 2]]),.asg (.name 10) (.sub (.attr (.v 4) (Y "do_end")) (.v 2)),.ret (J (.tup [.k (.str (Y "jump")),.call (.k (.NS (.ref 619))) [.v 0,.v 1,.v 4,.v 10,.bin .add (.NY (.sub (.attr (.v 4) (Y "ending")) (.v 10)) (Y "index") [.v 2]) (.k (.int 1))]]))]
theorem xq:ab.fn 612=J ⟨[0,1,2,3],[],16,ru⟩:=by kernel_rfl
noncomputable def xr:List N:=[.fr (.name 5) (.over (.O2 (.sub (.attr (.v 2) (Y "ending")) (.v 3)) (J (.v 4)) U)) [.iff (.cmp (.tup [.attr (.v 1) (Y "name"),.v 5]) [.NotIn] [.attr (.v 0) (Y "loops")]) [.cont] [],.asg (.tup [6,7]) (.sub (.attr (.v 0) (Y "loops")) (.tup [.attr (.v 1) (Y "name"),.v 5])),.asg (.name 8) (.sub (.sub (.sub (.attr (.v 1) (Y "statements")) (.v 5)) (.k (.int 1))) (.k (.int 2))),.asg (.name 9) (.call (.k (.NS (.ref 367))) [.v 0,.v 8]),.expr (.NY (.attr (.v 0) (Y "memory")) (Y "store") [.v 9,.call (.k (.NS (.ref 388))) [.v 0,.k (.str (Y "add")),.sub (.v 8) (.k (.int 1)),.NY (.attr (.v 0) (Y "memory")) (Y "load") [.v 9],.v 7]]),.iff (.cmp (.v 6) [.Gt] [.k (.int 1)]) [.asg (.item (.attr (.v 0) (Y "loops")) (.tup [.attr (.v 1) (Y "name"),.v 5])) (.tup [.bin .sub (.v 6) (.k (.int 1)),.v 7]),.ret (J (.bin .add (.v 5) (.k (.int 1))))] [],.expr (.NY (.attr (.v 0) (Y "loops")) (Y "pop") [.tup [.attr (.v 1) (Y "name"),.v 5]])],.ret (J (.bin .add (.v 3) (.k (.int 1))))]
theorem Gd:ab.fn 619=J ⟨[0,1,2,3,4],[],12,xr⟩:=by kernel_rfl
noncomputable def xs:List N:=[.iff (.cmp (.sub (.v 3) (.k (.int 1))) [.Is] [.k .none]) [.ret (J (.tup [.k (.str (Y "return")),.k (.int 0)]))] [],.ret (J (.tup [.k (.str (Y "return")),.call (.k (.NS (.ref 341))) [.v 0,.sub (.v 3) (.k (.int 1))]]))]
theorem Ge:ab.fn 626=J ⟨[0,1,2,3],[],5,xs⟩:=by kernel_rfl
noncomputable def xt:List N:=[.ret (J (.tup [.k (.str (Y "return")),.k (.int 0)]))]
theorem Gf:ab.fn 633=J ⟨[0,1,2,3],[],4,xt⟩:=by kernel_rfl
noncomputable def xu:List N:=[.ret (J (.Of [.k (.str (Y "goto")),.k (.NS (.ref 556)),.k (.str (Y "cgoto")),.k (.NS (.ref 563)),.k (.str (Y "agoto")),.k (.NS (.ref 570)),.k (.str (Y "aif")),.k (.NS (.ref 577)),.k (.str (Y "lif")),.k (.NS (.ref 584)),.k (.str (Y "if")),.k (.NS (.ref 591)),.k (.str (Y "elseif")),.k (.NS (.ref 598)),.k (.str (Y "else")),.k (.NS (.ref 598)),.k (.str (Y "endif")),.k (.NS (.ref 605)),.k (.str (Y "do")),.k (.NS (.ref 612)),.k (.str (Y "continue")),.k (.NS (.ref 605)),.k (.str (Y "entry")),.k (.NS (.ref 605)),.k (.str (Y "pause")),.k (.NS (.ref 605)),.k (.str (Y "return")),.k (.NS (.ref 626)),.k (.str (Y "end")),.k (.NS (.ref 633)),.k (.str (Y "stop")),.k (.NS (.ref 640))]))]
theorem Gg:ab.fn 647=J ⟨[],[],12,xu⟩:=by kernel_rfl
noncomputable def xv:List N:=[.asg (.attr (.v 0) (Y "kind")) (.v 1),.asg (.attr (.v 0) (Y "name")) (.v 2),.asg (.attr (.v 0) (Y "dummies")) (.lst []),.asg (.attr (.v 0) (Y "entries")) (.Of []),.asg (.attr (.v 0) (Y "symbols")) (.Of []),.asg (.attr (.v 0) (Y "statements")) (.lst []),.asg (.attr (.v 0) (Y "formats")) (.Of []),.asg (.attr (.v 0) (Y "labels")) (.Of []),.asg (.attr (.v 0) (Y "result")) (.k .none),.asg (.attr (.v 0) (Y "commons")) (.lst []),.asg (.attr (.v 0) (Y "equivs")) (.lst []),.asg (.attr (.v 0) (Y "datas")) (.lst []),.asg (.attr (.v 0) (Y "saves")) (.lst []),.asg (.attr (.v 0) (Y "constants")) (.Of [])]
theorem Gh:ab.fn 683=J ⟨[0,1,2],[],3,xv⟩:=by kernel_rfl
noncomputable def xw:List N:=[.asg (.name 2) (.sub (.v 0) (.k (.int 1))),.asg (.item (.v 0) (.k (.int 1))) (.bin .add (.v 2) (.k (.int 1))),.iff (.cmp (.v 2) [.Lt] [.call (.k (.NS (.builtin "len"))) [.sub (.v 0) (.k (.int 0))]]) [.ret (J (.bin .mod (.sub (.sub (.v 0) (.k (.int 0))) (.v 2)) (.v 1)))] [],.ret (J (.bin .mod (.bin .add (.bin .add (.bin .mul (.k (.int 5)) (.v 2)) (.bin .fdiv (.bin .mul (.v 2) (.v 2)) (.k (.int 3)))) (.k (.int 2))) (.v 1)))]
theorem Gi:ab.fn 698=J ⟨[0,1],[],4,xw⟩:=by kernel_rfl
noncomputable def rv:List N:=[.asg (.item (.v 0) (.k (.int 3))) (.bin .add (.sub (.v 0) (.k (.int 3))) (.k (.int 1))),.ret (J (.sub (.v 0) (.k (.int 3))))]
theorem xx:ab.fn 705=J ⟨[0],[],1,rv⟩:=by kernel_rfl
noncomputable def xy:List N:=[.ret (J (.tup [.k (.str (Y "set")),.call (.k (.NS (.ref 698))) [.v 0,.k (.int 3)],.call (.k (.NS (.ref 698))) [.v 0,.k (.int 2)],.call (.k (.NS (.ref 698))) [.v 0,.k (.int 6)],.bin .sub (.call (.k (.NS (.ref 698))) [.v 0,.k (.int 9)]) (.k (.int 4))]))]
theorem Gj:ab.fn 712=J ⟨[0],[],2,xy⟩:=by kernel_rfl
noncomputable def xz:List N:=[.ret (J (.tup [.sub (.lst [.k (.str (Y "lt")),.k (.str (Y "le")),.k (.str (Y "eq")),.k (.str (Y "ne")),.k (.str (Y "gt")),.k (.str (Y "ge"))]) (.call (.k (.NS (.ref 698))) [.v 0,.k (.int 6)]),.call (.k (.NS (.ref 698))) [.v 0,.k (.int 6)],.bin .sub (.call (.k (.NS (.ref 698))) [.v 0,.k (.int 7)]) (.k (.int 3))]))]
theorem Gk:ab.fn 719=J ⟨[0],[],2,xz⟩:=by kernel_rfl
noncomputable def xA:List N:=[.asg (.name 1) (.call (.k (.NS (.ref 698))) [.v 0,.k (.int 3)]),.iff (.cmp (.v 1) [.Eq] [.k (.int 0)]) [.ret (J (.k .none))] [],.iff (.cmp (.v 1) [.Eq] [.k (.int 1)]) [.ret (J (.call (.k (.NS (.ref 712))) [.v 0]))] [],.ret (J (.tup [.k (.str (Y "lif")),.call (.k (.NS (.ref 719))) [.v 0],.call (.k (.NS (.ref 712))) [.v 0]]))]
theorem Gl:ab.fn 726=J ⟨[0],[],5,xA⟩:=by kernel_rfl
noncomputable def xB:List N:=[.asg (.name 3) (.call (.k (.NS (.ref 705))) [.v 0]),.asg (.name 4) (.bin .sub (.call (.k (.NS (.ref 698))) [.v 0,.k (.int 4)]) (.k (.int 1))),.asg (.name 5) (.call (.k (.NS (.ref 698))) [.v 0,.k (.int 5)]),.asg (.name 6) (.sub (.lst [.k (.int 1),.k (.int 1),.k (.int 2),.neg (.k (.int 1)),.k (.int 1),.neg (.k (.int 2)),.k (.int 3),.k (.int 1),.k (.int 0)]) (.call (.k (.NS (.ref 698))) [.v 0,.k (.int 9)])),.iff (.cmp (.v 6) [.Lt] [.k (.int 0)]) [.asg (.tup [4,5]) (.tup [.v 5,.v 4])] [],.asg (.name 7) (.and [.cmp (.v 1) [.Lt] [.k (.int 2)],.cmp (.call (.k (.NS (.ref 698))) [.v 0,.k (.int 3)]) [.Eq] [.k (.int 1)]]),.iff (.not (.v 7)) [.asg (.name 8) (.call (.k (.NS (.ref 745))) [.v 0,.bin .add (.v 1) (.k (.int 1)),.lst [.tup [.v 3,.v 3]],.k (.int 2)]),.ret (J (.tup [.k (.str (Y "do")),.v 3,.bin .add (.k (.int 3)) (.v 1),.v 4,.v 5,.v 6,.v 8,.call (.k (.NS (.ref 726))) [.v 0],.k .none]))] [],.asg (.name 8) (.call (.k (.NS (.ref 745))) [.v 0,.k (.int 3),.lst [],.k (.int 1)]),.asg (.name 9) (.call (.k (.NS (.ref 705))) [.v 0]),.asg (.name 10) (.lst [.call (.k (.NS (.ref 698))) [.v 0,.k (.int 3)],.call (.k (.NS (.ref 698))) [.v 0,.k (.int 4)]]),.asg (.name 11) (.call (.k (.NS (.ref 745))) [.v 0,.k (.int 3),.lst [.tup [.v 3,.v 9]],.k (.int 2)]),.asg (.name 12) (.tup [.k (.str (Y "do")),.v 9,.bin .add (.k (.int 4)) (.v 1),.sub (.v 10) (.k (.int 0)),.sub (.v 10) (.k (.int 1)),.k (.int 1),.v 11,.call (.k (.NS (.ref 726))) [.v 0],.k .none]),.ret (J (.tup [.k (.str (Y "do")),.v 3,.bin .add (.k (.int 3)) (.v 1),.v 4,.v 5,.v 6,.v 8,.k .none,.v 12]))]
theorem Gm:ab.fn 733=J ⟨[0,1,2],[],17,xB⟩:=by kernel_rfl
noncomputable def xC:List N:=[.asg (.name 3) (.call (.k (.NS (.ref 698))) [.v 0,.k (.int 10)]),.iff (.and [.cmp (.v 3) [.In] [.tup [.k (.int 2),.k (.int 3)]],.cmp (.v 1) [.Lt] [.k (.int 3)]]) [.ret (J (.call (.k (.NS (.ref 733))) [.v 0,.v 1,.v 2]))] [],.iff (.and [.cmp (.v 3) [.Eq] [.k (.int 1)],.cmp (.v 1) [.Lt] [.k (.int 3)]]) [.asg (.name 4) (.comp (.tup [.call (.k (.NS (.ref 719))) [.v 6],.call (.k (.NS (.ref 745))) [.v 6,.bin .add (.v 4) (.k (.int 1)),.v 5,.k (.int 2)]]) [1] Qp Qp (.bin .add (.k (.int 1)) (.call (.k (.NS (.ref 698))) [.v 0,.k (.int 3)])) [(4,1),(5,2),(6,0)] 7),.asg (.name 5) (.Oe (.call (.k (.NS (.ref 698))) [.v 0,.k (.int 2)]) (.call (.k (.NS (.ref 745))) [.v 0,.bin .add (.v 1) (.k (.int 1)),.v 2,.k (.int 1)]) (.k .none)),.ret (J (.tup [.k (.str (Y "if")),.v 4,.v 5]))] [],.iff (.and [.cmp (.v 3) [.Eq] [.k (.int 4)],.v 2]) [.ret (J (.tup [.k (.str (Y "exit")),.sub (.sub (.v 2) (.neg (.k (.int 1)))) (.k (.int 0)),.call (.k (.NS (.ref 719))) [.v 0]]))] [],.iff (.and [.cmp (.v 3) [.Eq] [.k (.int 5)],.v 2]) [.ret (J (.tup [.k (.str (Y "cycle")),.sub (.sub (.v 2) (.neg (.k (.int 1)))) (.k (.int 1)),.call (.k (.NS (.ref 719))) [.v 0]]))] [],.iff (.and [.cmp (.v 3) [.In] [.tup [.k (.int 6),.k (.int 7),.k (.int 8)]],.cmp (.v 1) [.Lt] [.k (.int 3)]]) [.asg (.name 6) (.Oe (.cmp (.v 3) [.Eq] [.k (.int 7)]) (.k (.int 3)) (.bin .add (.k (.int 1)) (.call (.k (.NS (.ref 698))) [.v 0,.k (.int 2)]))),.asg (.name 7) (.comp (.call (.k (.NS (.ref 745))) [.v 5,.bin .add (.v 3) (.k (.int 1)),.v 4,.k (.int 1)]) [1] Qp Qp (.v 6) [(3,1),(4,2),(5,0)] 6),.iff (.cmp (.v 3) [.Eq] [.k (.int 8)]) [.ret (J (.tup [.k (.str (Y "way")),.call (.k (.NS (.ref 698))) [.v 0,.v 6],.call (.k (.NS (.ref 698))) [.v 0,.k (.int 2)],.v 7]))] [],.ret (J (.tup [.sub (.lst [.k (.str (Y "switch")),.k (.str (Y "sign"))]) (.bin .sub (.v 3) (.k (.int 6))),.call (.k (.NS (.ref 698))) [.v 0,.k (.int 6)],.v 7,.call (.k (.NS (.ref 745))) [.v 0,.bin .add (.v 1) (.k (.int 1)),.v 2,.k (.int 1)]]))] [],.iff (.and [.cmp (.v 3) [.Eq] [.k (.int 9)],.cmp (.v 1) [.Gt] [.k (.int 0)]]) [.ret (J (.tup [.k (.str (Y "end")),.call (.k (.NS (.ref 719))) [.v 0]]))] [],.ret (J (.Oe (.cmp (.v 3) [.Lt] [.k (.int 8)]) (.call (.k (.NS (.ref 712))) [.v 0]) (.tup [.k (.str (Y "lif")),.call (.k (.NS (.ref 719))) [.v 0],.call (.k (.NS (.ref 712))) [.v 0]])))]
theorem Gn:ab.fn 738=J ⟨[0,1,2],[],14,xC⟩:=by kernel_rfl
noncomputable def xD:List N:=[.asg (.name 4) (.lst []),.fr (.name 5) (.range (.bin .add (.k (.int 1)) (.call (.k (.NS (.ref 698))) [.v 0,.v 3]))) [.iff (.cmp (.sub (.v 0) (.k (.int 2))) [.Gt] [.k (.int 0)]) [.asg (.item (.v 0) (.k (.int 2))) (.bin .sub (.sub (.v 0) (.k (.int 2))) (.k (.int 1))),.expr (.NY (.v 4) (Y "append") [.call (.k (.NS (.ref 738))) [.v 0,.v 1,.v 2]])] []],.ret (J (.v 4))]
theorem Go:ab.fn 745=J ⟨[0,1,2,3],[],9,xD⟩:=by kernel_rfl
noncomputable def xE:List N:=[.ret (J (.tup [.k (.str (Y "var")),.k (.int 0),.sub (.k (.lst [.str (Y "A"),.str (Y "B"),.str (Y "C"),.str (Y "I"),.str (Y "J"),.str (Y "K")])) (.v 0)]))]
theorem Gp:ab.fn 752=J ⟨[0],[],3,xE⟩:=by kernel_rfl
noncomputable def xF:List N:=[.ret (J (.tup [.k (.str (Y "const")),.k (.int 0),.v 0]))]
theorem Gq:ab.fn 759=J ⟨[0],[],2,xF⟩:=by kernel_rfl
noncomputable def xG:List N:=[.ret (J (.tup [.sub (.v 0) (.k (.int 0)),.k (.int 4),.call (.k (.NS (.ref 752))) [.sub (.v 0) (.k (.int 1))],.call (.k (.NS (.ref 759))) [.sub (.v 0) (.k (.int 2))]]))]
theorem Gr:ab.fn 766=J ⟨[0],[],4,xG⟩:=by kernel_rfl
noncomputable def oB:List N:=[.iff (.cmp (.v 0) [.Is] [.k .none]) [.ret (J (.tup [.k (.str (Y "continue"))]))] [],.iff (.cmp (.sub (.v 0) (.k (.int 0))) [.Eq] [.k (.str (Y "lif"))]) [.ret (J (.tup [.k (.str (Y "lif")),.call (.k (.NS (.ref 766))) [.sub (.v 0) (.k (.int 1))],.call (.k (.NS (.ref 773))) [.sub (.v 0) (.k (.int 2))]]))] [],.asg (.tup [1,2,3,4,5]) (.v 0),.iff (.cmp (.v 3) [.Eq] [.k (.int 0)]) [.ret (J (.tup [.k (.str (Y "assign")),.call (.k (.NS (.ref 752))) [.v 2],.tup [.k (.str (Y "add")),.k (.int 0),.call (.k (.NS (.ref 752))) [.v 4],.call (.k (.NS (.ref 759))) [.v 5]]]))] [],.ret (J (.tup [.k (.str (Y "assign")),.call (.k (.NS (.ref 752))) [.v 2],.tup [.k (.str (Y "sub")),.k (.int 0),.call (.k (.NS (.ref 759))) [.v 5],.call (.k (.NS (.ref 752))) [.v 4]]]))]
theorem rx:ab.fn 773=J ⟨[0],[],11,oB⟩:=by kernel_rfl
noncomputable def xH:List N:=[.fr (.name 4) (.over (.v 0)) [.asg (.name 5) (.sub (.v 4) (.k (.int 0))),.iff (.cmp (.v 5) [.Eq] [.k (.str (Y "if"))]) [.expr (.call (.k (.NS (.ref 787))) [.v 4,.v 1,.v 2,.v 3])] [.iff (.cmp (.v 5) [.Eq] [.k (.str (Y "do"))]) [.expr (.call (.k (.NS (.ref 794))) [.v 4,.v 1,.v 2,.v 3,.k (.int 0)])] [.iff (.cmp (.v 5) [.In] [.tup [.k (.str (Y "exit")),.k (.str (Y "cycle"))]]) [.asg (.name 6) (.sub (.sub (.v 2) (.sub (.v 4) (.k (.int 1)))) (.Oe (.cmp (.v 5) [.Eq] [.k (.str (Y "cycle"))]) (.k (.int 0)) (.k (.int 1)))),.expr (.NY (.v 1) (Y "append") [.tup [.k (.int 0),.tup [.k (.str (Y "lif")),.call (.k (.NS (.ref 766))) [.sub (.v 4) (.k (.int 2))],.tup [.k (.str (Y "goto")),.v 6]]]])] [.iff (.cmp (.v 5) [.Eq] [.k (.str (Y "end"))]) [.expr (.NY (.v 1) (Y "append") [.tup [.k (.int 0),.tup [.k (.str (Y "lif")),.call (.k (.NS (.ref 766))) [.sub (.v 4) (.k (.int 1))],.tup [.k (.str (Y "return")),.k .none]]]])] [.iff (.cmp (.v 5) [.In] [.tup [.k (.str (Y "switch")),.k (.str (Y "sign")),.k (.str (Y "way"))]]) [.expr (.call (.k (.NS (.ref 799))) [.v 4,.v 1,.v 2,.v 3])] [.expr (.NY (.v 1) (Y "append") [.tup [.k (.int 0),.call (.k (.NS (.ref 773))) [.v 4]]])]]]]]]]
theorem Gs:ab.fn 780=J ⟨[0,1,2,3],[],12,xH⟩:=by kernel_rfl
noncomputable def xI:List N:=[.asg (.name 4) (.k (.str (Y "if"))),.fr (.tup [5,6]) (.over (.sub (.v 0) (.k (.int 1)))) [.expr (.NY (.v 1) (Y "append") [.tup [.k (.int 0),.tup [.v 4,.call (.k (.NS (.ref 766))) [.v 5]]]]),.expr (.call (.k (.NS (.ref 780))) [.v 6,.v 1,.v 2,.v 3]),.asg (.name 4) (.k (.str (Y "elseif")))],.iff (.cmp (.sub (.v 0) (.k (.int 2))) [.IsNot] [.k .none]) [.expr (.NY (.v 1) (Y "append") [.tup [.k (.int 0),.tup [.k (.str (Y "else"))]]]),.expr (.call (.k (.NS (.ref 780))) [.sub (.v 0) (.k (.int 2)),.v 1,.v 2,.v 3])] [],.expr (.NY (.v 1) (Y "append") [.tup [.k (.int 0),.tup [.k (.str (Y "endif"))]]])]
theorem Gt:ab.fn 787=J ⟨[0,1,2,3],[],9,xI⟩:=by kernel_rfl
noncomputable def oC:List N:=[.asg (.tup [5,6,7,8,9,10,11,12,13]) (.v 0),.asg (.name 14) (.or [.v 4,.call (.k (.NS (.ref 705))) [.v 3]]),.asg (.name 15) (.call (.k (.NS (.ref 705))) [.v 3]),.asg (.item (.v 2) (.v 6)) (.tup [.v 14,.v 15]),.expr (.NY (.v 1) (Y "append") [.tup [.k (.int 0),.tup [.k (.str (Y "do")),.v 14,.call (.k (.NS (.ref 752))) [.v 7],.call (.k (.NS (.ref 759))) [.v 8],.call (.k (.NS (.ref 759))) [.v 9],.call (.k (.NS (.ref 759))) [.v 10]]]]),.expr (.call (.k (.NS (.ref 780))) [.v 11,.v 1,.v 2,.v 3]),.iff (.cmp (.v 13) [.IsNot] [.k .none]) [.expr (.call (.k (.NS (.ref 794))) [.v 13,.v 1,.v 2,.v 3,.v 14])] [.expr (.NY (.v 1) (Y "append") [.tup [.v 14,.call (.k (.NS (.ref 773))) [.v 12]]])],.iff (.cmp (.v 4) [.Eq] [.k (.int 0)]) [.expr (.NY (.v 1) (Y "append") [.tup [.v 15,.tup [.k (.str (Y "continue"))]]])] []]
theorem ry:ab.fn 794=J ⟨[0,1,2,3,4],[],22,oC⟩:=by kernel_rfl
noncomputable def oD:List N:=[.asg (.name 4) (.Oe (.cmp (.sub (.v 0) (.k (.int 0))) [.Eq] [.k (.str (Y "way"))]) (.sub (.v 0) (.k (.int 3))) (.sub (.v 0) (.k (.int 2)))),.asg (.name 5) (.comp (.call (.k (.NS (.ref 705))) [.v 3]) [1] Qp Qq (.v 4) [(3,3)] 4),.asg (.name 6) (.call (.k (.NS (.ref 705))) [.v 3]),.iff (.cmp (.sub (.v 0) (.k (.int 0))) [.Eq] [.k (.str (Y "way"))]) [.expr (.NY (.v 1) (Y "append") [.tup [.k (.int 0),.tup [.k (.str (Y "setlabel")),.sub (.v 5) (.sub (.v 0) (.k (.int 1))),.k (.str (Y "L"))]]]),.expr (.NY (.v 1) (Y "append") [.tup [.k (.int 0),.tup [.k (.str (Y "agoto")),.k (.str (Y "L")),.Oe (.sub (.v 0) (.k (.int 2))) (.v 5) (.lst [])]]])] [.iff (.cmp (.sub (.v 0) (.k (.int 0))) [.Eq] [.k (.str (Y "sign"))]) [.expr (.NY (.v 1) (Y "append") [.tup [.k (.int 0),.tup [.k (.str (Y "aif")),.call (.k (.NS (.ref 752))) [.sub (.v 0) (.k (.int 1))],.sub (.v 5) (.k (.int 0)),.sub (.v 5) (.k (.int 1)),.sub (.v 5) (.k (.int 2))]]])] [.expr (.NY (.v 1) (Y "append") [.tup [.k (.int 0),.tup [.k (.str (Y "cgoto")),.v 5,.call (.k (.NS (.ref 752))) [.sub (.v 0) (.k (.int 1))]]]]),.expr (.call (.k (.NS (.ref 780))) [.sub (.v 0) (.k (.int 3)),.v 1,.v 2,.v 3]),.expr (.NY (.v 1) (Y "append") [.tup [.k (.int 0),.tup [.k (.str (Y "goto")),.v 6]]])]],.fr (.name 7) (.range (.call (.k (.NS (.builtin "len"))) [.v 4])) [.expr (.NY (.v 1) (Y "append") [.tup [.sub (.v 5) (.v 7),.tup [.k (.str (Y "continue"))]]]),.expr (.call (.k (.NS (.ref 780))) [.sub (.v 4) (.v 7),.v 1,.v 2,.v 3]),.expr (.NY (.v 1) (Y "append") [.tup [.k (.int 0),.tup [.k (.str (Y "goto")),.v 6]]])],.expr (.NY (.v 1) (Y "append") [.tup [.v 6,.tup [.k (.str (Y "continue"))]]])]
theorem rz:ab.fn 799=J ⟨[0,1,2,3],[],13,oD⟩:=by kernel_rfl
noncomputable def xJ:List N:=[.asg (.tup [2,3]) (.tup [.sub (.v 1) (.sub (.v 0) (.k (.int 1))),.sub (.v 0) (.k (.int 2))]),.ret (J (.sub (.Of [.k (.str (Y "lt")),.cmp (.v 2) [.Lt] [.v 3],.k (.str (Y "le")),.cmp (.v 2) [.LtE] [.v 3],.k (.str (Y "eq")),.cmp (.v 2) [.Eq] [.v 3],.k (.str (Y "ne")),.cmp (.v 2) [.NotEq] [.v 3],.k (.str (Y "gt")),.cmp (.v 2) [.Gt] [.v 3],.k (.str (Y "ge")),.cmp (.v 2) [.GtE] [.v 3]]) (.sub (.v 0) (.k (.int 0)))))]
theorem Gu:ab.fn 806=J ⟨[0,1],[],4,xJ⟩:=by kernel_rfl
noncomputable def rA:List N:=[.iff (.cmp (.sub (.v 0) (.k (.int 0))) [.Eq] [.k (.str (Y "lif"))]) [.iff (.call (.k (.NS (.ref 806))) [.sub (.v 0) (.k (.int 1)),.v 1]) [.expr (.call (.k (.NS (.ref 813))) [.sub (.v 0) (.k (.int 2)),.v 1])] [],.ret U] [],.asg (.tup [2,3,4,5,6]) (.v 0),.asg (.item (.v 1) (.v 3)) (.Oe (.cmp (.v 4) [.Eq] [.k (.int 0)]) (.bin .add (.sub (.v 1) (.v 5)) (.v 6)) (.bin .sub (.v 6) (.sub (.v 1) (.v 5))))]
theorem xK:ab.fn 813=J ⟨[0,1],[],9,rA⟩:=by kernel_rfl
noncomputable def xL:List N:=[.fr (.name 2) (.over (.v 0)) [.asg (.name 3) (.sub (.v 2) (.k (.int 0))),.asg (.name 4) (.tup [.k (.str (Y "on"))]),.iff (.cmp (.v 3) [.Eq] [.k (.str (Y "do"))]) [.asg (.name 4) (.call (.k (.NS (.ref 827))) [.v 2,.v 1])] [.iff (.cmp (.v 3) [.In] [.tup [.k (.str (Y "set")),.k (.str (Y "lif"))]]) [.expr (.call (.k (.NS (.ref 813))) [.v 2,.v 1])] [.iff (.cmp (.v 3) [.Eq] [.k (.str (Y "if"))]) [.asg (.name 5) (.or [.sub (.v 2) (.k (.int 2)),.lst []]),.fr (.tup [6,7]) (.rev (.sub (.v 2) (.k (.int 1)))) [.iff (.call (.k (.NS (.ref 806))) [.v 6,.v 1]) [.asg (.name 5) (.v 7)] []],.asg (.name 4) (.call (.k (.NS (.ref 820))) [.v 5,.v 1])] [.iff (.cmp (.v 3) [.Eq] [.k (.str (Y "way"))]) [.asg (.name 4) (.call (.k (.NS (.ref 820))) [.sub (.sub (.v 2) (.k (.int 3))) (.sub (.v 2) (.k (.int 1))),.v 1])] [.iff (.cmp (.v 3) [.Eq] [.k (.str (Y "sign"))]) [.asg (.name 8) (.sub (.v 1) (.sub (.v 2) (.k (.int 1)))),.asg (.name 4) (.call (.k (.NS (.ref 820))) [.sub (.sub (.v 2) (.k (.int 2))) (.Oe (.cmp (.v 8) [.Lt] [.k (.int 0)]) (.k (.int 0)) (.Oe (.cmp (.v 8) [.Eq] [.k (.int 0)]) (.k (.int 1)) (.k (.int 2)))),.v 1])] [.iff (.cmp (.v 3) [.Eq] [.k (.str (Y "switch"))]) [.asg (.name 8) (.sub (.v 1) (.sub (.v 2) (.k (.int 1)))),.asg (.name 4) (.call (.k (.NS (.ref 820))) [.Oe (.cmp (.k (.int 0)) [.Lt,.LtE] [.v 8,.call (.k (.NS (.builtin "len"))) [.sub (.v 2) (.k (.int 2))]]) (.sub (.sub (.v 2) (.k (.int 2))) (.bin .sub (.v 8) (.k (.int 1)))) (.sub (.v 2) (.k (.int 3))),.v 1])] [.iff (.cmp (.v 3) [.Eq] [.k (.str (Y "end"))]) [.iff (.call (.k (.NS (.ref 806))) [.sub (.v 2) (.k (.int 1)),.v 1]) [.ret (J (.tup [.k (.str (Y "end"))]))] []] [.iff (.call (.k (.NS (.ref 806))) [.sub (.v 2) (.k (.int 2)),.v 1]) [.ret (J (.tup [.v 3,.sub (.v 2) (.k (.int 1))]))] []]]]]]]],.iff (.cmp (.v 4) [.NotEq] [.tup [.k (.str (Y "on"))]]) [.ret (J (.v 4))] []],.ret (J (.tup [.k (.str (Y "on"))]))]
theorem Gv:ab.fn 820=J ⟨[0,1],[],15,xL⟩:=by kernel_rfl
noncomputable def xM:List N:=[.asg (.tup [2,3,4,5,6,7,8,9,10]) (.v 0),.iff (.cmp (.v 7) [.Eq] [.k (.int 0)]) [.ret (J (.tup [.k (.str (Y "fault"))]))] [],.asg (.name 11) (.k (.int 0)),.asg (.name 12) (.v 5),.O3 (.Oe (.cmp (.v 7) [.Gt] [.k (.int 0)]) (.cmp (.v 12) [.LtE] [.v 6]) (.cmp (.v 12) [.GtE] [.v 6])) [.aug (.name 11) .add (.k (.int 1)),.aug (.name 12) .add (.v 7)],.asg (.item (.v 1) (.v 4)) (.v 5),.fr (.name 13) (.range (.v 11)) [.asg (.name 14) (.call (.k (.NS (.ref 820))) [.v 8,.v 1]),.iff (.and [.cmp (.v 14) [.Eq] [.tup [.k (.str (Y "on"))]],.cmp (.v 10) [.IsNot] [.k .none]]) [.asg (.name 14) (.call (.k (.NS (.ref 827))) [.v 10,.v 1])] [],.iff (.cmp (.v 14) [.Eq] [.tup [.k (.str (Y "exit")),.v 3]]) [.ret (J (.tup [.k (.str (Y "on"))]))] [],.iff (.cmp (.v 14) [.NotIn] [.lst [.tup [.k (.str (Y "on"))],.tup [.k (.str (Y "cycle")),.v 3]]]) [.ret (J (.v 14))] [],.iff (.cmp (.v 9) [.IsNot] [.k .none]) [.expr (.call (.k (.NS (.ref 813))) [.v 9,.v 1])] [],.aug (.item (.v 1) (.v 4)) .add (.v 7)],.ret (J (.tup [.k (.str (Y "on"))]))]
theorem Gw:ab.fn 827=J ⟨[0,1],[],19,xM⟩:=by kernel_rfl
noncomputable def xN:List N:=[.asg (.attr (.v 0) (Y "width")) (.v 1),.asg (.attr (.v 0) (Y "real_digits")) (.v 2),.asg (.attr (.v 0) (Y "double_digits")) (.v 3),.asg (.attr (.v 0) (Y "top_exponent")) (.v 4),.asg (.attr (.v 0) (Y "steps")) (.v 5),.asg (.attr (.v 0) (Y "continuations")) (.v 6),.asg (.attr (.v 0) (Y "columns")) (.v 7),.asg (.attr (.v 0) (Y "depth")) (.v 8)]
theorem Gx:ab.fn 662=J ⟨[0,1,2,3,4,5,6,7,8],iX,9,xN⟩:=by kernel_rfl
noncomputable def rB:List N:=[.asg (.name 1) (.lst [.O2 (.v 0) U (J (.k (.int 40))),.k (.int 0),.k (.int 9),.k (.int 100)]),.asg (.name 2) (.call (.k (.NS (.ref 745))) [.v 1,.k (.int 0),.lst [],.k (.int 4)]),.asg (.name 3) (.lst []),.expr (.call (.k (.NS (.ref 780))) [.v 2,.v 3,.Of [],.v 1]),.asg (.name 4) (.call (.k (.NS (.ref 686))) [.k (.str (Y "program")),.k (.str (Y "P"))]),.asg (.attr (.v 4) (Y "statements")) (.bin .add (.comp (.tup [.v 1,.v 2,.k (.int 1)]) [1,2] Qq Qq (.v 3) [] 3) (.lst [.tup [.k (.int 0),.tup [.k (.str (Y "end"))],.k (.int 1)]])),.asg (.name 5) (.call (.k (.NS (.ref 141))) [.k (.int 7),.k (.int 0)]),.asg (.name 6) (.call (.k (.NS (.ref 647))) []),.expr (.NY (.v 6) (Y "update") [.call (.k (.NS (.ref 549))) []]),.asg (.name 7) (.call (.k (.NS (.ref 330))) [.v 5,.call (.k (.NS (.ref 665))) [],.Of [.k (.str (Y "P")),.v 4],.k .none,.call (.k (.NS (.ref 409))) [],.v 6]),.asg (.attr (.v 7) (Y "operations")) (.Of [.k (.int 0),.k (.NS (.ref 292))]),.asg (.name 8) (.lst [.bin .sub (.call (.k (.NS (.ref 698))) [.v 1,.k (.int 7)]) (.k (.int 3)),.bin .sub (.call (.k (.NS (.ref 698))) [.v 1,.k (.int 7)]) (.k (.int 3)),.k (.int 2),.k (.int 0),.k (.int 0),.k (.int 0)]),.fr (.name 9) (.range (.k (.int 6))) [.asg (.item (.attr (.v 7) (Y "frame")) (.sub (.k (.lst [.str (Y "A"),.str (Y "B"),.str (Y "C"),.str (Y "I"),.str (Y "J"),.str (Y "K")])) (.v 9))) (.tup [.k (.int 0),.v 9,.k (.int 0),.tup []]),.expr (.NY (.v 5) (Y "store") [.tup [.k (.int 0),.v 9,.k (.int 0),.tup []],.sub (.v 8) (.v 9)])],.asg (.item (.attr (.v 7) (Y "frame")) (.k (.str (Y "L")))) (.tup [.k (.int 0),.k (.int 6),.k (.int 0),.tup []]),.asg (.name 10) (.k (.bool Qq)),.asg (.name 11) (.k (.int 0))]
noncomputable def rC:List N:=[.asg (.name 11) (.call (.k (.NS (.ref 500))) [.v 7,.v 4,.k (.int 0)])]
noncomputable def mI:List N:=[.asg (.name 12) (.call (.k (.NS (.ref 820))) [.v 2,.v 8]),.iff (.or [.cmp (.v 10) [.NotEq] [.cmp (.v 12) [.Eq] [.tup [.k (.str (Y "fault"))]]],.cmp (.v 11) [.NotEq] [.k (.int 0)]]) [.ret (J (.k (.bool Qq)))] [],.ret (J (.cmp (.comp (.NY (.v 3) (Y "load") [.tup [.k (.int 0),.v 1,.k (.int 0),.tup []]]) [1] Qp Qp (.k (.int 6)) [(3,5)] 4) [.Eq] [.v 8]))]
theorem Gy:mu=rB++(.try rC [.asg (.name 10) (.k (.bool Qp))]::mI):=by kernel_rfl
theorem Gz:eK.length=30:=by kernel_rfl
namespace Cx
variable{a hc d M8 Nl:I}{e B G a2 MK M3 MN Nf Nj hi Nm Nt Nb MZ M0 M1:Qo}{s MX wv zz Fb MR M9 Ng MU MY:V}{b:aD}{T l z v h1 l1 m2 C MO np us:Nat}{f:aV}{y Nn M6 Nc:List V}{o t D E cp u bd sb ns MS MP Nh No l2:Int}{O hx:List (am×V)}{A r:List N}{p:an}{ML:bt}{as:aK}{j:aR}{l0:aa}{n:aO}{i:aq}{bi:Option Int}{ho M4 Nq:Bool}{L:Bool→I→Prop}{b2:List (Qo×aK)}{ap hn:List aW}{If:List Qo}{c2 hh rt MV MQ M5:Option V}{ca:Option a3}{ep:Nat→Option (Nat×Int)}{cn MM:aP}{x:aJ}{M2:Nat→Option Nat}{Na:Q5}{v2:List (List Nat)}{Nr:bH}{MJ:List (Int×Nat×Int)}{Nd MT Ns:List Nat}{Nk:a6}{F0:List Int}{Np:List Q5}{M7:aY}{kw:bX}{Nu Nv Nw:Type}
theorem gz{a:Bool}{b:Prop}(c:a=Qp)(d:b):c5 a b q:=⟨λf=>d,λe=>bG (c.symm.trans e)⟩
theorem dK{a:Bool}{b:Prop}(c:a=Qq)(d:q):c5 a b q:=⟨λe=>bG (e.symm.trans c),λf=>d⟩
theorem rD{c d:V}{b:Bool}(e:kb Na c d a=J b)(f:L b a):co Na c d L a:=⟨b,e,f⟩
theorem d9{c:V}{b:Bool}(d:pL c a=J b)(e:L b a):gM c L a:=⟨b,d,e⟩
theorem im{d:QA}{e:V→List V→Prop}{b:V}{c:List V}(f:pQ n g d a=J (b,c))(h:e b c):gl n g d a e:=⟨b,c,f,h⟩
def xO:Option V→Option V
 |some (.int o)=>some (.int (-o))
 |_=>U
def i6:Option V→Option Int
 |some (.int o)=>some o
 |_=>U
def rE(a:dP)(b c:Option V):Option V:=match i6 b with
 |some o=>(match i6 c with
  |some t=>(match a with
   |.add=>some (.int (o+t))
   |.sub=>some (.int (o-t))
   |_=>none)
  |none=>none)
 |none=>none
def rF(a:List V)(b:Option Int):Option V:=match b with
 |some l=>bW a l
 |none=>none
def xP(b:Option V)(a:Option V):Option V:=match b with
 |some (.tup y)=>rF y (i6 a)
 |some (.lst y)=>rF y (i6 a)
 |_=>U
def xQ:Option (List V)→Option V
 |some y=>some (.tup y)
 |none=>none
def xR(a:Option V)(b:Option (List V)):Option (List V):=match a with
 |some s=>(match b with
  |some y=>some (s::y)
  |none=>none)
 |none=>none
mutual
noncomputable def eR(a:aq):aa→Option V
 |.k s=>J s
 |.v z=>(a[z]?).join
 |.tup b2=>xQ (oE a b2)
 |.bin as e r=>rE as (eR a e) (eR a r)
 |.neg e=>xO (eR a e)
 |.sub e z=>xP (eR a e) (eR a z)
 |_=>U
noncomputable def oE(a:aq):List aa→Option (List V)
 |[]=>J []
 |l0::O=>xR (eR a l0) (oE a O)
end
theorem GA{a:Option (List V)}(b:xQ a=some s):∃y,a=some y∧s=.tup y:=by
 induction a using Qm with
 |none=>exact ag b
 |some y=>exact(aU y rfl ((Qj b).symm))
theorem GB{a:Option V}{b:Option (List V)}{d:List V}(c:xR a b=some d):∃s y,a=some s∧b=some y∧d=s::y:=by
 induction a using Qm with
 |none=>exact ag c
 |some s=>induction b using Qm with
  |none=>exact ag c
  |some y=>exact(ee s y rfl rfl ((Qj c).symm))
theorem rG{a:Option V}(b:i6 a=some o):a=some (.int o):=by
 induction a using Qm with
 |none=>exact ag b
 |some c=>induction c using V.casesOn<;>first|exact ag b|(obtain rfl:=Qj b;rfl)
theorem GC{a:Option V}(b:xO a=some s):∃o,a=some (.int o)∧s=.int (-o):=by
 induction a using Qm with
 |none=>exact ag b
 |some c=>induction c using V.casesOn<;>first|exact ag b|exact(aU _ rfl ((Qj b).symm))
theorem GD{c b:Option V}(a:xP c b=some s):∃MR y l,c=some MR∧(MR=.tup y∨MR=.lst y)∧b=some (.int l)∧bW y l=some s:=by
 have g:∀{y:List V},rF y (i6 b)=some s→∃l,b=some (.int l)∧bW y l=some s:=λa=>by
  generalize d:i6 b=h;induction h using Qm with
  |none=>rw [d]at a;exact ag a
  |some l=>rw [d]at a;exact(aU l (rG d) a)
 induction c using Qm with
 |none=>exact ag a
 |some MR=>
  induction MR using V.casesOn<;>first|exact ag a|skip
  ·refine ae (g a) λl e f=>?_;exact⟨_,_,l,rfl,.inl rfl,e,f⟩
  ·refine ae (g a) λl e f=>?_;exact⟨_,_,l,rfl,.inr rfl,e,f⟩
theorem GF{d:dP}{e f:Option V}(c:rE d e f=some s):∃o t,e=some (.int o)∧f=some (.int t)∧∀{b:aD}{a:I},b s a→fA d (.int o) (.int t) b a:=by
 unfold rE at c;generalize g:i6 e=j;induction j using Qm with
 |none=>rw [g]at c;exact ag c
 |some o=>
  rw [g]at c;cases h:i6 f with
  |none=>rw [h]at c;exact ag c
  |some t=>
   rw [h]at c;refine(ee o t (rG g) (rG h) (λ{b a} i=>?_));induction d using dP.casesOn<;>first|exact ag c|(rw [←Qj c]at i;exact i)
section
variable(n:aO)(j:aR)(i:aq)(b:aD)(f:aV)(L:Bool→I→Prop)
abbrev GG(c:dP)(d:V)(b:aD):aD:=λt a=>fA c d t b a
abbrev GH(c:dP)(d:aa):aD:=λo a=>av n j d i (GG c o b) f a
abbrev GI:aD:=λo a=>gM o (λr a=>b (.bool (!r)) a) a
abbrev rH(c d:aa):Bool→I→Prop:=λA a=>c5 A (av n j c i b f a) (av n j d i b f a)
abbrev GJ:Bool→I→Prop:=λA a=>b (.bool A) a
abbrev oF(b:List Q5)(c:List aa)(d:Bool→I→Prop):aD:=λo a=>iL n j o b c i d f a
abbrev rI(c:V)(b:aD)(f:aV):List V→I→Prop:=λy a=>j c y b f a
abbrev GK(c:List aa):aD:=λd a=>d0 n j c i (rI j d b f) f a
abbrev GL(c:V)(d:List V)(b:aD)(f:aV):List V→I→Prop:=λy a=>j c (d++y) b f a
abbrev GN(a:List aa)(c:I):V→List V→Prop:=λu b2=>d0 n j a i (GL j u b2 b f) f c
abbrev GO(c:QA)(d:List aa):aD:=λe a=>gl n e c a (GN n j i b f d a)
abbrev xS(c:QA)(b:aD):aD:=λd a=>cB n d c b a
abbrev xT(c:V)(b:aD):aD:=λd a=>hb c d b a
abbrev oG(c:aa):aD:=λd a=>av n j c i (xT d b) f a
abbrev GP:List V→I→Prop:=λy a=>b (.tup y) a
abbrev GQ:List V→I→Prop:=λy a=>eW y b a
abbrev GR:List V→I→Prop:=λy a=>mb (k6 y) b a
abbrev GS(c:List aa):aD:=λs a=>gM s (λr _=>c5 r (b s a) (iK n j c i b f a)) a
abbrev GU(c:List aa):aD:=λs a=>gM s (λr _=>c5 r (kd n j c i b f a) (b s a)) a
abbrev GV(b:V)(c:List V→I→Prop):List V→I→Prop:=λy a=>c (b::y) a
abbrev GW(b:List aa)(c:List V→I→Prop)(f:aV):aD:=λs a=>d0 n j b i (GV s c) f a
abbrev GX(b:Option V→I→Prop):aD:=λs a=>b (J s) a
abbrev rJ(b:Q5)(c:V)(d:Bool→I→Prop):aD:=λt a=>co b c t d a
abbrev GY(c:Q5)(d:V)(e:List Q5)(g:List aa)(b:Bool→I→Prop):aD:=λt a=>co c d t (λA _=>c5 A (iL n j t e g i b f a) (b Qq a)) a
abbrev GZ:Bool→I→Prop:=λr a=>L (!r) a
abbrev G0(b c:aa)(d:Bool→I→Prop):Bool→I→Prop:=λA a=>c5 A (bN n j b (av n j b i) i d f a) (bN n j c (av n j c i) i d f a)
abbrev oH:aD:=λs a=>gM s L a
abbrev G1(c:List aa)(b:Bool→I→Prop):Bool→I→Prop:=λr a=>c5 r (hP n j c i b f a) (b Qq a)
abbrev G2(c:List aa)(b:Bool→I→Prop):Bool→I→Prop:=λr a=>c5 r (b Qp a) (hQ n j c i b f a)
abbrev xU:bF:=λa1 _ a=>b (fC a1) a
abbrev rK:bt:=λ_ a=>f a
end
section
variable(n:aO)(j:aR)(A:List N)(i:aq)(b:bF)(f:bt)
abbrev xV(c:Nat):aD:=λs a=>aw n j A (i.set c (J s)) b f a
abbrev G3(d:List Nat):aD:=λs a=>∃c,kc Qq d s i=J c∧aw n j A c b f a
abbrev xW(c:QA)(d:V):aD:=λe a=>hN n e c d (aw n j A i b f) a
abbrev xX(c:aa)(d:QA):aD:=λs a=>av n j c i (xW n j A i b f d s) (f i) a
abbrev G4(c d:V):aD:=λe a=>iJ d e c (aw n j A i b f) a
abbrev G5(c:aa)(d:V):aD:=λe a=>av n j c i (G4 n j A i b f d e) (f i) a
abbrev G6(c d:aa):aD:=λs a=>av n j c i (G5 n j A i b f d s) (f i) a
abbrev G7:aD:=λ_ a=>aw n j A i b f a
abbrev xY(c:aq)(b:bF):aD:=λs a=>b (.N9 s) c a
abbrev xZ(c d:List N):Bool→I→Prop:=λo a=>c5 o (aw n j (c++A) i b f a) (aw n j (d++A) i b f a)
end
section
mutual
theorem e4:∀{l0:aa}{s:V}{b:aD},eR i l0=J s→b s a→av n j l0 i b f a
 |.k t,s,b,c,d=>by obtain rfl:=Qj c;exact d
 |.v m,s,b,c,d=>⟨s,c,.inl d⟩
 |.tup A,s,b,c,d=>by
  refine ae (GA c) λp w q=>?_;clear c;subst q;exact rL (L:=λp h=>b (.tup p) h) w d
 |.bin u v x,s,b,c,d=>by
  exact bQ (GF c) λe o k g r=>e4 (b:=λe h=>av n j x i (λo l=>fA u e o b l) f h) k (e4 (b:=λo l=>fA u (.int e) o b l) g (r d))
 |.neg v,s,b,c,d=>by
  refine ae (GC c) λe k q=>?_;clear c;subst q;exact e4 (b:=λe h=>dB e λm=>b (.int (-m)) h) k d
 |.sub v m,s,b,c,d=>by
  refine iB (GD c) λt p B k g r y=>e4 (b:=oG n j i b f m) k (e4 (b:=λz l=>hb t z b l) r ?_);rcases g with g|g<;>(refine Q (g ..) ?_;exact⟨s,y,d⟩)
 |.not _,_,_,c,_=>ag c
 |.Oe ..,_,_,c,_=>ag c
 |.and _,_,_,c,_=>ag c
 |.or _,_,_,c,_=>ag c
 |.cmp ..,_,_,c,_=>ag c
 |.call ..,_,_,c,_=>ag c
 |.NY ..,_,_,c,_=>ag c
 |.attr ..,_,_,c,_=>ag c
 |.O2 ..,_,_,c,_=>ag c
 |.lst _,_,_,c,_=>ag c
 |.Of _,_,_,c,_=>ag c
 |.comp ..,_,_,c,_=>ag c
theorem rL:∀{b2:List aa}{y:List V}{L:List V→I→Prop},oE i b2=J y→L y a→d0 n j b2 i L f a
 |[],y,L,b,c=>by obtain rfl:=Qj b;exact c
 |l0::O,y,L,b,c=>by
  refine bQ (GB b) λd m g h k=>?_;clear b;subst k;exact e4 (b:=λd l=>d0 n j O i (λy e=>L (d::y) e) f l) g (rL (L:=λy e=>L (d::y) e) h c)
end
end
def mJ:V→Bool
 |.ref _=>Qq
 |_=>Qp
def rM(a:Q5)(b c:Option V):Option Bool:=match b with
 |some o=>(match c with
  |some t=>(match mJ o&&mJ t with
   |true=>kb a o t λd=>none
   |false=>none)
  |none=>none)
 |none=>none
theorem oI{b:V}(c:mJ b=Qp):dQ b (λZ=>U)=dQ b a:=by
 induction b using V.casesOn<;>first|exact bG c.symm|rfl
theorem G8{d e:Option V}{g:Bool}(b:rM Na d e=some g):∃o t,d=some o∧e=some t∧kb Na o t a=some g:=by
 induction d using Qm with
 |none=>exact ag b
 |some o=>
  induction e using Qm with
  |none=>exact ag b
  |some t=>
   refine(ee o t rfl rfl ?_);unfold rM at b;cases c:mJ o&&mJ t with
   |false=>dsimp only at b;rw [c]at b;exact ag b
   |true=>
    dsimp only at b;rw [c]at b;refine ar (QC.mp c) λh f=>?_;have i:l7 o t (λj=>none)=l7 o t a:=by clear b c;induction t using V.casesOn<;>first|exact bG f.symm|rfl
    refine Q (Rj (b ..)) ?_;clear b;induction Na using PySem.CmpOp.casesOn<;>first|rfl|(show ka (dQ o a) (dQ t a)=ka (dQ o _) (dQ t _);exact Q (oI h ..) (Q (oI f ..) rfl))|(show(ka (dQ o a) (dQ t a)).map _=(ka (dQ o _) (dQ t _)).map _;exact Q (oI h ..) (Q (oI f ..) rfl))|exact i.symm|exact QP (Option.map (!·)) i.symm
def x0:Option Bool→Option Bool
 |some r=>some (!r)
 |none=>none
def x1(a b:Option Bool):Option Bool:=match a with
 |some true=>b
 |some false=>some false
 |none=>none
def x2(a b:Option Bool):Option Bool:=match a with
 |some true=>some true
 |some false=>b
 |none=>none
theorem G9{a:Option Bool}{b:Bool}(c:x0 a=some b):∃r,a=some r∧b=!r:=by
 induction a using Qm with
 |none=>exact ag c
 |some r=>exact(aU r rfl ((Qj c).symm))
theorem Ha{a d:Option Bool}{b:Bool}(c:x1 a d=some b):(a=some true∧d=some b)∨(a=some false∧b=false):=by
 induction a using Qm with
 |none=>exact ag c
 |some e=>induction e using Qz with
  |true=>exact .inl ⟨rfl,c⟩
  |false=>exact .inr ⟨rfl,(Qj c).symm⟩
theorem Hb{a d:Option Bool}{b:Bool}(c:x2 a d=some b):(a=some false∧d=some b)∨(a=some true∧b=true):=by
 induction a using Qm with
 |none=>exact ag c
 |some e=>induction e using Qz with
  |false=>exact .inl ⟨rfl,c⟩
  |true=>exact .inr ⟨rfl,(Qj c).symm⟩
mutual
noncomputable def io(a:aq):aa→Option Bool
 |.cmp e Np v2=>(match Np with
  |[Na]=>(match v2 with
   |[r]=>rM Na (eR a e) (eR a r)
   |_=>U)
  |_=>U)
 |.not e=>x0 (io a e)
 |.and b2=>rN a b2
 |.or b2=>rO a b2
 |_=>U
noncomputable def rN(a:aq):List aa→Option Bool
 |[]=>J Qp
 |o::A=>x1 (io a o) (rN a A)
noncomputable def rO(a:aq):List aa→Option Bool
 |[]=>J Qq
 |o::A=>x2 (io a o) (rO a A)
end
section
mutual
theorem hp:∀{ca:aa}{r:Bool}{L:Bool→I→Prop}{H2:aD→aV→I→Prop},io i ca=J r→L r a→bN n j ca H2 i L f a
 |.cmp l e g,d,L,H2,b,c=>by
  induction e using QH with
  |nil=>exact ag b
  |cons k e=>induction e using QH with
   |cons _ _=>exact ag b
   |nil=>induction g using QH with
    |nil=>exact ag b
    |cons r g=>induction g using QH with
     |cons _ _=>exact ag b
     |nil=>
      exact bQ (G8 (a:=a) b) λm u h o p=>e4 (b:=oF n j i f [k] [r] L) h (e4 (b:=rJ k m L) o ⟨d,p,c⟩)
 |.not l,d,L,H2,b,c=>by
  refine ae (G9 b) λr h q=>?_;clear b;subst q;exact hp (L:=λr s=>L (!r) s) h c
 |.and t,d,L,H2,b,c=>x3 b c
 |.or t,d,L,H2,b,c=>x4 b c
 |.k _,_,_,_,b,_=>ag b
 |.v _,_,_,_,b,_=>ag b
 |.tup _,_,_,_,b,_=>ag b
 |.bin ..,_,_,_,b,_=>ag b
 |.neg _,_,_,_,b,_=>ag b
 |.sub ..,_,_,_,b,_=>ag b
 |.Oe ..,_,_,_,b,_=>ag b
 |.call ..,_,_,_,b,_=>ag b
 |.NY ..,_,_,_,b,_=>ag b
 |.attr ..,_,_,_,b,_=>ag b
 |.O2 ..,_,_,_,b,_=>ag b
 |.lst _,_,_,_,b,_=>ag b
 |.Of _,_,_,_,b,_=>ag b
 |.comp ..,_,_,_,b,_=>ag b
theorem K7{b:aa}(c:io i b=J Qp)(d:L Qp a):bN n j b H2 i L f a:=hp c d
theorem K8{b:aa}(c:io i b=J Qq)(d:L Qq a):bN n j b H2 i L f a:=hp c d
theorem x3:∀{b2:List aa}{r:Bool}{L:Bool→I→Prop},rN i b2=J r→L r a→hP n j b2 i L f a
 |[],r,L,d,c=>by obtain rfl:=Qj d;exact c
 |o::g,r,L,d,c=>by
  rcases Ha d with⟨e,h⟩|⟨e,rfl⟩
  ·exact hp (L:=λr b=>c5 r (hP n j g i L f b) (L Qq b)) e (gz rfl (x3 h c))
  ·exact hp (L:=λr b=>c5 r (hP n j g i L f b) (L Qq b)) e (dK rfl c)
theorem x4:∀{b2:List aa}{r:Bool}{L:Bool→I→Prop},rO i b2=J r→L r a→hQ n j b2 i L f a
 |[],r,L,d,c=>by obtain rfl:=Qj d;exact c
 |o::g,r,L,d,c=>by
  rcases Hb d with⟨e,h⟩|⟨e,rfl⟩
  ·exact hp (L:=λr b=>c5 r (L Qp b) (hQ n j g i L f b)) e (dK rfl (x4 h c))
  ·exact hp (L:=λr b=>c5 r (L Qp b) (hQ n j g i L f b)) e (gz rfl c)
end
end
section
theorem f8(c:b s a):av n j (.k s) i b f a:=c
theorem df(c:(i[z]?).join=J s)(d:b s a):av n j (.v z) i b f a:=⟨s,c,.inl d⟩
theorem rP(c:(i[z]?).join=J (.ref e))(d:a e=J (.list y))(g:b (.lst y) (a.del e)):av n j (.v z) i b f a:=⟨_,c,.inr (ee e y rfl d g)⟩
theorem x5{c:dP}{d e:aa}(g:av n j d i (GH n j i b f c e) f a):av n j (.bin c d e) i b f a:=g
theorem K9(c:b (.int (o+t)) a):fA .add (.int o) (.int t) b a:=c
theorem La(c:b (.int (o-t)) a):fA .sub (.int o) (.int t) b a:=c
theorem x6(c:cA o)(d:b (.int (o*t)) a):fA .mul (.int o) (.int t) b a:=⟨c,d⟩
theorem Lb(c:0<t)(d:t<1000000000)(e:b (.int (o/t)) a):fA .fdiv (.int o) (.int t) b a:=⟨c,d,e⟩
theorem x7(c:0<t)(d:b (.int (o%t)) a):fA .mod (.int o) (.int t) b a:=⟨c,d⟩
theorem Lc(c:0≤t)(d:t<62)(e:b (.int (2^t.toNat)) a):fA .shl (.int 1) (.int t) b a:=⟨rfl,c,d,e⟩
theorem Ld{c:aa}(d:av n j c i (GI b) f a):av n j (.not c) i b f a:=d
theorem Le{c d e:aa}(g:bN n j c (av n j c i) i (rH n j i b f d e) f a):av n j (.Oe c d e) i b f a:=g
theorem Lf{d c e:aa}(g:io i d=J Qp)(h:av n j c i b f a):av n j (.Oe d c e) i b f a:=hp (L:=rH n j i b f c e) g (gz rfl h)
theorem Lg{d e c:aa}(g:io i d=J Qq)(h:av n j c i b f a):av n j (.Oe d e c) i b f a:=hp (L:=rH n j i b f e c) g (dK rfl h)
theorem Hc{c:aa}{d:List aa}(e:av n j c i (oF n j i f Np d (GJ b)) f a):av n j (.cmp c Np d) i b f a:=e
theorem Lh{c:aa}{d:List aa}(e:av n j c i (GK n j i b f d) f a):av n j (.call c d) i b f a:=e
theorem Hd{c:V}{d:List aa}(e:d0 n j d i (rI j c b f) f a):av n j (.call (.k c) d) i b f a:=e
theorem Li{c:V}{d:List aa}(e:oE i d=J y)(g:j c y b f a):av n j (.call (.k c) d) i b f a:=rL (L:=rI j c b f) e g
theorem Lj{c:aa}{d:QA}{e:List aa}(g:av n j c i (GO n j i b f d e) f a):av n j (.NY c d e) i b f a:=g
theorem Lk{c:aa}{d:QA}(e:av n j c i (xS n d b) f a):av n j (.attr c d) i b f a:=e
theorem Ll{d:aa}{c:QA}(e:eR i d=J s)(g:cB n s c b a):av n j (.attr d c) i b f a:=e4 (b:=xS n c b) e g
theorem Lm{c d:aa}(e:av n j c i (oG n j i b f d) f a):av n j (.sub c d) i b f a:=e
theorem Ln{d c:aa}{e:V}(g:eR i d=J s)(h:eR i c=J e)(k:hb s e b a):av n j (.sub d c) i b f a:=e4 (b:=oG n j i b f c) g (e4 (b:=xT s b) h k)
theorem He{c:Int}(d:(i[z]?).join=J (.tup y))(e:bW y c=J s)(g:b s a):av n j (.sub (.v z) (.k (.int c))) i b f a:=df (n:=n) (j:=j) (f:=f) (b:=oG n j i b f (.k (.int c))) d ⟨s,e,g⟩
theorem Lo{c:aa}{d:Option aa}(e:av n j c i (λg h=>ke n j d i (λb2 k=>ke n j m i (λq M=>nx g b2 q b M) f k) f h) f a):av n j (.O2 c d m) i b f a:=e
theorem Lp{c:List aa}(d:d0 n j c i (GP b) f a):av n j (.tup c) i b f a:=d
theorem cJ{c:List aa}(d:d0 n j c i (GQ b) f a):av n j (.lst c) i b f a:=d
theorem dL{c:List aa}(d:d0 n j c i (GR b) f a):av n j (.Of c) i b f a:=d
theorem Hf{c:List aa}(d:iK n j c i b f a):av n j (.or c) i b f a:=d
theorem Hg{c:List aa}(d:kd n j c i b f a):av n j (.and c) i b f a:=d
theorem Hh{c:aa}(d:av n j c i b f a):iK n j [c] i b f a:=d
theorem Lq{c:aa}(d:av n j c i b f a):kd n j [c] i b f a:=d
theorem Hi{c d:aa}{e:List aa}(g:av n j c i (GS n j i b f (d::e)) f a):iK n j (c::d::e) i b f a:=g
theorem Hj{c d:aa}{e:List aa}(g:av n j c i (GU n j i b f (d::e)) f a):kd n j (c::d::e) i b f a:=g
theorem cK(c:y.length≤a4)(d:b (.lst y) a):eW y b a:=⟨c,.inr d⟩
theorem jM(c:y.length≤a4)(d:∀e,a e=U→b (.ref e) (a.set e (.list y))):eW y b a:=⟨c,.inl d⟩
theorem cH{b:List V→I→Prop}(c:b [] a):d0 n j [] i b f a:=c
theorem oJ{b:List V→I→Prop}{c:List aa}(d:av n j l0 i (GW n j i c b f) f a):d0 n j (l0::c) i b f a:=d
theorem Lr{b:Option V→I→Prop}(c:b U a):ke n j U i b f a:=c
theorem Ls{b:Option V→I→Prop}(c:av n j l0 i (GX b) f a):ke n j (J l0) i b f a:=c
theorem kB{b:V}{c:aa}(d:av n j c i (rJ Na b L) f a):iL n j b [Na] [c] i L f a:=d
theorem Lt{b:V}{c:aa}{d:List aa}(e:av n j c i (GY n j i f Na b (g::Np) (h::d) L) f a):iL n j b (Na::g::Np) (c::h::d) i L f a:=e
section
variable{H2:aD→aV→I→Prop}
theorem Lu{b:aa}(c:bN n j b (av n j b i) i (GZ L) f a):bN n j (.not b) H2 i L f a:=c
theorem Lv{b:List aa}(c:hP n j b i L f a):bN n j (.and b) H2 i L f a:=c
theorem Lw{b:List aa}(c:hQ n j b i L f a):bN n j (.or b) H2 i L f a:=c
theorem mK{b:aa}{c:List aa}(d:av n j b i (oF n j i f Np c L) f a):bN n j (.cmp b Np c) H2 i L f a:=d
theorem Lx{d b:aa}{c e:V}(g:eR i d=J c)(h:eR i b=J e)(k:co Na c e L a):bN n j (.cmp d [Na] [b]) H2 i L f a:=e4 (b:=oF n j i f [Na] [b] L) g (e4 (b:=rJ Na c L) h k)
theorem Ly{b c d:aa}(e:bN n j b (av n j b i) i (G0 n j i f c d L) f a):bN n j (.Oe b c d) H2 i L f a:=e
theorem Lz(b:H2 (oH L) f a):bN n j (.v z) H2 i L f a:=b
theorem LA(b:H2 (oH L) f a):bN n j (.k s) H2 i L f a:=b
theorem LB{b:aa}{c:List aa}(d:H2 (oH L) f a):bN n j (.call b c) H2 i L f a:=d
theorem LC{b c:aa}(d:H2 (oH L) f a):bN n j (.sub b c) H2 i L f a:=d
theorem Hk(b:L Qp a):hP n j [] i L f a:=b
theorem x8{b:aa}{c:List aa}(d:bN n j b (av n j b i) i (G1 n j i f c L) f a):hP n j (b::c) i L f a:=d
theorem LD(b:L Qq a):hQ n j [] i L f a:=b
theorem LF{b:aa}{c:List aa}(d:bN n j b (av n j b i) i (G2 n j i f c L) f a):hQ n j (b::c) i L f a:=d
end
theorem qi{c:Int}(d:bW y c=J s)(e:b s a):hb (.tup y) (.int c) b a:=⟨s,d,e⟩
theorem cc{c:Int}(d:bW y c=J s)(e:b s a):hb (.lst y) (.int c) b a:=⟨s,d,e⟩
theorem rQ{c:V}(d:a e=J as)(f:nw (J as) c b a):hb (.ref e) c b a:=by
 show nw (a e) c b a;refine Q (d ..) ?_;exact f
theorem c6{c:Int}(d:a e=J (.list y))(f:bW y c=J s)(g:b s a):hb (.ref e) (.int c) b a:=rQ d ⟨s,f,g⟩
theorem eB{c:V}{d:am}(f:a e=J (.dict O))(g:c.Ob=J d)(h:bA d O=J s)(i:b s a):hb (.ref e) c b a:=rQ f ⟨s,by refine Q (g ..) ?_;exact h,i⟩
theorem Hl{c:List (ai×V)}{d:V}{f:ai}(g:a e=J (.N5 c))(h:d.Oz=J f)(i:bA f c=J s)(j:b s a):hb (.ref e) d b a:=rQ g ⟨s,by refine Q (h ..) ?_;exact i,j⟩
theorem c3{d f:Qo}{c:QA}{e:List (QA×V)}(g:a hi=J (.ns e))(h:fi c e=J s)(i:n.fld d c=Qp)(j:l8 s=Qp)(k:b s a):cB n (.inst d hi f) c b a:=by
 show l9 (a hi) _;refine Q (g ..) ?_;exact⟨s,h,i,j,k⟩
theorem i7{d f:Qo}{b:QA}{c:List (QA×V)}{e:I→Prop}(g:a hi=J (.ns c))(h:n.fld d b=Qp)(i:c.length≤100)(j:e (a.set hi (.ns (fh b s c)))):hN n (.inst d hi f) b s e a:=by
 show l9 (a hi) _;refine Q (g ..) ?_;exact⟨h,i,j⟩
theorem rR{b:V}{c:I→Prop}(d:a e=J as)(f:ny (J as) e b s c a):iJ (.ref e) b s c a:=by
 show ny (a e) e b s c a;refine Q (d ..) ?_;exact f
theorem ip{b:Int}{c:I→Prop}(d:a e=J (.list y))(f:gk y b s=J M6)(g:c (a.set e (.list M6))):iJ (.ref e) (.int b) s c a:=rR d ⟨M6,f,g⟩
theorem hq{c:V}{b:am}{d:I→Prop}(f:a e=J (.dict O))(g:c.Ob=J b)(h:O.length<a4)(i:d (a.set e (.dict (bC b s O)))):iJ (.ref e) c s d a:=rR f ⟨b,g,h,i⟩
theorem x9{b:List (ai×V)}{d:V}{c:ai}{f:I→Prop}(g:a e=J (.N5 b))(h:d.Oz=J c)(i:b.length<a4)(j:f (a.set e (.N5 (bC c s b)))):iJ (.ref e) d s f a:=rR g ⟨c,h,i,j⟩
end
section
variable{b:bF}{f:bt}
def e5(d:aO)(e:aR)(g:List N)(b:bF)(f:bt):bF:=λa1 a c=>match a1 with
 |.NX=>aw d e g a b f c
 |a1=>b a1 a c
theorem rS{c:List N}:aw n j (c++r) i b f a=aw n j c i (e5 n j r b f) f a:=by
 induction c generalizing i a with
 |nil=>rfl
 |cons d c e=>
  show k7 n j d i _ f a=k7 n j d i _ f a;congr 1
  funext a1 ρ' σ₁;induction a1 using l5.casesOn with
  |NX=>exact e
  |Ow=>rfl
  |N9 g=>rfl
theorem kC(c:b .NX i a):aw n j [] i b f a:=c
theorem dg(c:aw n j r i b f a):aw n j ([]++r) i b f a:=c
theorem oK{c:N}{d:List N}(e:aw n j (c::(d++r)) i b f a):aw n j ((c::d)++r) i b f a:=e
theorem qx(c:av n j l0 i (xY i b) (f i) a):aw n j (.ret (J l0)::A) i b f a:=c
theorem LG(c:eR i l0=J s)(d:b (.N9 s) i a):aw n j (.ret (J l0)::A) i b f a:=e4 (b:=xY i b) c d
theorem LH(c:b (.N9 .none) i a):aw n j (.ret U::A) i b f a:=c
theorem kD(c:av n j l0 i (xV n j A i b f z) (f i) a):aw n j (.asg (.name z) l0::A) i b f a:=c
theorem LI(c:eR i l0=J s)(d:aw n j A (i.set z (J s)) b f a):aw n j (.asg (.name z) l0::A) i b f a:=e4 (b:=xV n j A i b f z) c d
theorem Hm{c:List Nat}(d:av n j l0 i (G3 n j A i b f c) (f i) a):aw n j (.asg (.tup c) l0::A) i b f a:=d
theorem b8{c:aa}{d:QA}(e:av n j l0 i (xX n j A i b f c d) (f i) a):aw n j (.asg (.attr c d) l0::A) i b f a:=e
theorem LJ{d:aa}{c:QA}(e:eR i l0=J s)(g:eR i d=J h)(k:hN n h c s (aw n j A i b f) a):aw n j (.asg (.attr d c) l0::A) i b f a:=
 e4 (b:=xX n j A i b f d c) e (e4 (b:=xW n j A i b f c s) g k)
theorem LK{c d:aa}(e:av n j l0 i (G6 n j A i b f c d) (f i) a):aw n j (.asg (.item c d) l0::A) i b f a:=e
theorem uH(c:av n j l0 i (G7 n j A i b f) (f i) a):aw n j (.expr l0::A) i b f a:=c
theorem u6(c:f i a):aw n j (.raise::A) i b f a:=c
theorem qy(c:b .Ow i a):aw n j (.cont::A) i b f a:=c
theorem uF(c:aw n j A i b f a):aw n j (.pass::A) i b f a:=c
theorem mm{c:aa}{e:List N}(d:bN n j c (av n j c i) i (xZ n j A i b f e r) (f i) a):aw n j (.iff c e r::A) i b f a:=by
 unfold xZ at d;simp only [rS]at d;exact d
theorem LL{d:aa}{c:List N}(h:io i d=J Qp)(e:aw n j (c++A) i b f a):aw n j (.iff d c r::A) i b f a:=by
 rw [rS]at e;exact hp (L:=λk g=>c5 k (aw n j c i (e5 n j A b f) f g) (aw n j r i (e5 n j A b f) f g)) h (gz rfl e)
theorem LM{c:aa}{d:List N}(h:io i c=J Qq)(e:aw n j (r++A) i b f a):aw n j (.iff c d r::A) i b f a:=by
 rw [rS]at e;exact hp (L:=λk g=>c5 k (aw n j d i (e5 n j A b f) f g) (aw n j r i (e5 n j A b f) f g)) h (dK rfl e)
theorem oL{c:dP}(d:(i[z]?).join=J h)(e:av n j l0 i (λs g=>jn c h s (λo k=>aw n j A (i.set z (J o)) b f k) g) (λg=>f i g) a):aw n j (.aug (.name z) c l0::A) i b f a:=⟨h,d,e⟩
theorem ly{b:aD}(c:b (.int (o+t)) a):jn .add (.int o) (.int t) b a:=c
theorem Hn{c:QA}{d:dP}(e:av n j k i (λh g=>cB n h c (λm q=>av n j l0 i (λs M=>jn d m s (λo bl=>hN n h c o (λcl=>aw n j A i b f cl) bl) M) (λg=>f i g) q) g) (λg=>f i g) a):aw n j (.aug (.attr k c) d l0::A) i b f a:=e
theorem Ho{c:aa}{d:dP}(p:av n j M i (λh g=>av n j c i (λk m=>(∃e y l q,h=.ref e∧m e=J (.list y)∧k=.int l∧bW y l=J q∧av n j l0 i (λs bl=>jn d q s (λo cl=>iJ h k o (λfw=>aw n j A i b f fw) cl) bl) (λg=>f i g) m)) (λg=>f i g) g) (λg=>f i g) a):aw n j (.aug (.item M c) d l0::A) i b f a:=p
theorem lh{c:aa}(e:∃T,ei (λg h k d=>bN n j c (av n j c g) g h k d) (λg h k d=>aw n j r g h k d) T i (e5 n j A b f) f a):aw n j (.O3 c r::A) i b f a:=e
theorem fH{c:bH}(e:hR n j it i (λy g=>c0 n j c (λh k m d=>aw n j r h k m d) y i (e5 n j A b f) f g) (λg=>f i g) a):aw n j (.fr c it r::A) i b f a:=e
theorem eC(c:aw n j A i b f a):e5 n j A b f .NX i a:=c
theorem iq(c:b (.N9 s) i a):e5 n j A b f (.N9 s) i a:=c
end
@[irreducible] noncomputable def af(a:Nat):aR:=dr ab a
theorem lz(a:Nat):dr ab a=af a:=by unfold af;rfl
section
theorem aZ(d:ab.fn e=some M7)(g:gO M7.OB.length M7.dflt Nn=some y)(h:fB M7.OB y (Q6 M7.size U)=some i)(c:aw ab (af T) M7.body i (xU b) (rK f) a):af (T+1) (.NS (.ref e)) Nn b f a:=by
 refine Q (Rj (lz ..)) ?_;rw [←lz]at c;show(match ab.fn e with
   |some M7=>fD ab (dr ab T) M7 Nn b f a
   |U=>_)
 exact Q (d ..) ⟨y,g,i,h,c⟩
theorem mL{c:Qo}(g:ab.fn e=U)(h:ab.init e=some c)(i:ab.fn c=some M7)(d:∀o hi,a o=U→a hi=U→o≠hi→fD ab (af T) M7 (.inst e hi o::Nn) (λA k=>k3 A=Qp∧b (.inst e hi o) k) f (a.set hi (.ns []))):af (T+1) (.NS (.ref e)) Nn b f a:=by
 refine Q (Rj (lz ..)) ?_;rw [←lz]at d;show(match ab.fn e with
   |some M7=>fD ab (dr ab T) M7 Nn b f a
   |U=>cm (ab.init e) _)
 exact Q (g ..) ⟨c,h,M7,i,d⟩
theorem LN{id:String}{c:List V}(d:et id c b a):af (T+1) (.NS (.builtin id)) c b f a:=by refine Q (Rj (lz ..)) ?_;exact d
theorem LO(c:a e=J (.list y))(d:b (.int y.length) a):et "len" [.ref e] b a:=by
 show tj (k5 (.ref e) (a e)) b a;refine Q (c ..) ?_;exact d
theorem LP(c:b (.int y.length) a):et "len" [.lst y] b a:=c
theorem LQ(c:b (.bool Qp) a):et "isinstance" [.tup y,.NS (.type "tuple")] b a:=⟨rfl,Qp,rfl,c⟩
theorem LR{c:Int}(d:b (.bool Qq) a):et "isinstance" [.int c,.NS (.type "tuple")] b a:=⟨rfl,Qq,rfl,d⟩
theorem LS{c:Int}(d:b (.int c.natAbs) a):et "abs" [.int c] b a:=d
theorem LU{c d:Int}(e:b (.int (if d>c then d else c)) a):et "max" [.int c,.int d] b a:=e
theorem kE(c:a e=J (.list y))(d:y.length<a4)(f:b .none (a.set e (.list (y++[s])))):et "list.append" [.ref e,s] b a:=⟨_,c,y,rfl,d,f⟩
theorem rT(c:a e=J (.list y))(d:y.getLast?=J s)(f:b s (a.set e (.list y.dropLast))):et "list.pop" [.ref e] b a:=⟨_,c,y,rfl,s,d,f⟩
theorem Hp{c:V}(d:a e=J (.list y))(f:pU c y=J l)(g:b (.int l) a):et "list.index" [.ref e,c] b a:=⟨_,d,y,rfl,l,f,g⟩
theorem Hq{d:V}{c:am}(f:a e=J (.dict O))(g:d.Ob=J c)(h:b ((bA c O).getD .none) a):et "dict.get" [.ref e,d] b a:=⟨_,f,O,rfl,c,g,h⟩
theorem ya{c:List (ai×V)}{f:V}{d:ai}(g:a e=J (.N5 c))(h:f.Oz=J d)(i:bA d c=J s)(j:b s (a.set e (.N5 (iH d c)))):et "dict.pop" [.ref e,f] b a:=⟨_,g,c,rfl,d,h,s,i,j⟩
end
theorem rU{b c:String}(a:Y b=Y c):b=c:=by
 unfold Y at a;rw [Vs,Vs]at a;injection a with a
 have d:b.toList.map Char.toNat=c.toList.map Char.toNat:=by simpa using QP Array.toList a
 have e:b.toList=c.toList:=(List.map_inj_right (λg h f=>Char.toNat_inj.mp f)).mp d;exact String.toList_inj.mp e
section
theorem Hr(b:o<t)(c:L Qp a):co .Lt (.int o) (.int t) L a:=⟨Qp,QP J (QD b),c⟩
theorem yb(b:¬o<t)(c:L Qq a):co .Lt (.int o) (.int t) L a:=⟨Qq,QP J (Qx b),c⟩
theorem yc(b:o≤t)(c:L Qp a):co .LtE (.int o) (.int t) L a:=⟨Qp,QP J (QD b),c⟩
theorem yd(b:¬o≤t)(c:L Qq a):co .LtE (.int o) (.int t) L a:=⟨Qq,QP J (Qx b),c⟩
theorem LV(b:o>t)(c:L Qp a):co .Gt (.int o) (.int t) L a:=⟨Qp,QP J (QD b),c⟩
theorem LW(b:¬o>t)(c:L Qq a):co .Gt (.int o) (.int t) L a:=⟨Qq,QP J (Qx b),c⟩
theorem LX(b:o≥t)(c:L Qp a):co .GtE (.int o) (.int t) L a:=⟨Qp,QP J (QD b),c⟩
theorem LY(b:¬o≥t)(c:L Qq a):co .GtE (.int o) (.int t) L a:=⟨Qq,QP J (Qx b),c⟩
theorem LZ(b:o=t)(c:L Qp a):co .Eq (.int o) (.int t) L a:=⟨Qp,QP J (QD b),c⟩
theorem Hs(b:¬o=t)(c:L Qq a):co .Eq (.int o) (.int t) L a:=⟨Qq,QP J (Qx b),c⟩
theorem L0(b:¬o=t)(c:L Qp a):co .NotEq (.int o) (.int t) L a:=⟨Qp,by show(J (decide (o=t))).map (!·)=_;rw [Qx b];rfl,c⟩
theorem L1(b:o=t)(c:L Qq a):co .NotEq (.int o) (.int t) L a:=⟨Qq,by show(J (decide (o=t))).map (!·)=_;rw [QD b];rfl,c⟩
theorem L2{b:QA}(c:L Qp a):co .Eq (.str b) (.str b) L a:=⟨Qp,by show J (decide (b=b))=_;rw [QD rfl],c⟩
theorem Ht{b c:String}(d:(b==c)=Qq)(e:L Qq a):co .Eq (.str (Y b)) (.str (Y c)) L a:=⟨Qq,by show J (decide (Y b=Y c))=_;rw [Qx (λf=>by rw [rU f]at d;simp at d)],e⟩
theorem L3{b:QA}(c:L Qq a):co .NotEq (.str b) (.str b) L a:=⟨Qq,by show(J (decide (b=b))).map (!·)=_;rw [QD rfl];rfl,c⟩
theorem L4{b c:String}(d:(b==c)=Qq)(e:L Qp a):co .NotEq (.str (Y b)) (.str (Y c)) L a:=⟨Qp,by show(J (decide (Y b=Y c))).map (!·)=_;rw [Qx (λf=>by rw [rU f]at d;simp at d)];rfl,e⟩
theorem L5(b:iI s=J Qq)(c:L Qq a):co .Is s .none L a:=⟨Qq,b,c⟩
theorem L6(b:L Qp a):co .Is .none .none L a:=⟨Qp,rfl,b⟩
theorem ye(b:iI s=J Qq)(c:L Qp a):co .IsNot s .none L a:=⟨Qp,by show(iI s).map (!·)=_;rw [b];rfl,c⟩
theorem Hu(b:L Qq a):co .IsNot .none .none L a:=⟨Qq,rfl,b⟩
theorem Hv{b:Bool}(c:gL s y=J b)(d:L b a):co .In s (.tup y) L a:=⟨b,c,d⟩
theorem L7(b:gL s y=J Qp)(c:L Qp a):co .In s (.tup y) L a:=⟨_,b,c⟩
theorem L8(b:gL s y=J Qq)(c:L Qq a):co .In s (.tup y) L a:=⟨_,b,c⟩
theorem mM{b:Bool}(c:gL s y=J b)(d:L (!b) a):co .NotIn s (.lst y) L a:=⟨!b,by show(gL s y).map (!·)=_;rw [c];rfl,d⟩
theorem Hw{b:Bool}(c:a e=J as)(d:k4 s (J as)=J b):kb .In s (.ref e) a=J b:=by
 show k4 s (a e)=_;rw [c];exact d
theorem yf{b:Bool}(c:a e=J as)(d:k4 s (J as)=J b):kb .NotIn s (.ref e) a=J (!b):=by
 show(k4 s (a e)).map _=_;rw [c,d];rfl
theorem oM{c:am}{b:Bool}(d:a e=J (.dict O))(f:s.Ob=J c)(g:(bA c O).isSome=b)(h:L b a):co .In s (.ref e) L a:=⟨b,Hw d (by show(s.Ob.map _)=_;rw [f,←g];rfl),h⟩
theorem jN{c:am}{b:Bool}(d:a e=J (.dict O))(f:s.Ob=J c)(g:(bA c O).isSome=b)(h:L (!b) a):co .NotIn s (.ref e) L a:=⟨!b,yf d (by show(s.Ob.map _)=_;rw [f,←g];rfl),h⟩
theorem Hx{c:List (ai×V)}{d:ai}{b:Bool}(f:a e=J (.N5 c))(g:s.Oz=J d)(h:(bA d c).isSome=b)(i:L (!b) a):co .NotIn s (.ref e) L a:=⟨!b,yf f (by show(s.Oz.map _)=_;rw [g,←h];rfl),i⟩
theorem Hy(c:b (.int 2147483648) a):fA .shl (.int 1) (.int (32-1)) b a:=⟨rfl,by decide,by decide,c⟩
end
theorem L9{b c:Bool}(d:L (b==c) a):co .Eq (.bool b) (.bool c) L a:=⟨b==c,rfl,d⟩
def eS:List (QA×V):=[(Y "width",.int 32),(Y "real_digits",.int 7),(Y "double_digits",.int 15),(Y "top_exponent",.int 38),(Y "steps",.int 1000000),(Y "continuations",.int 19),(Y "columns",.int 72),(Y "depth",.int 40)]
theorem Hz(c:a Nf=J (.ns eS))(d:b (.int 32) a):cB ab (.inst 665 Nf Nj) (Y "width") b a:=c3 c tb_g% tb_g% rfl d
local macro_rules | `(tactic| tb_start) => `(tactic| first | with_reducible assumption | omega | exact rfl | kernel_rfl | decide)
local macro_rules | `(tactic| tb_rel) => do
  let q ← `(tactic| first | exact rfl | exact rfl; exact rfl | kernel_rfl! | skip | (first | with_reducible assumption | omega) | (first | with_reducible assumption | decide) | decide +kernel | with_reducible assumption; assumption | with_reducible assumption | tb_start; tb_start)
  let x ← ("0 LI LG e4 rL gz L5 ye d9 qi|0 Li Ll dK|1 Ln LJ Lx|2 LL Lf K7|2 LM Lg K8|3 kD uH mm qx kC oK dg x5 Lm Lk Hc Hd Lp Lh Lj Ld Le Lo Hf Hg oJ cH kB Lt K9 La Lw Lv Lu mK Ly Lz LA LB LC LF LD x8 Hk Hi Hh Hj Lq Lr Ls L6 Hu Hm b8 LK u6 LH LN LP LQ LR LS LU L9 L2 L3|4 Hr yc LV LX LZ L0|4 yb yd LW LY Hs L1|5 Ht L4|6 L7|6 L8|7 c6|8 LO Hz|9 Lb".splitOn "|").toArray.mapM fun g => do
    let w := (g.splitOn " ").toArray
    let a := (w.drop 1).map fun x => Lean.mkIdent (.mkSimple x)
    let t : Lean.TSyntax `Lean.Parser.Tactic.tacticSeq := ⟨q.raw[1][w[0]!.toNat!][1]⟩
    `(tactic| ((with_reducible first $[| apply $a:ident]*); ($t)))
  `(tactic| first $[| $x:tactic]* | k_caughtNB)
section
theorem oN(c: -2147483648≤o∧o<2147483648)(d:b (.int o) a):af (T+1) (.NS (.ref 222)) [.int o,.int 32] b f a:=by
 refine aZ (i:=[J (.int o),J (.int 32),U,U]) Fx rfl rfl ?_;delta wH;have e:=SS.mpr c.1;have g:=Wo.mpr c.2;lk;refine Hy ?_;lk;exact d
theorem HA(c: -2147483648≤o+t∧o+t<2147483648)(d:b (.int (o+t)) a):af (T+2) (.NS (.ref 229)) [.int o,.int t,.int 32] b f a:=by
 refine aZ (i:=[J (.int o),J (.int t),J (.int 32),U]) Fy rfl rfl ?_;delta wI;lk;exact oN c d
theorem HB(c: -2147483648≤o-t∧o-t<2147483648)(d:b (.int (o-t)) a):af (T+2) (.NS (.ref 236)) [.int o,.int t,.int 32] b f a:=by
 refine aZ (i:=[J (.int o),J (.int t),J (.int 32),U]) Fz rfl rfl ?_;delta wJ;lk;exact oN c d
theorem HC:RM o t=if(decide (o<0)==decide (t<0))=Qp then(o.natAbs:Int)/(t.natAbs:Int)else-((o.natAbs:Int)/(t.natAbs:Int)):=by
 rcases Us o 0 with a|a<;>rcases Us t 0 with b|b
 ·rw [QD a,QD b,Qt (by decide),←WN,Rr ‹(ay 101832240) a›,show(o.natAbs:Int)= -o by exact(aC 49227752141716471249378919833843248) a (cI _),show(t.natAbs:Int)= -t by exact(aC 49227752141716471249378919833843248) b (cI _)]
 ·have c:RM o t= -RM (-o) t:=by rw [Int.neg_tdiv,VW]
  rw [QD a,Qx ‹(ay 511710072) b›,Qs (by decide),c,Rr ‹(ay 101832240) a›,show(o.natAbs:Int)= -o by exact(aC 49227752141716471249378919833843248) a (cI _),show(t.natAbs:Int)=t by exact(aC 105142574516125108486564238230392) b (cI _)]
 ·have c:RM o t= -RM o (-t):=by rw [Int.tdiv_neg,VW]
  rw [Qx ‹(ay 511710072) a›,QD b,Qs (by decide),c,Rr a,show(o.natAbs:Int)=o by exact(aC 105142574516125108486564238230392) a (cI _),show(t.natAbs:Int)= -t by exact(aC 49227752141716471249378919833843248) b (cI _)]
 ·rw [Qx ‹(ay 511710072) a›,Qx ‹(ay 511710072) b›,Qt (by decide),Rr a,show(o.natAbs:Int)=o by exact(aC 105142574516125108486564238230392) a (cI _),show(t.natAbs:Int)=t by exact(aC 105142574516125108486564238230392) b (cI _)]
theorem HD(g:t≠0∧t.natAbs<1000000000)(c:b (.int (RM o t)) a):af (T+2) (.NS (.ref 250)) [.int o,.int t] b f a:=by
 refine aZ (i:=[J (.int o),J (.int t),U,U]) FA rfl rfl ?_;delta wK;rw [HC]at c;have j:(0:Int)<(t.natAbs:Int):=TN.mpr (Int.natAbs_pos.mpr g.1);have k:(t.natAbs:Int)<1000000000:=by exact(aN 1529484897060) g.2
 rcases Us o 0 with d|d<;>rcases Us t 0 with e|e
 ·rw [QD d,QD e,Qt (by decide)]at c;lk;exact c
 ·have h:=SS.mpr e;rw [QD d,Qx ‹(ay 511710072) e›,Qs (by decide)]at c;lk;exact c
 ·have i:=SS.mpr d;rw [Qx ‹(ay 511710072) d›,QD e,Qs (by decide)]at c;lk;exact c
 ·have i:=SS.mpr d;have h:=SS.mpr e;rw [Qx ‹(ay 511710072) d›,Qx ‹(ay 511710072) e›,Qt (by decide)]at c;lk;exact c
theorem HE(c:t≠0∧t.natAbs<1000000000)(d: -2147483648≤RM o t∧RM o t<2147483648)(e:b (.int (RM o t)) a):af (T+3) (.NS (.ref 257)) [.int o,.int t,.int 32] b f a:=by
 refine aZ (i:=[J (.int o),J (.int t),J (.int 32),U,U,U]) FC rfl rfl ?_;delta wL;have g:=c.1;lk;refine HD c ?_;lk;exact oN d e
def jO(a b:Int):Int:=if a=b then 0 else if a<b then-1 else 1
theorem HF(c:b (.int (jO o t)) a):af (T+1) (.NS (.ref 278)) [.int o,.int t] b f a:=by
 refine aZ (i:=[J (.int o),J (.int t)]) FD rfl rfl ?_;delta wM;unfold jO at c;by_cases d:o=t
 ·rw [Qt d]at c;lk;exact c
 ·rw [Qs d]at c;by_cases e:o<t
  ·rw [Qt e]at c;lk;exact c
  ·rw [Qs e]at c;lk;exact c
def bR(a:fZ):String:=match a with
 |.lt=> "lt"
 |.le=> "le"
 |.eq=> "eq"
 |.ne=> "ne"
 |.gt=> "gt"
 |.ge=> "ge"
def HG(b:fZ)(a:Int):Bool:=match b with
 |.lt=>decide (a<0)
 |.le=>decide (a≤0)
 |.eq=>decide (a=0)
 |.ne=>!decide (a=0)
 |.gt=>decide (a>0)
 |.ge=>decide (a≥0)
theorem HH(a b:Int):(a<b∧jO a b= -1)∨(a=b∧jO a b=0)∨(b<a∧jO a b=1):=by
 unfold jO;by_cases c:a=b
 ·exact .inr (.inl ⟨c,Qt c⟩)
 ·rw [Qs c];by_cases d:a<b
  ·exact .inl ⟨d,Qt d⟩
  ·exact .inr (.inr ⟨by exact(ck 3143819161260) d c,Qs d⟩)
theorem HI(d:fZ){c:Int}(b:(o<t∧c= -1)∨(o=t∧c=0)∨(t<o∧c=1)):d.ev o t=HG d c:=match d with
 |.lt=>SI.mpr ⟨λa=>by exact(b6 1782324150192028421128674670442000088) b a,λa=>by exact(b6 290710593984673281615355048034643672) b a⟩
 |.le=>SI.mpr ⟨λa=>by exact(b6 1779362672067028290397432823259410136) b a,λa=>by exact(b6 287749115859673150884113200852053720) b a⟩
 |.eq=>SI.mpr ⟨λa=>by exact(b6 1788247106442028682591158364807179992) b a,λa=>by exact(b6 296633550234673543077838742399823576) b a⟩
 |.ne=>decide_not.trans (QP (!·) (SI.mpr ⟨λa=>by exact(b6 1788247106442028682591158364807179992) b a,λa=>by exact(b6 296633550234673543077838742399823576) b a⟩))
 |.gt=>SI.mpr ⟨λa=>by exact(b6 1249344821512782634954478905934556888) b a,λa=>by exact(b6 24090828913883770354252073242799832) b a⟩
 |.ge=>SI.mpr ⟨λa=>by exact(b6 1246383343387782504223237058751966936) b a,λa=>by exact(b6 21129350788883639623010226060209880) b a⟩
theorem HJ{c:fZ}(d:b (.bool (c.ev o t)) a):af (T+1) (.NS (.ref 285)) [.str (Y (bR c)),.int (jO o t)] b f a:=by
 rw [HI c (HH o t)]at d;generalize jO o t=l at d⊢;refine aZ (i:=[J (.str (Y (bR c))),J (.int l),U]) FE rfl rfl ?_;delta wN;induction c using fZ.casesOn<;>(lk)<;>exact⟨_,rfl,d⟩
theorem rV(e:a Nf=J (.ns eS))(c: -2147483648≤o+t∧o+t<2147483648)(d:b (.int (o+t)) a):af (T+3) (.NS (.ref 292)) [.str (Y "add"),.int 0,.int o,.int t,.inst 665 Nf Nj] b f a:=by
 refine aZ (i:=[J (.str (Y "add")),J (.int 0),J (.int o),J (.int t),J (.inst 665 Nf Nj),U,U,U,U,U,U,U]) oA rfl rfl ?_;delta mH;lk;exact HA c d
theorem yg(e:a Nf=J (.ns eS))(c: -2147483648≤o-t∧o-t<2147483648)(d:b (.int (o-t)) a):af (T+3) (.NS (.ref 292)) [.str (Y "sub"),.int 0,.int o,.int t,.inst 665 Nf Nj] b f a:=by
 refine aZ (i:=[J (.str (Y "sub")),J (.int 0),J (.int o),J (.int t),J (.inst 665 Nf Nj),U,U,U,U,U,U,U]) oA rfl rfl ?_;delta mH;lk;exact HB c d
theorem HK(g:a Nf=J (.ns eS))(c:t≠0∧t.natAbs<1000000000)(d: -2147483648≤RM o t∧RM o t<2147483648)(e:b (.int (RM o t)) a):af (T+4) (.NS (.ref 292)) [.str (Y "div"),.int 0,.int o,.int t,.inst 665 Nf Nj] b f a:=by
 refine aZ (i:=[J (.str (Y "div")),J (.int 0),J (.int o),J (.int t),J (.inst 665 Nf Nj),U,U,U,U,U,U,U]) oA rfl rfl ?_;delta mH;lk;exact HE c d e
theorem HL{d:fZ}(e:b (.bool (d.ev o t)) a):af (T+2) (.NS (.ref 292)) [.str (Y (bR d)),.int 0,.int o,.int t,.inst 665 Nf Nj] b f a:=by
 refine aZ (i:=[J (.str (Y (bR d))),J (.int 0),J (.int o),J (.int t),J (.inst 665 Nf Nj),U,U,U,U,U,U,U]) oA rfl rfl ?_;delta mH;have c:∀g,g∈["add", "sub", "mul", "div", "pow", "powi"]→(bR d==g)=Qq:=by clear e;induction d using fZ.casesOn<;>decide
 have h:=c "add" (by simp);have i:=c "sub" (by simp);have j:=c "mul" (by simp);have k:=c "div" (by simp);have l:=c "pow" (by simp);have m:=c "powi" (by simp);lk;refine HF ?_;lk;exact HJ e
theorem yh{c:Bool}(d:decide (o=0)=c)(e:b (.bool c) a):af (T+2) (.NS (.ref 306)) [.int o] b f a:=by
 refine aZ (i:=[J (.int o),U,U]) FF rfl rfl ?_;delta wO;lk;exact rD (b:=c) (by rw [←d];rfl) e
end
def dh(a:Qo):List (QA×V):=[(Y "numeric",.ref a),(Y "characters",.lst [])]
section
theorem HM(c:a MK=J (.ns (dh MN)))(d:b (.ref MN) a):cB ab (.inst 141 MK M3) (Y "numeric") b a:=c3 c tb_g% tb_g% rfl d
end
local macro_rules | `(tactic| k_caughtNB) => `(tactic| ((with_reducible refine' HM ?h0 ?_); (case h0 => with_reducible assumption)))
def fo(a:Nat):V:=.tup [.int 0,.int a,.int 0,.tup []]
section
theorem yi(c:b (.int 1) a):af (T+1) (.NS (.ref 103)) [.int 0] b f a:=by
 refine aZ (i:=[J (.int 0),U,U,U]) Fo rfl rfl ?_;delta wz;lk;exact c
theorem yj{c:Int}(i:a e=J (.list y))(d:0≤c)(g:c+1≤y.length)(j:c<1000000)(h:b .none a):af (T+2) (.NS (.ref 152)) [.ref e,.int c,.int 1] b f a:=by
 refine aZ (i:=[J (.ref e),J (.int c),J (.int 1),U,U]) Ft rfl rfl ?_;delta wD;have k:=SS.mpr d;have l:=SS.mpr g;lk;exact h
theorem HN{d c:Int}(h:a e=J (.list y))(i:bW y d=J (.tup [.int c,s]))(g:b s a):af (T+1) (.NS (.ref 159)) [.ref e,.int d,.int c] b f a:=by
 refine aZ (i:=[J (.ref e),J (.int d),J (.int c),U,U]) Fu rfl rfl ?_;delta wE;have j:c=c:=rfl;lk;exact g
theorem HO{c:Int}(d:a e=J (.list y))(g:0≤c)(h:c+1≤y.length)(i:c<1000000)(j:bW y c=J (.tup [.int 0,s]))(k:b s a):af (T+3) (.NS (.ref 166)) [.ref e,.int 0,.int c] b f a:=by
 refine aZ (i:=[J (.ref e),J (.int 0),J (.int c),U,U,U,U,U,U,U,U]) Fv rfl rfl ?_;delta wF;lk;refine yi ?_;lk;refine yj d g h i ?_;lk;refine HN d j ?_;lk;exact k
theorem rW(i:a MK=J (.ns (dh MN)))(d:a MN=J (.list y))(e:l<y.length)(c:l<1000000)(g:bW y l=J (.tup [.int 0,s]))(h:b s a):af (T+4) (.NS (.ref 124)) [.inst 141 MK M3,fo l] b f a:=by
 refine aZ (i:=[J (.inst 141 MK M3),J (.tup [.int 0,.int l,.int 0,.tup []]),U,U,U]) Fq rfl rfl ?_;delta wB;lk;exact HO d ‹(aN 3345709860) c› ‹(ak 41726437668) e› ‹(aN 717735820068) c› g h
theorem HP{c:Int}(d:a e=J (.list y))(g:0≤c)(h:c+1≤y.length)(i:c<1000000)(j:gk y c (.tup [.int 0,s])=J M6)(k:b .none (a.set e (.list M6))):af (T+3) (.NS (.ref 173)) [.ref e,.int 0,.int c,s] b f a:=by
 refine aZ (i:=[J (.ref e),J (.int 0),J (.int c),J s,U,U,U,U,U,U]) Fw rfl rfl ?_;delta wG;lk;refine yi ?_;lk;refine yj d g h i ?_;lk;refine ip d j ?_;lk;exact k
theorem oO(i:a MK=J (.ns (dh MN)))(d:a MN=J (.list y))(e:l<y.length)(c:l<1000000)(g:gk y l (.tup [.int 0,s])=J M6)(h:b .none (a.set MN (.list M6))):af (T+4) (.NS (.ref 131)) [.inst 141 MK M3,fo l,s] b f a:=by
 refine aZ (i:=[J (.inst 141 MK M3),J (.tup [.int 0,.int l,.int 0,.tup []]),J s,U,U,U,U]) Fs rfl rfl ?_;delta wC;lk;refine HP d ‹(aN 3345709860) c› ‹(ak 41726437668) e› ‹(aN 717735820068) c› g ?_;lk;exact h
end
structure cg where
 (NV NW OF OZ na ld O9 N3 N6 un Pg OW fr PP OH cl Ou op fd N4 OI NX be Oj Oi st OR PQ PR PS PT:Addr)
structure ch where
 A:cg
 rows:List aW
 d:cb
 y:an
noncomputable def hr(a:Nat):String:=match a with
 |0=> "A"
 |1=> "B"
 |2=> "C"
 |3=> "I"
 |4=> "J"
 |_=> "K"
noncomputable def dx(a:Nat):V:=.tup [.str (Y "var"),.int 0,.str (Y (hr a))]
noncomputable def dX(a:Int):V:=.tup [.str (Y "const"),.int 0,.int a]
noncomputable def g1(a:cf):V:=.tup [.str (Y (bR a.op)),.int 4,dx a.v,dX a.n]
noncomputable def jP(a:bX):V:=.tup [.str (Y "assign"),dx a.t,if a.OO then .tup [.str (Y "sub"),.int 0,dX a.n,dx a.s]else .tup [.str (Y "add"),.int 0,dx a.s,dX a.n]]
noncomputable def cx(a:b4):V:=match a with
 |.asg kw=>jP kw
 |.O8 j kw=>.tup [.str (Y "lif"),g1 j,jP kw]
 |.OL j b2=>.tup [.str (Y "lif"),g1 j,.tup [.str (Y "goto"),.int b2]]
 |.OY j=>.tup [.str (Y "lif"),g1 j,.tup [.str (Y "return"),.none]]
 |.cont=>.tup [.str (Y "continue")]
 |.goto b2=>.tup [.str (Y "goto"),.int b2]
 |.ifs j=>.tup [.str (Y "if"),g1 j]
 |.Ox j=>.tup [.str (Y "elseif"),g1 j]
 |.Op=>.tup [.str (Y "else")]
 |.Ot=>.tup [.str (Y "endif")]
 |.Od b2 s e r H=>.tup [.str (Y "do"),.int b2,dx s,dX e,dX r,dX H]
 |.OS b2=>.tup [.str (Y "setlabel"),.int b2,.str (Y "L")]
 |.OP MJ=>.tup [.str (Y "agoto"),.str (Y "L"),.lst (MJ.map .int)]
 |.OT s b c d=>.tup [.str (Y "aif"),dx s,.int b,.int c,.int d]
 |.OU MJ s=>.tup [.str (Y "cgoto"),.lst (MJ.map .int),dx s]
 |.fin=>.tup [.str (Y "end")]
noncomputable def cL(a:aW):V:=.tup [.int a.1,cx a.2,.int 1]
noncomputable def hs(a:cg)(b:Int):List (QA×V):=[(Y "memory",.inst 141 a.OF a.OZ),(Y "limits",.inst 665 a.ld a.O9),(Y "units",.ref a.un),(Y "world",.none),(Y "expressions",.ref a.Pg),(Y "statements",.ref a.OW),(Y "frame",.ref a.fr),(Y "depth",.int 0),(Y "steps",.int b),(Y "places",.ref a.PP),(Y "flows",.ref a.OH),(Y "clears",.ref a.cl),(Y "active",.lst []),(Y "loops",.ref a.Ou),(Y "operations",.ref a.op)]
noncomputable def oP(a:cg)(b:List aW):List (QA×V):=[(Y "kind",.str (Y "program")),(Y "name",.str (Y "P")),(Y "dummies",.lst []),(Y "entries",.ref a.OR),(Y "symbols",.ref a.PQ),(Y "statements",.lst (b.map cL)),(Y "formats",.ref a.PR),(Y "labels",.ref a.PS),(Y "result",.none),(Y "commons",.lst []),(Y "equivs",.lst []),(Y "datas",.lst []),(Y "saves",.lst []),(Y "constants",.ref a.PT)]
noncomputable def HQ(a:cg):List (QA×V):=[(Y "labels",.ref a.OI),(Y "next_arm",.ref a.NX),(Y "block_end",.ref a.be),(Y "do_end",.ref a.Oj),(Y "ending",.ref a.Oi)]
noncomputable def fp:List (am×V):=[(.inr (Y "const"),.NS (.ref 374)),(.inr (Y "var"),.NS (.ref 381)),(.inr (Y "elem"),.NS (.ref 381)),(.inr (Y "add"),.NS (.ref 395)),(.inr (Y "sub"),.NS (.ref 395)),(.inr (Y "mul"),.NS (.ref 395)),(.inr (Y "div"),.NS (.ref 395)),(.inr (Y "pow"),.NS (.ref 395)),(.inr (Y "powi"),.NS (.ref 395)),(.inr (Y "and"),.NS (.ref 395)),(.inr (Y "or"),.NS (.ref 395)),(.inr (Y "eqv"),.NS (.ref 395)),(.inr (Y "neqv"),.NS (.ref 395)),(.inr (Y "eq"),.NS (.ref 402)),(.inr (Y "ne"),.NS (.ref 402)),(.inr (Y "lt"),.NS (.ref 402)),(.inr (Y "le"),.NS (.ref 402)),(.inr (Y "gt"),.NS (.ref 402)),(.inr (Y "ge"),.NS (.ref 402))]
noncomputable def lA:List (am×V):=[(.inr (Y "goto"),.NS (.ref 556)),(.inr (Y "cgoto"),.NS (.ref 563)),(.inr (Y "agoto"),.NS (.ref 570)),(.inr (Y "aif"),.NS (.ref 577)),(.inr (Y "lif"),.NS (.ref 584)),(.inr (Y "if"),.NS (.ref 591)),(.inr (Y "elseif"),.NS (.ref 598)),(.inr (Y "else"),.NS (.ref 598)),(.inr (Y "endif"),.NS (.ref 605)),(.inr (Y "do"),.NS (.ref 612)),(.inr (Y "continue"),.NS (.ref 605)),(.inr (Y "entry"),.NS (.ref 605)),(.inr (Y "pause"),.NS (.ref 605)),(.inr (Y "return"),.NS (.ref 626)),(.inr (Y "end"),.NS (.ref 633)),(.inr (Y "stop"),.NS (.ref 640))]
noncomputable def e6:List (am×V):=lA++[(.inr (Y "assign"),.NS (.ref 521)),(.inr (Y "setlabel"),.NS (.ref 535))]
noncomputable def e7:List (am×V):=[(.inr (Y "A"),fo 0),(.inr (Y "B"),fo 1),(.inr (Y "C"),fo 2),(.inr (Y "I"),fo 3),(.inr (Y "J"),fo 4),(.inr (Y "K"),fo 5),(.inr (Y "L"),fo 6)]
noncomputable def rX(bi:Option Int):V:=match bi with
 |none=>.none
 |some b2=>.tup [.int 7,.int b2]
noncomputable def da(a:an)(bi:Option Int):List V:=a.map (λo=>.tup [.int 0,.int o])++[rX bi]
noncomputable def ir:List (am×V):=[(.inl 0,.NS (.ref 292))]
noncomputable def g2(a:List (am×V))(b:Nat→Option Nat):Prop:=∀l v,b l=J v→bA (.inl (l:Int)) a=J (.int v)
structure rY(c:ch)(a:I):Prop where
 mem:a c.A.OF=some (.ns (dh c.A.na))
 lim:a c.A.ld=some (.ns eS)
 Pr:a c.A.N3=some (.ns (oP c.A c.rows))
 exp:a c.A.Pg=some (.dict fp)
 N8:a c.A.OW=some (.dict e6)
 Ps:a c.A.fr=some (.dict e7)
 Pt:a c.A.op=some (.dict ir)
 Pu:a c.A.OH=some (.dict [(.inr (Y "P"),.inst 426 c.A.fd c.A.N4)])
 Pe:a c.A.fd=some (.ns (HQ c.A))
 Og:∃O,a c.A.OI=some (.dict O)∧∀b2 v,f6 c.rows b2=some v→bA (.inl b2) O=some (.int v)
 N1:∃O,a c.A.NX=some (.dict O)∧g2 O c.d.N1
 N7:∃O,a c.A.be=some (.dict O)∧g2 O c.d.N7
 NZ:∃O,a c.A.Oj=some (.dict O)∧g2 O c.d.NZ
 NU:∃O,a c.A.Oi=some (.dict O)∧(∀l MT,c.d.NU l=some MT→∃e,bA (.inl (l:Int)) O=some (.ref e)∧a e=some (.list (MT.map λ(x:Nat)=>V.int (x:Int)))∧e≠c.A.NV∧e≠c.A.na∧e≠c.A.Ou)∧∀l,c.d.NU l=none→bA (.inl (l:Int)) O=none
 lst:a c.A.st=some (.list (c.y.map .int))
noncomputable def yk(a:cg):List Qo:=[a.OF,a.ld,a.N3,a.Pg,a.OW,a.fr,a.op,a.OH,a.fd,a.OI,a.NX,a.be,a.Oj,a.Oi,a.st]
structure yl(s0:cg):Prop where
 ap:∀o∈yk s0,o≠s0.NV∧o≠s0.na∧o≠s0.Ou
 a1:s0.NV≠s0.na
 a2:s0.NV≠s0.Ou
 Ph:s0.na≠s0.Ou
structure a7(c:ch)(l:Nat)(p:an)(bi:Option Int)(ep:Nat→Option (Nat×Int))(a:I):Prop where
 PB:yl c.A
 N8:rY c a
 run:a c.A.NV=some (.ns (hs c.A l))
 num:a c.A.na=some (.list (da p bi))
 PU:∃O,a c.A.Ou=some (.N5 O)∧O.length≤l∧∀x kw H,ep x=some (kw,H)→bA [.inr (Y "P"),.inl (x:Int)] O=some (.tup [.int kw,.int H])
theorem a0{b:Qo}(c:b≠e):(a.set e as) b=a b:=Qs c
theorem bJ:(a.set e as) e=J as:=Qt rfl
theorem oQ{g:ch}(n:yl g.A)(b:rY g a)(h:e=g.A.NV∨e=g.A.na∨e=g.A.Ou):rY g (a.set e as):=by
 have l:∀f,f≠g.A.NV∧f≠g.A.na∧f≠g.A.Ou→(a.set e as) f=a f:=λf i=>a0 (by rcases h with h|h|h<;>(subst h;first|exact i.1|exact i.2.1|exact i.2.2));have c:∀m {f:Qo},(yk g.A)[m]? =J f→(a.set e as) f=a f:=λm f i=>l f (n.ap f (QB i));exact⟨(c 0 rfl).trans b.mem,(c 1 rfl).trans b.lim,(c 2 rfl).trans b.Pr,(c 3 rfl).trans b.exp,(c 4 rfl).trans b.N8,(c 5 rfl).trans b.Ps,(c 6 rfl).trans b.Pt,(c 7 rfl).trans b.Pu,(c 8 rfl).trans b.Pe,
  b.Og.imp λj d=>⟨(c 9 rfl).trans d.1,d.2⟩,b.N1.imp λj d=>⟨(c 10 rfl).trans d.1,d.2⟩,b.N7.imp λj d=>⟨(c 11 rfl).trans d.1,d.2⟩,b.NZ.imp λj d=>⟨(c 12 rfl).trans d.1,d.2⟩,
  b.NU.imp λj d=>(bw ((c 13 rfl).trans d.1) (λo p q=>(d.2.1 o p q).imp λr k=>(bw k.1 ((l r k.2.2).trans k.2.1) k.2.2)) d.2.2),(c 14 rfl).trans b.lst⟩
noncomputable abbrev HR(a:ch):V:=.inst 330 a.A.NV a.A.NW
noncomputable abbrev Ma(a:ch):V:=.inst 686 a.A.N3 a.A.N6
noncomputable abbrev Mb(a:ch):V:=.inst 426 a.A.fd a.A.N4
section
variable{c:ch}{T:QA}
theorem i8(d:a7 c l p bi ep a)(e:fi T (hs c.A l)=J s)(f:ab.fld 330 T=Qp)(g:l8 s=Qp)(h:b s a):cB ab (HR c) T b a:=c3 d.run e f g h
theorem Mc(d:a7 c l p bi ep a)(e:b (.inst 141 c.A.OF c.A.OZ) a):cB ab (.inst 330 c.A.NV c.A.NW) (Y "memory") b a:=i8 d tb_g% tb_g% rfl e
theorem Md(d:a7 c l p bi ep a)(e:b (.inst 665 c.A.ld c.A.O9) a):cB ab (.inst 330 c.A.NV c.A.NW) (Y "limits") b a:=i8 d tb_g% tb_g% rfl e
theorem Me(d:a7 c l p bi ep a)(e:b (.ref c.A.Pg) a):cB ab (.inst 330 c.A.NV c.A.NW) (Y "expressions") b a:=i8 d tb_g% tb_g% rfl e
theorem Mf(d:a7 c l p bi ep a)(e:b (.ref c.A.OW) a):cB ab (.inst 330 c.A.NV c.A.NW) (Y "statements") b a:=i8 d tb_g% tb_g% rfl e
theorem Mg(d:a7 c l p bi ep a)(e:b (.ref c.A.fr) a):cB ab (.inst 330 c.A.NV c.A.NW) (Y "frame") b a:=i8 d tb_g% tb_g% rfl e
theorem Mh(d:a7 c l p bi ep a)(e:b (.int l) a):cB ab (.inst 330 c.A.NV c.A.NW) (Y "steps") b a:=i8 d tb_g% tb_g% rfl e
theorem Mi(d:a7 c l p bi ep a)(e:b (.ref c.A.OH) a):cB ab (.inst 330 c.A.NV c.A.NW) (Y "flows") b a:=i8 d tb_g% tb_g% rfl e
theorem Mj(d:a7 c l p bi ep a)(e:b (.ref c.A.Ou) a):cB ab (.inst 330 c.A.NV c.A.NW) (Y "loops") b a:=i8 d tb_g% tb_g% rfl e
theorem Mk(d:a7 c l p bi ep a)(e:b (.ref c.A.op) a):cB ab (.inst 330 c.A.NV c.A.NW) (Y "operations") b a:=i8 d tb_g% tb_g% rfl e
theorem Ml(d:a7 c l p bi ep a)(e:b (.ref c.A.na) a):cB ab (.inst 141 c.A.OF c.A.OZ) (Y "numeric") b a:=HM d.N8.mem e
theorem Mm(d:a7 c l p bi ep a)(e:b (.int 32) a):cB ab (.inst 665 c.A.ld c.A.O9) (Y "width") b a:=Hz d.N8.lim e
theorem Mn(d:a7 c l p bi ep a)(e:b (.int 1000000) a):cB ab (.inst 665 c.A.ld c.A.O9) (Y "steps") b a:=c3 d.N8.lim tb_g% tb_g% rfl e
theorem Mo(d:a7 c l p bi ep a)(e:b (.str (Y "P")) a):cB ab (.inst 686 c.A.N3 c.A.N6) (Y "name") b a:=c3 d.N8.Pr tb_g% tb_g% rfl e
theorem Mp(d:a7 c l p bi ep a)(e:b (.lst (c.rows.map cL)) a):cB ab (.inst 686 c.A.N3 c.A.N6) (Y "statements") b a:=c3 d.N8.Pr tb_g% tb_g% rfl e
theorem Mq(d:a7 c l p bi ep a)(e:b (.ref c.A.OI) a):cB ab (.inst 426 c.A.fd c.A.N4) (Y "labels") b a:=c3 d.N8.Pe tb_g% tb_g% rfl e
theorem Mr(d:a7 c l p bi ep a)(e:b (.ref c.A.NX) a):cB ab (.inst 426 c.A.fd c.A.N4) (Y "next_arm") b a:=c3 d.N8.Pe tb_g% tb_g% rfl e
theorem Ms(d:a7 c l p bi ep a)(e:b (.ref c.A.be) a):cB ab (.inst 426 c.A.fd c.A.N4) (Y "block_end") b a:=c3 d.N8.Pe tb_g% tb_g% rfl e
theorem Mt(d:a7 c l p bi ep a)(e:b (.ref c.A.Oj) a):cB ab (.inst 426 c.A.fd c.A.N4) (Y "do_end") b a:=c3 d.N8.Pe tb_g% tb_g% rfl e
theorem Mu(d:a7 c l p bi ep a)(e:b (.ref c.A.Oi) a):cB ab (.inst 426 c.A.fd c.A.N4) (Y "ending") b a:=c3 d.N8.Pe tb_g% tb_g% rfl e
theorem Mv{b:V→List V→Prop}(d:a7 c l p bi ep a)(e:b (.NS (.ref 124)) [.inst 141 c.A.OF c.A.OZ]):gl ab (.inst 141 c.A.OF c.A.OZ) (Y "load") a b:=by
 refine im (c:=[.inst 141 c.A.OF c.A.OZ]) ?_ e;show(match a c.A.OF with|some (.ns f)=>_|_=>_)=_;refine Q (d.N8.mem ..) ?_;kernel_rfl
theorem Mw{b:V→List V→Prop}(d:a7 c l p bi ep a)(e:b (.NS (.ref 131)) [.inst 141 c.A.OF c.A.OZ]):gl ab (.inst 141 c.A.OF c.A.OZ) (Y "store") a b:=by
 refine im (c:=[.inst 141 c.A.OF c.A.OZ]) ?_ e;show(match a c.A.OF with|some (.ns f)=>_|_=>_)=_;refine Q (d.N8.mem ..) ?_;kernel_rfl
theorem HS{b:V→List V→Prop}(c:a e=some (.dict O))(d:b (.NS (.builtin "dict.get")) [.ref e]):gl n (.ref e) (Y "get") a b:=by
 refine im (c:=[.ref e]) ?_ d;show(match a e with|some (.list _)=>_|some (.dict _)=>_|some (.N5 _)=>_|_=>_)=_;refine Q (c ..) ?_;kernel_rfl
theorem ym{b:V→List V→Prop}{c:List (ai×V)}(d:a e=some (.N5 c))(f:b (.NS (.builtin "dict.pop")) [.ref e]):gl n (.ref e) (Y "pop") a b:=by
 refine im (c:=[.ref e]) ?_ f;show(match a e with|some (.list _)=>_|some (.dict _)=>_|some (.N5 _)=>_|_=>_)=_;refine Q (d ..) ?_;kernel_rfl
theorem HT{b:V→List V→Prop}(c:a e=some (.list y))(d:b (.NS (.builtin "list.index")) [.ref e]):gl n (.ref e) (Y "index") a b:=by
 refine im (c:=[.ref e]) ?_ d;show(match a e with|some (.list _)=>_|some (.dict _)=>_|some (.N5 _)=>_|_=>_)=_;refine Q (c ..) ?_;kernel_rfl
theorem db{b:V→List V→Prop}(c:a e=some (.list y))(d:b (.NS (.builtin "list.append")) [.ref e]):gl n (.ref e) (Y "append") a b:=by
 refine im (c:=[.ref e]) ?_ d;show(match a e with|some (.list _)=>_|some (.dict _)=>_|some (.N5 _)=>_|_=>_)=_;refine Q (c ..) ?_;kernel_rfl
theorem rZ{b:V→List V→Prop}(c:a e=some (.list y))(d:b (.NS (.builtin "list.pop")) [.ref e]):gl n (.ref e) (Y "pop") a b:=by
 refine im (c:=[.ref e]) ?_ d;show(match a e with|some (.list _)=>_|some (.dict _)=>_|some (.N5 _)=>_|_=>_)=_;refine Q (c ..) ?_;kernel_rfl
end
variable{c:ch}{s0:cg}
local macro_rules | `(tactic| k_caughtNB) => do
  let a := ("Mc Md Me Mf Mg Mh Mi Mj Mk Ml Mm Mn Mo Mp Mq Mr Ms Mt Mu Mv Mw".splitOn " ").toArray.map fun x => Lean.mkIdent (.mkSimple x)
  `(tactic| ((with_reducible first $[| apply $a:ident]*); with_reducible assumption))
section
theorem mN{e:Qo}{d:List V}(g:a7 c l p bi ep a)(h:bA (.inr (Y H2)) fp=J (.NS (.ref e)))(i:af T (.NS (.ref e)) [.inst 330 c.A.NV c.A.NW,.tup (.str (Y H2)::d)] b f a):af (T+1) (.NS (.ref 341)) [.inst 330 c.A.NV c.A.NW,.tup (.str (Y H2)::d)] b f a:=by
 refine aZ (i:=[J (.inst 330 c.A.NV c.A.NW),J (.tup (.str (Y H2)::d)),U]) FH rfl rfl ?_;delta wR;lk;refine jN (b:=Qp) g.N8.exp rfl (by rw [h];rfl) ?_;lk;refine eB g.N8.exp rfl h ?_;lk;exact i
theorem HU(a:z<6):bA (.inr (Y (hr z))) e7=J (fo z):=by
 refine sK (a:=λz=>bA (.inr (Y (hr z))) e7=J (fo z)) ?_ ?_ ?_ ?_ ?_ ?_ a<;>kernel_rfl
theorem HV{c:V}{d:am}(f:a e=J (.dict O))(g:c.Ob=J d)(h:bA d O=J s)(i:b s a):et "dict.get" [.ref e,c] b a:=Hq f g (by rw [h];exact i)
theorem HW(d:a7 c l p bi ep a)(e:z<6)(g:b (fo z) a):af (T+2) (.NS (.ref 348)) [.inst 330 c.A.NV c.A.NW,.str (Y (hr z))] b f a:=by
 refine aZ (i:=[J (.inst 330 c.A.NV c.A.NW),J (.str (Y (hr z))),U,U,U,U]) FI rfl rfl ?_;delta wS;lk;refine HS d.N8.Ps ?_;lk;refine HV d.N8.Ps rfl (HU e) ?_;unfold fo;lk;exact g
theorem oR(d:a7 c l p bi ep a)(e:z<6)(g:b (fo z) a):af (T+3) (.NS (.ref 367)) [.inst 330 c.A.NV c.A.NW,dx z] b f a:=by
 refine aZ (i:=[J (.inst 330 c.A.NV c.A.NW),J (.tup [.str (Y "var"),.int 0,.str (Y (hr z))]),U,U,U,U]) FJ rfl rfl ?_;delta wT;lk;refine HW d e ?_;lk;exact g
theorem kF:(da p bi).length=p.length+1:=by simp [da]
theorem yn(a:z<p.length):bW (da p bi) (z:Int)=J (.tup [.int 0,.int (p.getD z 0)]):=by
 unfold bW;rw [Qt ‹(aN 1418)›,RE];unfold da;rw [SD (by simpa using a)];simp [RN,a]
theorem r0{a:Int}(b:z<p.length):gk (da p bi) (z:Int) (.tup [.int 0,.int a])=J (da (p.set z a) bi):=by
 unfold gk;rw [Qt ⟨by exact(aN 1418),by rw [kF];exact(ak 38846695716) b⟩,RE];unfold da;rw [List.set_append_left _ _ (by simpa using b),Vf]
theorem HX(e:a7 c l p bi ep a)(d:z<6)(g:p.length=6)(h:b (.int (p.getD z 0)) a):af (T+5) (.NS (.ref 381)) [.inst 330 c.A.NV c.A.NW,.tup [.str (Y "var"),.int 0,.str (Y (hr z))]] b f a:=by
 refine aZ (i:=[J (.inst 330 c.A.NV c.A.NW),J (dx z),U]) FL rfl rfl ?_;delta wV;lk;refine oR e d ?_;lk;exact rW e.N8.mem e.num (by rw [kF];exact(ak 22460642809387812) d g) ‹(aN 44852878116) d› (yn ‹(ak 1086136765422372) d g›) h
theorem lB(d:a7 c l p bi ep a)(e:z<6)(g:p.length=6)(h:b (.int (p.getD z 0)) a):af (T+6) (.NS (.ref 341)) [.inst 330 c.A.NV c.A.NW,dx z] b f a:=by
 exact mN (e:=381) d tb_g% (HX d e g h)
theorem HY{d:Int}(e:b (.int d) a):af (T+1) (.NS (.ref 374)) [.inst 330 c.A.NV c.A.NW,.tup [.str (Y "const"),.int 0,.int d]] b f a:=by
 refine aZ (i:=[J (.inst 330 c.A.NV c.A.NW),J (.tup [.str (Y "const"),.int 0,.int d])]) FK rfl rfl ?_;delta wU;lk;exact e
theorem er{d:Int}(e:a7 c l p bi ep a)(g:b (.int d) a):af (T+2) (.NS (.ref 341)) [.inst 330 c.A.NV c.A.NW,dX d] b f a:=by
 exact mN (e:=374) e tb_g% (HY g)
theorem oS{d e:V}(g:a7 c l p bi ep a)(h:af T (.NS (.ref 292)) [.str H2,.int 0,d,e,.inst 665 c.A.ld c.A.O9] b f a):af (T+1) (.NS (.ref 388)) [.inst 330 c.A.NV c.A.NW,.str H2,.int 0,d,e] b f a:=by
 refine aZ (i:=[J (.inst 330 c.A.NV c.A.NW),J (.str H2),J (.int 0),J d,J e,U]) FM rfl rfl ?_;delta wW;lk;refine jN (b:=Qp) g.N8.Pt rfl tb_g% ?_;lk;refine eB (s:=.NS (.ref 292)) g.N8.Pt rfl tb_g% ?_;lk;exact h
theorem yo{d:V}(e:∀{b:aD},b (.int o) a→af T (.NS (.ref 341)) [.inst 330 c.A.NV c.A.NW,d] b f a)(g:∀{b:aD},b (.int t) a→af T (.NS (.ref 341)) [.inst 330 c.A.NV c.A.NW,MR] b f a)(h:af T (.NS (.ref 388)) [.inst 330 c.A.NV c.A.NW,.str (Y H2),.int 0,.int o,.int t] b f a):af (T+1) (.NS (.ref 395)) [.inst 330 c.A.NV c.A.NW,.tup [.str (Y H2),.int 0,d,MR]] b f a:=by
 refine aZ (i:=[J (.inst 330 c.A.NV c.A.NW),J (.tup [.str (Y H2),.int 0,d,MR]),U,U,U,U]) FN rfl rfl ?_;delta wX;lk;refine e ?_;lk;refine g ?_;lk;exact h
theorem HZ{d:V}(e:∀{b:aD},b (.int o) a→af T (.NS (.ref 341)) [.inst 330 c.A.NV c.A.NW,.tup (d:: .int 0::t0)] b f a)(g:∀{b:aD},b (.int t) a→af T (.NS (.ref 341)) [.inst 330 c.A.NV c.A.NW,MR] b f a)(h:af T (.NS (.ref 388)) [.inst 330 c.A.NV c.A.NW,.str (Y H2),.int 0,.int o,.int t] b f a):af (T+1) (.NS (.ref 402)) [.inst 330 c.A.NV c.A.NW,.tup [.str (Y H2),.int 4,.tup (d:: .int 0::t0),MR]] b f a:=by
 refine aZ (i:=[J (.inst 330 c.A.NV c.A.NW),J (.tup [.str (Y H2),.int 4,.tup (d:: .int 0::t0),MR]),U,U,U,U]) FO rfl rfl ?_;delta wY;lk;refine e ?_;lk;refine g ?_;lk;exact h
theorem hG{g:Int}(d:a7 c l p bi ep a)(h:z<6)(i:p.length=6)(j: -2147483648≤p.getD z 0+g∧p.getD z 0+g<2147483648)(e:b (.int (p.getD z 0+g)) a):af (T+8) (.NS (.ref 341)) [.inst 330 c.A.NV c.A.NW,.tup [.str (Y "add"),.int 0,dx z,dX g]] b f a:=by
 refine mN (e:=395) d tb_g% (yo (T:=T+6) (λe=>lB d h i e) (λe=>er d e) (oS d (rV d.N8.lim j e)))
theorem H0{g:Int}(d:a7 c l p bi ep a)(h:z<6)(i:p.length=6)(j: -2147483648≤g-p.getD z 0∧g-p.getD z 0<2147483648)(e:b (.int (g-p.getD z 0)) a):af (T+8) (.NS (.ref 341)) [.inst 330 c.A.NV c.A.NW,.tup [.str (Y "sub"),.int 0,dX g,dx z]] b f a:=by
 refine mN (e:=395) d tb_g% (yo (T:=T+6) (λe=>er d e) (λe=>lB d h i e) (oS d (yg d.N8.lim j e)))
theorem mO{e:cf}(g:a7 c l p bi ep a)(h:e.v<6)(i:p.length=6)(d:b (.bool (e.ev p)) a):af (T+8) (.NS (.ref 341)) [.inst 330 c.A.NV c.A.NW,g1 e] b f a:=by
 refine mN (e:=402) g (by generalize e.op=j;induction j using fZ.casesOn<;>kernel_rfl) (HZ (T:=T+6) (λd=>lB g h i d) (λd=>er g d) (oS g (HL d)))
end
section
variable{NA:Type}[DecidableEq NA]
theorem g3(a:NA)(c:V):∀O:List (NA×V),bA a (bC a c O)=J c
 |[]=>Qt rfl
 |l0::d=>by
  by_cases b:l0.1=a
  ·exact Q (hM ..) (Q (Qt b ..) (Q (ha ..) (Q (Qt b ..) rfl)))
  ·exact Q (hM ..) (Q (Qs b ..) (Q (ha ..) (Q (Qs b ..) (Q (g3 a c d ..) rfl))))
theorem i9{c d:NA}(a:d≠c)(f:V):∀O:List (NA×V),bA d (bC c f O)=bA d O
 |[]=>Qs (λl0=>a l0.symm)
 |l0::g=>by
  by_cases b:l0.1=c
  ·exact Q (hM ..) (Q (Qt b ..) (Q (ha ..) (Q (ha ..) (Q (Qs (λe=>a (e.symm.trans b)) ..) (Q (Qs (λe=>a (e.symm.trans b)) ..) rfl)))))
  ·exact Q (hM ..) (Q (Qs b ..) (Q (ha ..) (Q (ha ..) (Q (i9 a f g ..) rfl))))
theorem yp{a b:NA}(d:b≠a):∀O:List (NA×V),bA b (iH a O)=bA b O
 |[]=>rfl
 |l0::e=>by
  by_cases c:l0.1=a
  ·exact Q (nu ..) (Q (Qt c ..) (Q (ha ..) (Q (Qs (λf=>d (f.symm.trans c)) ..) rfl)))
  ·exact Q (nu ..) (Q (Qs c ..) (Q (ha ..) (Q (ha ..) (Q (yp d e ..) rfl))))
theorem yq(a:NA):∀O:List (NA×V),(iH a O).length≤O.length
 |[]=>Qu _
 |l0::b=>by
  refine Q (nu ..) ?_;split
  ·simp
  ·have:=yq a b;simp;exact(ak 7117068) this
end
section
variable{b:bF}{f:bt}
def kG(a:aO)(c:aR)(h:bH)(i:List N)(j:List V)(b:bF)(f:bt):bF:=λa1 e g=>match a1 with
 |.N9 s=>b (.N9 s) e g
 |_=>c0 a c h (λk l m d=>aw a c i k l m d) j e b f g
theorem gA(c:b .NX i a):c0 n j Nr (λg h k d=>aw n j r g h k d) [] i b f a:=c
theorem iu{c:V}{e:List V}(g:aw n j r (i.set z (J c)) (kG n j (.name z) r e b f) f a):c0 n j (.name z) (λh k m d=>aw n j r h k m d) (c::e) i b f a:=g
theorem oT{c:List Nat}{e:V}{h:List V}(k:kc Qq c e i=J g)(l:aw n j r g (kG n j (.tup c) r h b f) f a):c0 n j (.tup c) (λg m q d=>aw n j r g m q d) (e::h) i b f a:=by
 exact⟨g,k,l⟩
theorem e8{c:List V}(e:c0 n j Nr (λg h k d=>aw n j r g h k d) c i b f a):kG n j Nr r c b f .NX i a:=e
theorem H1{c:List V}(e:c0 n j Nr (λg h k d=>aw n j r g h k d) c i b f a):kG n j Nr r c b f .Ow i a:=e
theorem jQ{c:List V}(d:b (.N9 s) i a):kG n j Nr r c b f (.N9 s) i a:=d
theorem h4{b:List V→I→Prop}{c:aV}(d:av n j l0 i (λs g=>∃y,hO Qq s g=J y∧b y g) c a):hR n j (.over l0) i b c a:=d
theorem kp{b:List V→I→Prop}{c:aV}(d:av n j l0 i (λs g=>∃y,hO Qp s g=J y∧b y g) c a):hR n j (.range l0) i b c a:=d
theorem H3{a:List V→Prop}(b:a y):j9 (.lst y) a:=b
theorem qD{b:List V→I→Prop}{c:aV}(d:av n j l0 i (λs g=>j9 s λy=>b y.reverse g) c a):hR n j (.rev l0) i b c a:=d
end
theorem H4{c:Nat}(d:a e=J (.list y))(f:c≤1000000)(g:y.length≤1000000)(h:b (.lst (y.drop c)) a):nx (.ref e) (J (.int c)) U b a:=by
 show j9 (k5 (.ref e) (a e)) _;refine Q (d ..) (⟨y.drop c,Qt ⟨T9 c,TO.mpr f⟩,cK ?_ h⟩);refine Q (Wz ..) ?_;exact Qv (Wi _ _) g
section
theorem mP(e:a7 c l p bi ep a){d:an}:a7 c l d g ep (a.set c.A.na (.list (da d g))):=by
 obtain⟨b,N,f,k,O,h,i,j⟩:=e;exact⟨b,oQ b N (.inr (.inl rfl)),by refine Q (a0 b.a1 ..) ?_;exact f,bJ,O,by refine Q (a0 b.Ph.symm ..) ?_;exact h,i,j⟩
theorem yr(d:a7 c l p bi ep a):a7 c (l+1) p bi ep (a.set c.A.NV (.ns (hs c.A ((l:Int)+1)))):=by
 obtain⟨b,N,i,e,O,f,g,h⟩:=d;exact⟨b,oQ b N (.inl rfl),bJ,by refine Q (a0 b.a1.symm ..) ?_;exact e,O,by refine Q (a0 b.a2.symm ..) ?_;exact f,by exact(ak 148674828) g,h⟩
def gB(a:Nat):ai:=[.inr (Y "P"),.inl (a:Int)]
theorem ys{a b:Nat}(c:a≠b):gB a≠gB b:=λd=>c (by
 have:(Uk (a:Int):am)=.inl (b:Int):=(Sd (Sd d).2).1;have:=Sl this;exact(ak 1878848592) this)
theorem yt(n:a7 c l p bi ep a){f:List (ai×V)}(o:a c.A.Ou=J (.N5 f)){b g:Nat}{h:Int}{w:Nat}(j:(bC (gB b) (.tup [.int g,.int h]) f).length≤l):a7 c l p bi (a5 ep b (J (g,h))) (a.set c.A.Ou (.N5 (bC (gB b) (.tup [.int g,.int h]) f))):=by
 obtain⟨d,N,q,r,x,k,s,t⟩:=n;rw [o]at k;clear s;cases k;refine⟨d,oQ d N (.inr (.inr rfl)),by refine Q (a0 d.a2 ..) ?_;exact q,by refine Q (a0 d.Ph ..) ?_;exact r,_,bJ,j,λm u v e=>?_⟩;by_cases i:m=b
 ·clear j;subst i;rw [dn]at e;cases e;exact g3 _ _ _
 ·rw [cR _ _ i]at e;exact(i9 (ys i) _ _).trans (t m u v e)
theorem yu(j:a7 c l p bi ep a){g:List (ai×V)}(k:a c.A.Ou=J (.N5 g)){e:Nat}:a7 c l p bi (a5 ep e U) (a.set c.A.Ou (.N5 (iH (gB e) g))):=by
 obtain⟨b,N,m,n,t,h,o,q⟩:=j;rw [k]at h;cases h;refine⟨b,oQ b N (.inr (.inr rfl)),by refine Q (a0 b.a2 ..) ?_;exact m,by refine Q (a0 b.Ph ..) ?_;exact n,_,bJ,Qv (yq _ _) o,λi r s d=>?_⟩;by_cases f:i=e
 ·subst f;rw [dn]at d;cases d
 ·rw [cR _ _ f]at d;exact(yp (ys f) _).trans (q i r s d)
set_option tactic.hygienic true in
theorem yv[DecidableEq NA]{b:NA}:∀{O:List (NA×V)},bA b O=J H2→(bC b s O).length=O.length
 |[],a=>by cases a
 |l0::d,a=>by
  refine Q (hM ..) ?_;split
  ·rfl
  ·rename_i c;rw [ha,Qs c]at a;simp [yv a]
end
section
theorem mQ(d:a7 c l p bi ep a)(e:b (.inst 426 c.A.fd c.A.N4) a):af (T+1) (.NS (.ref 479)) [.inst 330 c.A.NV c.A.NW,.inst 686 c.A.N3 c.A.N6] b f a:=by
 refine aZ (i:=[J (.inst 330 c.A.NV c.A.NW),J (.inst 686 c.A.N3 c.A.N6),U]) w7 rfl rfl ?_;delta rq;lk;refine jN (b:=Qp) d.N8.Pu rfl tb_g% ?_;lk;exact eB (s:=.inst 426 c.A.fd c.A.N4) d.N8.Pu rfl tb_g% e
theorem mR{d:Int}(e:a7 c l p bi ep a)(i:f6 c.rows d=J v)(j:b (.tup [.str (Y "jump"),.int v]) a):af (T+2) (.NS (.ref 507)) [.inst 330 c.A.NV c.A.NW,.inst 686 c.A.N3 c.A.N6,.int d] b f a:=by
 refine aZ (i:=[J (.inst 330 c.A.NV c.A.NW),J (.inst 686 c.A.N3 c.A.N6),J (.int d),U,U,U]) FZ rfl rfl ?_;delta xb;refine ae e.N8.Og λO g k=>?_;have h:=k d v i;lk;refine mQ e ?_;lk;refine jN (b:=Qp) g rfl (by refine Q (h ..) ?_;rfl) ?_;lk;refine eB g rfl h ?_;lk;exact j
theorem H5{e:Int}(g:a7 c l p bi ep a)(d:z<6)(h:p.length=6)(i:b .none (a.set c.A.na (.list (da (p.set z e) bi)))):af (T+5) (.NS (.ref 514)) [.inst 330 c.A.NV c.A.NW,dx z,.int e] b f a:=by
 refine aZ (i:=[J (.inst 330 c.A.NV c.A.NW),J (dx z),J (.int e),U]) F1 rfl rfl ?_;delta xc;lk;refine oR g d ?_;lk;refine oO g.N8.mem g.num (by refine Q (kF ..) ?_;exact(ak 22460642809387812) d h) ‹(aN 44852878116) d› (r0 ‹(ak 1086136765422372) d h›) ?_;lk;exact i
theorem yw(h:a7 c l p bi ep a)(s:iZ kw)(e:bs h1 p)(j:h1+4<2147483648)(w:l1<1000000)(d:b (.int (l1+1)) (a.set c.A.na (.list (da (kw.run p) bi)))):af (T+9) (.NS (.ref 521)) [.inst 330 c.A.NV c.A.NW,.inst 686 c.A.N3 c.A.N6,.int l1,jP kw] b f a:=by
 refine cY s λt k m n=>?_;have o:=jL e kw.s;have q:∀(g:V) (i:Int),(∀{b:aD},b (.int i) a→af (T+8) (.NS (.ref 341)) [.inst 330 c.A.NV c.A.NW,g] b f a)→b (.int (l1+1)) (a.set c.A.na (.list (da (p.set kw.t i) bi)))→af (T+9) (.NS (.ref 521)) [.inst 330 c.A.NV c.A.NW,.inst 686 c.A.N3 c.A.N6,.int l1,.tup [.str (Y "assign"),dx kw.t,g]] b f a:=by
  intro g i u d;refine aZ (i:=[J (.inst 330 c.A.NV c.A.NW),J (.inst 686 c.A.N3 c.A.N6),J (.int l1),J (.tup [.str (Y "assign"),dx kw.t,g]),U,U,U]) F2 rfl rfl ?_;delta xd;lk;refine u ?_;lk;refine H5 h t e.1 ?_;lk;exact d
 unfold jP;unfold bX.run at d;generalize r:kw.OO=v;induction v using Qz with
 |true=>
  rw [r,Qt rfl]at d;exact Q (Qt rfl ..) (q _ _ (λd=>H0 h k e.1 ‹(ff 30240837874600236419078763202628194056139009166244869614575020723598072) m o j n (cI _)› d) d)
 |false=>
  rw [r,Qs (by simp)]at d;exact Q (Qs (by simp) ..) (q _ _ (λd=>hG h k e.1 ‹(ff 30233627590142873149281027686291056242303978745267590478792834286809848) m o j n (cI _)› d) d)
theorem eD{g:Qo}{d:List V}{e:V}(h:a7 c l p bi ep a)(i:bA (.inr (Y H2)) e6=J (.NS (.ref g)))(j:af T (.NS (.ref g)) [.inst 330 c.A.NV c.A.NW,.inst 686 c.A.N3 c.A.N6,e,.tup (.str (Y H2)::d)] b f a):af (T+1) (.NS (.ref 486)) [.inst 330 c.A.NV c.A.NW,.inst 686 c.A.N3 c.A.N6,e,.tup (.str (Y H2)::d)] b f a:=by
 refine aZ (i:=[J (.inst 330 c.A.NV c.A.NW),J (.inst 686 c.A.N3 c.A.N6),J e,J (.tup (.str (Y H2)::d)),U]) FW rfl rfl ?_;delta w8;lk;refine jN (b:=Qp) h.N8.N8 rfl (by rw [i];rfl) ?_;lk;refine eB h.N8.N8 rfl i ?_;lk;exact j
theorem yx(d:a7 c l p bi ep a)(e:b (.int 6) a):af (T+1) (.NS (.ref 528)) [.inst 330 c.A.NV c.A.NW,.str (Y "L")] b f a:=by
 refine aZ (i:=[J (.inst 330 c.A.NV c.A.NW),J (.str (Y "L"))]) F3 rfl rfl ?_;delta xe;lk;refine eB (s:=.tup [.int 0,.int 6,.int 0,.tup []]) d.N8.Ps rfl tb_g% ?_;lk;exact e
theorem H6{b:Int}(a:p.length=6):gk (da p bi) 6 (.tup [.int 7,.int b])=J (da p (J b)):=by
 unfold gk;rw [Qt ⟨by exact(aH 25226),by rw [kF];exact(aN 2525938096980) a⟩];unfold da;refine Q (List.set_append_right _ _ (by simp [a]) ..) ?_;simp [a,rX]
theorem H7{a:Int}(b:p.length=6):bW (da p (J a)) 6=J (.tup [.int 7,.int a]):=by
 unfold bW;refine Q (Qt ‹(aH 25226)› ..) ?_;unfold da;refine Q (R5 (by simp [b]) ..) ?_;simp [b,rX]
theorem H8{d:Int}(e:a7 c l p bi ep a)(g:p.length=6)(i:l1<1000000)(h:b (.int (l1+1)) (a.set c.A.na (.list (da p (J d))))):af (T+2) (.NS (.ref 535)) [.inst 330 c.A.NV c.A.NW,.inst 686 c.A.N3 c.A.N6,.int l1,.tup [.str (Y "setlabel"),.int d,.str (Y "L")]] b f a:=by
 refine aZ (i:=[J (.inst 330 c.A.NV c.A.NW),J (.inst 686 c.A.N3 c.A.N6),J (.int l1),J (.tup [.str (Y "setlabel"),.int d,.str (Y "L")]),U,U]) F4 rfl rfl ?_;delta xf;lk;refine yx e (ip e.num (H6 g) ?_);lk;exact h
theorem H9{d:Int}(e:a7 c l p (J d) ep a)(g:p.length=6)(h:b (.int d) a):af (T+2) (.NS (.ref 542)) [.inst 330 c.A.NV c.A.NW,.str (Y "L")] b f a:=by
 refine aZ (i:=[J (.inst 330 c.A.NV c.A.NW),J (.str (Y "L")),U,U,U,U]) F5 rfl rfl ?_;delta xg;lk;refine yx e (c6 e.num (H7 g) ?_);lk;exact h
end
section
variable{b:bF}{f:bt}{ca:aa}
def r1(c:aO)(e:aR)(i:aa)(k:List N)(l:Nat)(b:bF)(f:bt):bF:=λa1 a j=>match a1 with
 |.N9 s=>b (.N9 s) a j
 |_=>ei (λa g h d=>bN c e i (av c e i a) a g h d) (λa g h d=>aw c e k a g h d) l a b f j
theorem hu(c:bN n j ca (av n j ca i) i (λA g=>c5 A (aw n j r i (r1 n j ca r T b f) f g) (b .NX i g)) (λg=>f i g) a):ei (λh k m d=>bN n j ca (av n j ca h) h k m d) (λh k m d=>aw n j r h k m d) (T+1) i b f a:=by
 exact c
theorem ja(c:ei (λg h k d=>bN n j ca (av n j ca g) g h k d) (λg h k d=>aw n j r g h k d) T i b f a):r1 n j ca r T b f .NX i a:=c
theorem Ia(c:b (.N9 s) i a):r1 n j ca r T b f (.N9 s) i a:=c
end
def gC(a:ch):c8:=⟨a.rows,a.d,f6 a.rows⟩
theorem jb{a:Int}{b:b4}(c:ap[v]? =J (a,b)):bW (ap.map cL) (v:Int)=J (.tup [.int a,cx b,.int 1]):=by
 unfold bW;refine Q (Qt ‹(aN 1418)› ..) (Q (RE ..) (Q (Rb ..) (Q (c ..) ?_)));rfl
theorem yy{a:List Int}(b:v<a.length):bW (a.map .int) (v:Int)=J (.int (a.getD v 0)):=by
 unfold bW;refine Q (Qt ‹(aN 1418)› ..) (Q (RE ..) (Q (Rb ..) (Q (RN ..) (Q (Rh b ..) ?_))));rfl
theorem r2:∀MJ:List Int,cZ (MJ.map .int)=J (MJ.map .inl)
 |[]=>rfl
 |o::MJ=>by
  show(J (Uk o:am)).bind (λa=>(cZ (MJ.map .int)).map (a::·))=_;refine Q (r2 MJ ..) ?_;rfl
theorem Ib{a:Int}{b:List Int}(c:a∈b):gL (.int a) (b.map .int)=J Qp:=by
 show(cZ (b.map .int)).map _=_;refine Q (r2 ..) ?_;simp only [Uv,Tb,R1];exact(aU (.inl a) (RH.mpr (aU a c rfl)) (QD rfl))
section
theorem yz{e:V}{d:Int}(g:a7 c l p bi ep a)(h:f6 c.rows d=J v)(i:b (.tup [.str (Y "jump"),.int v]) a):af (T+3) (.NS (.ref 556)) [.inst 330 c.A.NV c.A.NW,.inst 686 c.A.N3 c.A.N6,e,.tup [.str (Y "goto"),.int d]] b f a:=by
 refine aZ (i:=[J (.inst 330 c.A.NV c.A.NW),J (.inst 686 c.A.N3 c.A.N6),J e,J (.tup [.str (Y "goto"),.int d]),U]) F7 rfl rfl ?_;delta xi;lk;exact mR g h i
theorem Ic{g:V}{e:List Int}{d:Nat}(h:a7 c l p bi ep a)(k:d<6)(m:p.length=6)(n:1≤p.getD d 0)(i:p.getD d 0≤(e.length:Int))(o:f6 c.rows (e.getD (p.getD d 0-1).toNat 0)=J v)(q:b (.tup [.str (Y "jump"),.int v]) a):af (T+7) (.NS (.ref 563)) [.inst 330 c.A.NV c.A.NW,.inst 686 c.A.N3 c.A.N6,g,.tup [.str (Y "cgoto"),.lst (e.map .int),dx d]] b f a:=by
 refine aZ (i:=[J (.inst 330 c.A.NV c.A.NW),J (.inst 686 c.A.N3 c.A.N6),J g,J (.tup [.str (Y "cgoto"),.lst (e.map .int),dx d]),U,U,U,U]) xj rfl rfl ?_;delta rr;lk;refine lB h k m ?_;lk;refine yc (by refine Q (QL ..) ?_;exact i) ?_;lk;have j:p.getD d 0-1=((p.getD d 0-1).toNat:Int):=by exact(aC 6908677957894910008360143287576790600) n (cz _)
 refine Q (j ..) (cc (yy ‹(bx 17374791313209552) j i›) ?_);lk;exact mR h o q
theorem Ie{e:List Int}{d:Nat}(h:a7 c l p bi ep a)(i:d<6)(j:p.length=6)(k:¬(1≤p.getD d 0∧p.getD d 0≤(e.length:Int)))(n:l1<1000000)(g:b (.int (l1+1)) a):af (T+7) (.NS (.ref 563)) [.inst 330 c.A.NV c.A.NW,.inst 686 c.A.N3 c.A.N6,.int l1,.tup [.str (Y "cgoto"),.lst (e.map .int),dx d]] b f a:=by
 refine aZ (i:=[J (.inst 330 c.A.NV c.A.NW),J (.inst 686 c.A.N3 c.A.N6),J (.int l1),J (.tup [.str (Y "cgoto"),.lst (e.map .int),dx d]),U,U,U,U]) xj rfl rfl ?_;delta rr;lk;refine lB h i j ?_;by_cases m:1≤p.getD d 0
 ·lk;refine yd (by refine Q (QL ..) ?_;exact(aC 155445289886004463176) m k) ?_;lk;exact g
 ·lk;exact g
theorem Ig{i:V}{d:List Int}{e:Int}(g:a7 c l p (J e) ep a)(m:p.length=6)(n:d=[]∨e∈d)(j:f6 c.rows e=J v)(k:b (.tup [.str (Y "jump"),.int v]) a):af (T+3) (.NS (.ref 570)) [.inst 330 c.A.NV c.A.NW,.inst 686 c.A.N3 c.A.N6,i,.tup [.str (Y "agoto"),.str (Y "L"),.lst (d.map .int)]] b f a:=by
 refine aZ (i:=[J (.inst 330 c.A.NV c.A.NW),J (.inst 686 c.A.N3 c.A.N6),J i,J (.tup [.str (Y "agoto"),.str (Y "L"),.lst (d.map .int)]),U,U,U,U]) F8 rfl rfl ?_;delta xk;lk;refine H9 g m ?_;induction d using QH with
 |nil=>
  lk;exact mR g j k
 |cons o q=>
  have r:e∈o::q:=by
   rcases n with h|h
   ·cases h
   ·exact h
  lk;refine mM (Ib r) ?_;lk;exact mR g j k
def lC(a:Int):Int:=if a=0 then 0 else if a>0 then 1 else-1
theorem Ih(c:b (.int (lC o)) a):af (T+2) (.NS (.ref 472)) [.int o] b f a:=by
 refine aZ (i:=[J (.int o),U,U]) FV rfl rfl ?_;delta w6;unfold lC at c;by_cases d:o=0
 ·rw [Qt d]at c;lk;exact c
 ·rw [Qs d]at c;by_cases e:o>0
  ·rw [Qt e]at c;lk;exact c
  ·rw [Qs e]at c;lk;exact c
theorem Ii{i:V}{d:Nat}(j:a7 c l p bi ep a)(o:d<6)(q:p.length=6)(r:f6 c.rows (if p.getD d 0<0 then h else if p.getD d 0=0 then k else m)=J v)(s:b (.tup [.str (Y "jump"),.int v]) a):af (T+7) (.NS (.ref 577)) [.inst 330 c.A.NV c.A.NW,.inst 686 c.A.N3 c.A.N6,i,.tup [.str (Y "aif"),dx d,.int h,.int k,.int m]] b f a:=by
 refine aZ (i:=[J (.inst 330 c.A.NV c.A.NW),J (.inst 686 c.A.N3 c.A.N6),J i,J (.tup [.str (Y "aif"),dx d,.int h,.int k,.int m]),U,U,U,U]) F9 rfl rfl ?_;delta xl;lk;refine lB j o q ?_;lk;refine Ih ?_;have t: -1≤lC (p.getD d 0)∧lC (p.getD d 0)≤1:=by
  unfold lC;split
  ·exact(aH 1289603838)
  ·by_cases n:p.getD d 0>0
   ·refine Q (Qt n ..) ?_;decide
   ·refine Q (Qs n ..) ?_;decide
 lk;refine qi (s:=.int (if p.getD d 0<0 then h else if p.getD d 0=0 then k else m)) ?_ ?_
 ·unfold lC;by_cases e:p.getD d 0=0
  ·refine Q (Qt e ..) (Q (Qs ‹(ay 511723104) e› ..) (Q (Qt e ..) ?_));rfl
  ·by_cases g:p.getD d 0>0
   ·refine Q (Qs e ..) (Q (Qt g ..) (Q (Qs ‹(ay 511710096) g› ..) (Q (Qs e ..) ?_)));rfl
   ·refine Q (Qs e ..) (Q (Qs g ..) (Q (Qt ‹(ay 226290942159660) g e› ..) ?_));rfl
 lk;exact mR j r s
theorem r3{e:V}{d:cf}{g:V}(h:a7 c l p bi ep a)(i:d.v<6)(j:p.length=6)(k:d.ev p=Qp)(m:af (T+8) (.NS (.ref 486)) [.inst 330 c.A.NV c.A.NW,.inst 686 c.A.N3 c.A.N6,e,g] b f a):af (T+9) (.NS (.ref 584)) [.inst 330 c.A.NV c.A.NW,.inst 686 c.A.N3 c.A.N6,e,.tup [.str (Y "lif"),g1 d,g]] b f a:=by
 refine aZ (i:=[J (.inst 330 c.A.NV c.A.NW),J (.inst 686 c.A.N3 c.A.N6),J e,J (.tup [.str (Y "lif"),g1 d,g]),U,U]) xm rfl rfl ?_;delta rs;lk;refine mO h i j (Q (k ..) ?_);lk;exact m
theorem r4{d:cf}{e:V}(g:a7 c l p bi ep a)(h:d.v<6)(i:p.length=6)(j:d.ev p=Qq)(m:l1<1000000)(k:b (.int (l1+1)) a):af (T+9) (.NS (.ref 584)) [.inst 330 c.A.NV c.A.NW,.inst 686 c.A.N3 c.A.N6,.int l1,.tup [.str (Y "lif"),g1 d,e]] b f a:=by
 refine aZ (i:=[J (.inst 330 c.A.NV c.A.NW),J (.inst 686 c.A.N3 c.A.N6),J (.int l1),J (.tup [.str (Y "lif"),g1 d,e]),U,U]) xm rfl rfl ?_;delta rs;lk;refine mO g h i (Q (j ..) ?_);lk;exact k
theorem yA{c d:V}(g:l1<1000000)(e:b (.int (l1+1)) a):af (T+1) (.NS (.ref 605)) [c,MR,.int l1,d] b f a:=by
 refine aZ (i:=[J c,J MR,J (.int l1),J d]) Gc rfl rfl ?_;delta xp;lk;exact e
theorem Ij{c d e:V}(g:b (.tup [.str (Y "return"),.int 0]) a):af (T+1) (.NS (.ref 633)) [d,MR,c,e] b f a:=by
 refine aZ (i:=[J d,J MR,J c,J e]) Gf rfl rfl ?_;delta xt;lk;exact g
theorem Ik{c d:V}(e:b (.tup [.str (Y "return"),.int 0]) a):af (T+1) (.NS (.ref 626)) [d,MR,c,.tup [.str (Y "return"),.none]] b f a:=by
 refine aZ (i:=[J d,J MR,J c,J (.tup [.str (Y "return"),.none]),U]) Ge rfl rfl ?_;delta xs;lk;exact e
theorem yB{d:Nat}{e:V}(g:a7 c l p bi ep a)(h:c.d.N7 l1=J d)(m:d<1000000)(i:b (.int (d+1)) a):af (T+2) (.NS (.ref 598)) [.inst 330 c.A.NV c.A.NW,.inst 686 c.A.N3 c.A.N6,.int l1,e] b f a:=by
 refine aZ (i:=[J (.inst 330 c.A.NV c.A.NW),J (.inst 686 c.A.N3 c.A.N6),J (.int l1),J e,U]) Gb rfl rfl ?_;delta xo;refine ae g.N8.N7 λO j k=>?_;lk;refine mQ g ?_;lk;refine eB j rfl (k _ _ h) ?_;lk;exact i
theorem Il{s:V}(o:a7 c l p bi ep a)(x:p.length=6)(y:e2 c.rows)(H:c.rows.length<1000000)(I:gT (gC c) p l1 v)(j:b (.int v) a):af (T+9) (.NS (.ref 591)) [.inst 330 c.A.NV c.A.NW,.inst 686 c.A.N3 c.A.N6,.int l1,s] b f a:=by
 refine aZ (i:=[J (.inst 330 c.A.NV c.A.NW),J (.inst 686 c.A.N3 c.A.N6),J (.int l1),J s,U,U,U,U,U]) Ga rfl rfl ?_;delta xn;refine ae o.N8.N1 λO C D=>?_;lk;refine mQ o ?_;lk;refine lh ?_;have q:∀{v:Nat}{E:aW},c.rows[v]? =J E→v<1000000:=λh=>by
  have:=(QE.mp h).1;exact(ak 1654489473055524) H this
 have K:∀(v j:Nat),gT (gC c) p v j→∀(g:V) (k:Option V) (e:bF),(∀k,e (.N9 (.int j)) [J (.inst 330 c.A.NV c.A.NW),J (.inst 686 c.A.N3 c.A.N6),J g,J s,J (.inst 426 c.A.fd c.A.N4),k,U,U,U] a→True)→(∀F,e (.N9 (.int j)) F a)→∃r,ei (λt z A B=>bN ab (af (T+8)) (.k (.bool Qp)) (av ab (af (T+8)) (.k (.bool Qp)) t) t z A B) (λt z A B=>aw ab (af (T+8)) [.asg (.name 6) (.sub (.sub (.attr (.v 1) (Y "statements")) (.v 5)) (.k (.int 1))),.iff (.or [.cmp (.sub (.v 6) (.k (.int 0))) [.In] [.tup [.k (.str (Y "else")),.k (.str (Y "endif"))]],.call (.k (.NS (.ref 341))) [.v 0,.sub (.v 6) (.k (.int 1))]]) [.ret (J (.bin .add (.v 5) (.k (.int 1))))] [],.asg (.name 5) (.sub (.attr (.v 4) (Y "next_arm")) (.v 5))] t z A B) r [J (.inst 330 c.A.NV c.A.NW),J (.inst 686 c.A.N3 c.A.N6),J g,J s,J (.inst 426 c.A.fd c.A.N4),J (.int v),k,U,U] e (λd L=>f L) a:=by
  intro v j h;induction h with
  |Op h=>
   intro g k e d i;have u:=q h;refine⟨1,hu ?_⟩;lk;refine cc (jb h) ?_;unfold cx;lk;exact i _
  |Ot h=>
   intro g k e d i;have u:=q h;refine⟨1,hu ?_⟩;lk;refine cc (jb h) ?_;unfold cx;lk;exact i _
  |@yes v M m h w=>
   intro g k e d i;refine⟨1,hu ?_⟩;lk;rcases h with h|h
   all_goals
    have u:=q h;have bm:eQ m:=y _ (QB h);refine cc (jb h) ?_;unfold cx;lk;refine mO o bm.1 x (Q (w ..) ?_);lk;exact i _
  |@no v N j M m h w G E n=>
   intro g k e d i;rcases h with h|h
   ·refine bY (n g (J (cx (.ifs m))) e (λd d=>trivial) i) λr n=>⟨r+1,hu ?_⟩;lk;have u:=q h;have bm:eQ m:=y _ (QB h);refine cc (jb h) ?_;unfold cx;lk;refine mO o bm.1 x (Q (w ..) ?_);lk;refine eB C rfl (D _ _ G) ?_;lk;exact n
   ·refine bY (n g (J (cx (.Ox m))) e (λd d=>trivial) i) λr n=>⟨r+1,hu ?_⟩;lk;have u:=q h;have bm:eQ m:=y _ (QB h);refine cc (jb h) ?_;unfold cx;lk;refine mO o bm.1 x (Q (w ..) ?_);lk;refine eB C rfl (D _ _ G) ?_;lk;exact n
 exact K l1 v I (.int l1) U _ (λd d=>trivial) (λF=>iq j)
end
section
theorem Im{c d:Int}{e g:V}(h:f a):af (T+3) (.NS (.ref 313)) [.int 0,.int c,.int d,.int 0,g,e] b f a:=by
 refine aZ (i:=[J (.int 0),J (.int c),J (.int d),J (.int 0),J g,J e,U,U,U,U,U,U,U,U,U]) wP rfl rfl ?_;delta ro;lk;refine yh (c:=Qp) rfl ?_;lk;exact h
theorem Io{e g d:Int}{v:Nat}(r:a7 c l p bi ep a)(s:gV v e g d)(t:d≠0)(w:b (.int (bD e g d:Int)) a):af (T+5) (.NS (.ref 313)) [.int 0,.int e,.int g,.int d,.ref c.A.op,.inst 665 c.A.ld c.A.O9] b f a:=by
 refine aZ (i:=[J (.int 0),J (.int e),J (.int g),J (.int d),J (.ref c.A.op),J (.inst 665 c.A.ld c.A.O9),U,U,U,U,U,U,U,U,U]) wP rfl rfl ?_;delta ro;have x:=kz s;have i:=r.N8.lim;refine fO s λz j k m n o q=>?_;have y:(RM (g-e+d) d).natAbs≤100:=by
  rw [Int.natAbs_tdiv];exact Qv (Nat.div_le_self _ _) ‹(k0 3084947898128589210136151913699396995264670433954361551186243832664522748235661329328888) m o j k n q (cI _)›
 lk;refine yh (c:=Qq) (Qx t) ?_;lk;refine eB (s:=.NS (.ref 292)) r.N8.Pt rfl tb_g% ?_;lk;refine yg i ‹(ck 238289083192621390270906992285473840851704) m j n k› ?_;lk;refine rV i ‹(b6 1390878599805530933443740286712463486357876895807212451556088) m o j k n q› ?_;lk;refine HK i ⟨t,by exact(aC 111797219307200508295479212394720439044227832) o q (cI _)⟩ ‹(aC 137230496461746979341320244798306847606291212) y (cI _)› ?_;lk;have u:(if(0:Int)>RM (g-e+d) d then 0 else RM (g-e+d) d)=(bD e g d:Int):=by
  unfold bD;by_cases h:(0:Int)>RM (g-e+d) d
  ·rw [Qt h,V5 (Tn h)];rfl
  ·rw [Qs h];exact(Sm (SS.mp h)).symm
 rw [u];lk;exact oN ‹(aC 668800039533304762589790048) u x› w
set_option tactic.hygienic true in
theorem Ip{r E:Nat}(F:e2 c.rows)(G:c.rows.length<1000000)(W:r<1000000){z:bF}:∀(MT:List Nat) (h1:Nat) (p:an) (ep:Nat→Option (Nat×Int)) (a:I) (v:Nat) (as:cG) (c2 hh rt MV M:Option V),
  a7 c l p bi ep a→fL (gC c) r MT ⟨v,p,bi,ep⟩=J as→bs h1 p→h1+4*MT.length<2000000000→dW ep→l<1000000→(∀d i,a7 c l as.xs as.lc as.N2 d→z (.N9 (.int as.pos)) i d)→
  c0 ab (af (T+5)) (.name 5) (λcl fw ht d=>aw ab (af (T+5)) [.iff (.cmp (.tup [.attr (.v 1) (Y "name"),.v 5]) [.NotIn] [.attr (.v 0) (Y "loops")]) [.cont] [],.asg (.tup [6,7]) (.sub (.attr (.v 0) (Y "loops")) (.tup [.attr (.v 1) (Y "name"),.v 5])),.asg (.name 8) (.sub (.sub (.sub (.attr (.v 1) (Y "statements")) (.v 5)) (.k (.int 1))) (.k (.int 2))),.asg (.name 9) (.call (.k (.NS (.ref 367))) [.v 0,.v 8]),.expr (.NY (.attr (.v 0) (Y "memory")) (Y "store") [.v 9,.call (.k (.NS (.ref 388))) [.v 0,.k (.str (Y "add")),.sub (.v 8) (.k (.int 1)),.NY (.attr (.v 0) (Y "memory")) (Y "load") [.v 9],.v 7]]),.iff (.cmp (.v 6) [.Gt] [.k (.int 1)]) [.asg (.item (.attr (.v 0) (Y "loops")) (.tup [.attr (.v 1) (Y "name"),.v 5])) (.tup [.bin .sub (.v 6) (.k (.int 1)),.v 7]),.ret (J (.bin .add (.v 5) (.k (.int 1))))] [],.expr (.NY (.attr (.v 0) (Y "loops")) (Y "pop") [.tup [.attr (.v 1) (Y "name"),.v 5]])] cl fw ht d) (MT.map λ(x:Nat)=>V.int (x:Int)) [J (.inst 330 c.A.NV c.A.NW),J (.inst 686 c.A.N3 c.A.N6),J (.inst 426 c.A.fd c.A.N4),J (.int r),J (.int E),c2,hh,rt,MV,M,U,U] (e5 ab (af (T+5)) [.ret (J (.bin .add (.v 3) (.k (.int 1))))] z (λZ bl=>f bl)) (λZ bl=>f bl) a:=by
 intro MT;induction MT with
 |nil=>
  intro h1 p ep a v as c2 hh rt MV M b e h k s t m;refine gA (eC ?_);cases e;lk;exact m a _ b
 |cons x MT K=>
  intro h1 p ep a v as c2 hh rt MV M b e h k s t m;refine sJ (vZ e) λn H g X aa L N P A u e=>?_
  ·refine bk b.PU λO w B Q=>?_;have o:bA (gB x) O=J (.tup [.int n,.int H]):=Q _ _ _ A;have y:=s _ _ _ A;have bm:gV g L N P:=F _ (QB u);have ad:x<1000000:=by have:=(QE.mp u).1;have R:c.rows.length<1000000:=G;show x<1000000;exact TH this R
   have S:=jL h g;have q:=bm.1;rw [Qw]at k;show c0 _ _ _ _ (V.int (x:Int)::_) _ _ _ _;refine iu ?_;lk;refine Hx (d:=gB x) (b:=Qp) w rfl (by rw [o];rfl) ?_;lk;refine Hl (f:=gB x) w rfl o ⟨_,rfl,?_⟩;lk;refine cc (jb u) ?_;unfold cx;lk;refine oR b bm.1 ?_;lk;refine rW b.N8.mem b.num (by rw [kF,h.1];exact(aN 951728511780) q) ‹(aN 44852878116) q› (yn (by rw [h.1];exact bm.1)) ?_;lk;refine oS b (rV b.N8.lim ‹(pD 10770480927608485379743329408370083365762112024133232593916517492896811237635564096280) y S k (cI _)› ?_);lk;refine oO b.N8.mem b.num (by rw [kF,h.1];exact(aN 951728511780) q) ‹(aN 44852878116) q› (r0 (by rw [h.1];exact bm.1)) ?_;have al:a7 c l (d4 g H p) bi ep _:=mP b (d:=p.set g (p.getD g 0+H)) (g:=bi);have j:(a.set c.A.na (.list (da (p.set g (p.getD g 0+H)) bi))) c.A.Ou=J (.N5 O):=by rw [a0 b.PB.Ph.symm];exact w
   lk;rcases e with⟨C,e⟩|⟨C,e⟩
   ·subst e;lk;refine x9 (c:=gB x) j rfl (by unfold a4;exact(ak 1654489416432420) t B) ?_;have D:=yt (b:=x) (g:=n-1) (h:=H) (w:=0) al j (by rw [yv o];exact B);rw [show((n-1:Nat):Int)=(n:Int)-1 by exact(bx 23377162571436791758428685186447499998120728) y C (az _ _)]at D;lk;exact m _ _ D
   ·lk;refine ym j ?_;lk;refine ya (d:=gB x) j rfl o ?_;lk;exact e8 (K (h1+4) (d4 g H p) (a5 ep x U) _ v as _ _ _ _ _ (yu al j) e (rj h y.2.2) ‹(ak 148455190591036054252462404) k› (ow s x) t m)
theorem yC{g h:Nat}{e:cG}(i:a7 c l p bi ep a)(m:e2 c.rows)(n:c.rows.length<1000000)(o:g<1000000)(q:c.d.NU g=J MT)(r:fL (gC c) g (MT.drop h) ⟨v,p,bi,ep⟩=J e)(s:bs h1 p)(j:MT.length<1000000)(k:h<1000000)(t:h1+4*MT.length<2000000000)(u:dW ep)(w:l<1000000)(x:∀d,a7 c l e.xs e.lc e.N2 d→b (.int e.pos) d):af (T+6) (.NS (.ref 619)) [.inst 330 c.A.NV c.A.NW,.inst 686 c.A.N3 c.A.N6,.inst 426 c.A.fd c.A.N4,.int g,.int h] b f a:=by
 refine aZ (i:=[J (.inst 330 c.A.NV c.A.NW),J (.inst 686 c.A.N3 c.A.N6),J (.inst 426 c.A.fd c.A.N4),J (.int g),J (.int h),U,U,U,U,U,U,U]) Gd rfl rfl ?_;delta xr;refine bk i.N8.NU λO y z E=>bk (z _ _ q) λF A B C=>?_;clear C;refine fH (h4 ?_);lk;refine eB y rfl A ?_;lk;refine H4 B ‹(aN 44848085796) k› (by rw [QL];exact(aN 44848085796) j) ((aU _ rfl ?_));rw [←List.map_drop];refine Ip m n o (MT.drop h) h1 p ep a v e _ _ _ _ _ i r s (by rw [Wz];exact(aE 29749039152325454508301827084383181250884) t j k (az _ _)) u w ?_;intro d G D;exact x d D
theorem Iq:∀(g h:List Nat) (x:Nat),¬x∈g→pU (.int x) ((g++x::h).map λ(x:Nat)=>V.int (x:Int))=J g.length:=by
 have e:∀a:List Nat,cZ (a.map λ(x:Nat)=>V.int (x:Int))=J (a.map λ(x:Nat)=>(.inl (x:Int):am)):=by
  intro a;induction a with
  |nil=>rfl
  |cons b a c=>
   show(J (Uk (b:Int):am)).bind (λf=>(cZ (a.map λ(x:Nat)=>V.int (x:Int))).map (f::·))=_;rw [c];rfl
 intro g h x d;show(cZ _).bind _=_;rw [e,Tu];rw [Qt (R1.mpr ⟨(Uk (x:Int):am),RH.mpr ⟨x,by simp,rfl⟩,by simp⟩)];congr 1;induction g with
 |nil=>simp [Wl]
 |cons b g c=>
  have i:b≠x:=λj=>d (by rw [j];exact .head _);have k:¬x∈g:=λl=>d (.tail _ l);rw [Ux,Rv,Wl,Qx (by simp;exact(ak 375563825244) i)];show _+1=_+1;rw [c k]
theorem yD(b:Nat→Nu)(a:Nat)(d c:Nu):a5 (a5 b a d) a c=a5 b a c:=by
 funext ca;unfold a5;split<;>rfl
theorem Ir{i e g:Int}{h:Nat}(d:a7 c l p bi ep a)(k:gV h e g 0)(j:f a):af (T+9) (.NS (.ref 612)) [.inst 330 c.A.NV c.A.NW,.inst 686 c.A.N3 c.A.N6,.int l1,.tup [.str (Y "do"),.int i,dx h,dX e,dX g,dX 0]] b f a:=by
 refine aZ (i:=[J (.inst 330 c.A.NV c.A.NW),J (.inst 686 c.A.N3 c.A.N6),J (.int l1),J (.tup [.str (Y "do"),.int i,.tup [.str (Y "var"),.int 0,.str (Y (hr h))],dX e,dX g,dX 0]),U,U,U,U,U,U,U,U,U,U,U,U]) xq rfl rfl ?_;delta ru;lk;refine mQ d ?_;lk;refine er d ?_;lk;refine er d ?_;lk;refine er d ?_;lk;exact Im j
theorem Is{z g i e:Int}{k:Nat}{u:dU}(h:a7 c l p bi ep a)(A:gV k g i e)(B:e≠0)(v:bs h1 p)(L:4≤h1)(M:h1+4*MO<2000000000)(N:dW ep)(C:l<1000000)(O:e2 c.rows)(P:c.rows.length<1000000)(D:MO<1000000)(Q:i5 MO c.d)(ay:l1<1000000)(R:∀l0,c.d.NZ l1=J l0→l0<1000000)
  (j:∃j,a c.A.Ou=J (.N5 j)∧j.length+1≤l)
  (m:v0 (gC c) ⟨l1,p,bi,ep⟩ u k g i e)
  (S:∀as d,u=.to as→as.pos=l1+1→c.d.NU l1=U→a7 c l as.xs as.lc as.N2 d→b (.int (l1+1)) d)
  (V:∀as d,u=.to as→a7 c l as.xs as.lc as.N2 d→b (.tup [.str (Y "jump"),.int as.pos]) d):af (T+9) (.NS (.ref 612)) [.inst 330 c.A.NV c.A.NW,.inst 686 c.A.N3 c.A.N6,.int l1,.tup [.str (Y "do"),.int z,dx k,dX g,dX i,dX e]] b f a:=by
 refine aZ (i:=[J (.inst 330 c.A.NV c.A.NW),J (.inst 686 c.A.N3 c.A.N6),J (.int l1),J (.tup [.str (Y "do"),.int z,.tup [.str (Y "var"),.int 0,.str (Y (hr k))],dX g,dX i,dX e]),U,U,U,U,U,U,U,U,U,U,U,U]) xq rfl rfl ?_;delta ru;have az:=kz A;refine ae j λj W E=>fO A λo F G X Z aa ab=>?_;lk;refine mQ h ?_;lk;refine er h ?_;lk;refine er h ?_;lk;refine er h ?_;lk;refine Io h ⟨o,F,G,X,Z,aa,ab⟩ B ?_;lk;refine oR h o ?_;lk;refine oO h.N8.mem h.num (by rw [kF,v.1];exact(aN 951728511780) o) ‹(aN 44852878116) o› (r0 (by rw [v.1];exact o)) ?_;have al:=mP h (d:=p.set k g) (g:=bi);have H:(a.set c.A.na (.list (da (p.set k g) bi))) c.A.Ou=J (.N5 j):=by rw [a0 h.PB.Ph.symm];exact W
 lk;refine x9 (c:=gB l1) H rfl (by unfold a4;exact(ak 26455260580319964) E C) ?_;have ad:=fW (gB l1) (.tup [.int (bD g i e:Int),.int e]) j;have I:=yt (b:=l1) (g:=bD g i e) (h:=e) (w:=0) al H ‹(au 83849198211804) E ad›;rcases m with⟨m,-⟩|⟨-,m,l0,n,q,r,w,ag,as,ah,ai⟩|⟨-,m,r,w⟩
 ·exact(B m).elim
 ·have s:=yu I (e:=l1) bJ;have x:c.d.NU l0=J (n++l1::q):=w;have t:=Q _ _ x;rw [Qr,Qw]at t;have aA:(bD g i e:Int)=0:=by exact(aN 682882644) m
  have aj:=R l0 r;lk;refine ym bJ ?_;lk;refine ya (d:=gB l1) bJ rfl (g3 _ _ _) (bE λaB am=>ae s.N8.NZ λaC an ao=>bk s.N8.NU λaD ap aq y=>?_);clear y;refine bk (aq _ _ x) λaF ar K y=>?_;clear y;refine am ?_;lk;refine eB an rfl (ao _ _ r) ?_;lk;refine eB ap rfl ar (HT K ?_);lk;refine Hp K (Iq n q l1 ag) ?_;lk;have av:=yD ep l1 (J (bD g i e,e)) U;rw [av]at s;have aw:(n++l1::q).drop (n.length+1)=q:=by simp
  refine yC (g:=l0) (h:=n.length+1) (h1:=h1) (v:=l1) (MT:=n++l1::q) (e:=as) s O P ‹(aN 44852804388) aj› x (by rw [aw];exact ah) (mG v (Qu _) ‹(bx 1327991418354671107846388847533378470621768440) F L G (cI _)›) (by rw [Qr,Qw];exact(au 27758824158286899302700) t D) ‹(au 108365574000788361516) t D› (by rw [Qr,Qw];exact(aE 5604121743933784903695457350230340) M t) (ow N _) C ?_;intro d ax;lk;exact V as d ai ax
 ·lk;exact S _ _ w rfl r I
end
section
theorem mS{b f:cG}{c:Int}{d:dU}(g:eP (gs M b c) d):∃v,M.Og c=some v∧d=.to ⟨v,b.xs,b.lc,b.N2⟩:=by
 refine ae g λf a h=>?_;unfold gs at a;generalize e:M.Og c=i;induction i using Qm with
 |none=>rw [e]at a;cases a
 |some v=>rw [e]at a;cases a;exact(aU v rfl h)
structure yE(c:ch)(MO h1 l:Nat):Prop where
 Qd:4≤h1
 Qe:h1+4*(MO+1)<2000000000
 Qf:l<1000000
 Pa:e2 c.rows
 Pb:c.rows.length<1000000
 Pw:MO<1000000
 Pj:i5 MO c.d
 hd:∀e l0,c.d.NZ e=some l0→l0<1000000
 Px:∀e l0,c.d.N7 e=some l0→l0<1000000
theorem It{L:Int}{y:b4}{u:dU}(e:a7 c l p bi ep a)(k:yE c MO h1 l)(G:c.rows[l1]? =J (L,y))(j:bs h1 p)(n:dW ep)(B:∃B,a c.A.Ou=J (.N5 B)∧B.length+1≤l)(g:v1 (gC c) ⟨l1,p,bi,ep⟩ u y)
  (q:∀M d as,M.pos=l1→a7 c l M.xs M.lc M.N2 d→bs (h1+4) M.xs→dW M.N2→eO (gC c) M=J as→u=.to as→b (.int (l1+1)) d)
  (C:∀as d,u=.to as→a7 c l as.xs as.lc as.N2 d→(as.pos≠l1+1∨c.d.NU l1=U)→b (.int as.pos) d)
  (v:∀as d,u=.to as→a7 c l as.xs as.lc as.N2 d→b (.tup [.str (Y "jump"),.int as.pos]) d)
  (N:u=.ret→b (.tup [.str (Y "return"),.int 0]) a)
  (Q:u=.fault→f a):af (T+12) (.NS (.ref 486)) [.inst 330 c.A.NV c.A.NW,.inst 686 c.A.N3 c.A.N6,.int l1,cx y] b f a:=by
 have bm:op (L,y):=k.Pa _ (QB G);have o:l1<1000000:=TH (QE.mp G).1 k.Pb;have I:=k.Qe;have r:bs (h1+4) p:=cj j ‹(aN 247489)›;induction y using b4.casesOn with
 |asg D=>
  refine ae g λas h i=>?_;unfold cx jP;exact eD (g:=521) e tb_g% (yw e bm j ‹(ak 504051852819667525956) I› o (q ⟨l1,D.run p,bi,ep⟩ _ as rfl (mP e) (lx j bm) n h i))
 |O8 w D=>
  refine ae g λas h i=>?_;unfold cx;refine eD (g:=584) e tb_g% ?_;have E:eO (gC c) ⟨l1,if w.ev p=true then D.run p else p,bi,ep⟩=J as:=h;generalize m:w.ev p=R;induction R using Qz with
  |true=>
   rw [m,Qt rfl]at E;refine r3 e bm.1.1 j.1 m ?_;unfold jP;exact eD (g:=521) e tb_g% (yw e bm.2 j ‹(ak 504051852819667525956) I› o (q ⟨l1,D.run p,bi,ep⟩ _ as rfl (mP e) (lx j bm.2) n E i))
  |false=>
   rw [m,Qs (by simp)]at E;exact r4 e bm.1.1 j.1 m o (q ⟨l1,p,bi,ep⟩ _ as rfl e r n E i)
 |OL w x=>
  unfold cx;refine eD (g:=584) e tb_g% ?_;rcases g with⟨m,g⟩|⟨m,as,h,i⟩
  ·exact ae (mS (f:=⟨l1,p,bi,ep⟩) g) λF h i=>r3 e bm.1 j.1 m (eD (g:=556) e tb_g% (yz e h (v _ _ i e)))
  ·exact r4 e bm.1 j.1 m o (q ⟨l1,p,bi,ep⟩ _ as rfl e r n h i)
 |OY w=>
  unfold cx;refine eD (g:=584) e tb_g% ?_;rcases g with⟨m,g⟩|⟨m,as,h,i⟩
  ·exact r3 e bm.1 j.1 m (eD (g:=626) e tb_g% (Ik (N g)))
  ·exact r4 e bm.1 j.1 m o (q ⟨l1,p,bi,ep⟩ _ as rfl e r n h i)
 |cont=>
  refine ae g λas h i=>?_;unfold cx;exact eD (g:=605) e tb_g% (yA o (q ⟨l1,p,bi,ep⟩ _ as rfl e r n h i))
 |Ot=>
  refine ae g λas h i=>?_;unfold cx;exact eD (g:=605) e tb_g% (yA o (q ⟨l1,p,bi,ep⟩ _ as rfl e r n h i))
 |goto x=>
  refine ae (mS (f:=⟨l1,p,bi,ep⟩) g) λF h i=>?_;unfold cx;exact eD (g:=556) e tb_g% (yz e h (v _ _ i e))
 |ifs w=>
  refine bk g λaa h i z=>?_;unfold cx;exact eD (g:=591) e tb_g% (Il e j.1 k.Pa k.Pb h (C _ _ z e (.inr i)))
 |Ox w=>
  refine bk g λs h i z=>?_;unfold cx;exact eD (g:=598) e tb_g% (yB e h (k.Px _ _ h) (C ⟨s+1,p,bi,ep⟩ _ z e (.inl (by show s+1≠_;have:l1<s:=i;exact(ak 6909679908) this))))
 |Op=>
  refine bk g λs h i z=>?_;unfold cx;exact eD (g:=598) e tb_g% (yB e h (k.Px _ _ h) (C ⟨s+1,p,bi,ep⟩ _ z e (.inl (by show s+1≠_;have:l1<s:=i;exact(ak 6909679908) this))))
 |Od x K ab ad H=>
  unfold cx;refine eD (g:=612) e tb_g% ?_;by_cases O:H=0
  ·clear G;subst O;refine Ir (T:=T+2) e bm (Q ?_);rcases g with⟨-,g⟩|⟨g,-⟩|⟨g,-⟩
   ·exact g
   ·exact(g rfl).elim
   ·exact(g rfl).elim
  ·refine Is (T:=T+2) e bm O j k.Qd ‹(ak 144975769939645254771012) I› n k.Qf k.Pa k.Pb k.Pw k.Pj o (λs S=>k.hd _ _ S) B g (λas d t A V r=>?_) (λas d t A=>v as d t A);have:=C as d t r (.inr V);rw [A]at this;exact this
 |OS x=>
  refine ae g λas h i=>?_;unfold cx;exact eD (g:=535) e tb_g% (H8 e j.1 o (q ⟨l1,p,J x,ep⟩ _ as rfl (mP e) r n h i))
 |OP W=>
  refine bk g λx P X g=>ae (mS (f:=⟨l1,p,bi,ep⟩) g) λF h i=>?_;have Z:bi=J x:=P;clear P g;clear g;subst Z;unfold cx;exact eD (g:=570) e tb_g% (Ig e j.1 X h (v _ _ i e))
 |OT K ag ah ai=>
  refine ae (mS (f:=⟨l1,p,bi,ep⟩) g) λF h i=>?_;unfold cx;exact eD (g:=577) e tb_g% (Ii e bm j.1 h (v _ _ i e))
 |OU W K=>
  have aj:=jL j K;unfold cx;refine eD (g:=563) e tb_g% ?_;rcases g with⟨t,A,g⟩|⟨t,as,h,i⟩
  ·exact ae (mS (f:=⟨l1,p,bi,ep⟩) g) λF h i=>Ic e bm j.1 t A h (v _ _ i e)
  ·exact Ie e bm j.1 t o (q ⟨l1,p,bi,ep⟩ _ as rfl e r n h i)
 |fin=>
  unfold cx;exact eD (g:=633) e tb_g% (Ij (N g))
theorem Iu{a:Int}:fh (Y "steps") (.int (a+1)) (hs s0 a)=hs s0 (a+1):=by kernel_rfl
theorem Iv(d:a7 c l p bi ep a)(e:l<1000000)(g:b .none (a.set c.A.NV (.ns (hs c.A ((l:Int)+1))))):af (T+1) (.NS (.ref 493)) [.inst 330 c.A.NV c.A.NW] b f a:=by
 refine aZ (i:=[J (.inst 330 c.A.NV c.A.NW),U]) FX rfl rfl ?_;delta w9;refine Hn ?_;lk;refine ly (i7 d.run tb_g% (by show(15:Nat)≤100;decide) (Q (Iu ..) ?_));have al:a7 c (l+1) p bi ep _:=yr d;have h:((l+1:Nat):Int)=(l:Int)+1:=by exact(aN 5751836)
 have i:¬((l+1:Nat):Int)>1000000:=by exact(aN 30300403366692) e
 lk;exact g
end
section
def kH:aa:=.cmp (.v 4) [.Lt] [.call (.k (.NS (.builtin "len"))) [.attr (.v 1) (Y "statements")]]
def oU:List N:=[.expr (.call (.k (.NS (.ref 493))) [.v 0]),.asg (.name 5) (.call (.k (.NS (.ref 486))) [.v 0,.v 1,.v 4,.sub (.sub (.attr (.v 1) (Y "statements")) (.v 4)) (.k (.int 1))]),.iff (.not (.call (.k (.NS (.builtin "isinstance"))) [.v 5,.k (.NS (.type "tuple"))])) [.iff (.and [.cmp (.v 5) [.Eq] [.bin .add (.v 4) (.k (.int 1))],.cmp (.v 4) [.In] [.attr (.v 3) (Y "ending")]]) [.asg (.name 5) (.call (.k (.NS (.ref 619))) [.v 0,.v 1,.v 3,.v 4,.k (.int 0)])] [],.asg (.name 4) (.v 5)] [.iff (.cmp (.sub (.v 5) (.k (.int 0))) [.Eq] [.k (.str (Y "jump"))]) [.asg (.name 4) (.sub (.v 5) (.k (.int 1)))] [.ret (J (.sub (.v 5) (.k (.int 1))))]]]
structure oV(c:ch)(MO:Nat):Prop where
 Pa:e2 c.rows
 Pb:c.rows.length<1000000
 Pw:MO<1000000
 Pj:i5 MO c.d
 hd:∀e l0,c.d.NZ e=some l0→l0<1000000
 Px:∀e l0,c.d.N7 e=some l0→l0<1000000
def eE(a b:Nat):Nat:=4*(a+1)*b+4
set_option tactic.hygienic true in
theorem Iw:eE MO (l+1)=eE MO l+4*(MO+1):=by
 unfold eE;refine Q (Nat.mul_add ..) (Q (Nat.mul_one ..) ?_);exact(ak 4502031369262235615731)
theorem yF{b:cG}{r:dU}{v:bF}(s:a7 c l b.xs b.lc b.N2 a)(e:oV c MO)(H:bs (eE MO l) b.xs)(I:dW b.N2)(w:l+1<1000000)(A:eE MO l+4*(MO+1)<2000000000)(x:eZ (gC c) b r)
  (o:∀as d c2,r=.to as→a7 c (l+1) as.xs as.lc as.N2 d→ei (λk q M d=>bN ab (af (T+12)) kH (av ab (af (T+12)) kH k) k q M d) (λk q M d=>aw ab (af (T+12)) oU k q M d) us [some (.inst 330 c.A.NV c.A.NW),some (.inst 686 c.A.N3 c.A.N6),some cl,some (.inst 426 c.A.fd c.A.N4),some (.int as.pos),c2,none,none,none,none,none,none,none] v (λZ bl=>f bl) d)
  (K:∀d i,r=.ret→a7 c (l+1) b.xs b.lc b.N2 d→v (.N9 (.int 0)) i d)
  (L:∀d,r=.fault→a7 c (l+1) b.xs b.lc b.N2 d→f d):
  ei (λk q M d=>bN ab (af (T+12)) kH (av ab (af (T+12)) kH k) k q M d) (λk q M d=>aw ab (af (T+12)) oU k q M d) (us+1) [some (.inst 330 c.A.NV c.A.NW),some (.inst 686 c.A.N3 c.A.N6),some cl,some (.inst 426 c.A.fd c.A.N4),some (.int b.pos),c2,none,none,none,none,none,none,none] v (λZ bl=>f bl) a:=by
 refine dY x λN P R x=>?_;have y:c.rows[b.pos]? =some (N,P):=R;have B:=(QE.mp y).1;have S:=e.Pb;have ap:(b.pos:Int)<((c.rows.map cL).length:Int):=by refine Q (QL ..) ?_;exact(ak 2607909156) B
 refine hu ?_;unfold kH oU;lk;refine Iv s ‹(aN 717644870388) w› ?_;have al:a7 c (l+1) b.xs b.lc b.N2 (a.set c.A.NV (.ns (hs c.A ((l:Int)+1)))):=yr s;have V:yE c MO (eE MO l) (l+1):=⟨by unfold eE;exact(aN 15840229),A,w,e.Pa,e.Pb,e.Pw,e.Pj,e.hd,e.Px⟩;have W:∃O,(a.set c.A.NV (.ns (hs c.A ((l:Int)+1)))) c.A.Ou=some (.N5 O)∧O.length+1≤l+1:=by
  exact bk s.PU λO p X aq=>(aU O (by refine Q (a0 s.PB.a2.symm ..) ?_;exact p) ‹(ak 2380421388) X›)
 lk;refine cc (jb y) ?_;lk;refine It al V y H I W x ?_ ?_ ?_ ?_ ?_
 ·intro C d as t j aa ad n g;unfold eO at n;rw [t]at n;refine bk j.N8.NU λae u D z=>?_;have E:(b.pos:Int)+1=(b.pos:Int)+1:=rfl;generalize m:c.d.NU b.pos=ag;induction ag using Qm with
  |none=>
   rw [show(gC c).d.NU b.pos=none from m]at n;obtain rfl:=Qj n;lk;refine oM (b:=Qq) u rfl (by refine Q (z _ m ..) ?_;rfl) ?_;lk;refine ja ?_;have:=o _ d (some (.int ((b.pos:Int)+1))) g j;exact this
  |some F=>
   rw [show(gC c).d.NU b.pos=some F from m]at n;refine bk (D _ _ m) λar ah ax ai=>?_;clear ai;have G:=e.Pj _ _ m;have aj:=e.Pw;lk;refine oM (b:=Qp) u rfl (by refine Q (ah ..) ?_;rfl) ?_;lk;refine yC (g:=b.pos) (h:=0) (h1:=eE MO l+4) (v:=C.pos) (MT:=F) (e:=as) j e.Pa e.Pb ‹(au 60991342059810159396) S B t› m (by refine Q (List.drop_zero ..) (Q (t ..) ?_);obtain⟨ay,az,aA,aB⟩:=C;clear j;cases t;exact n) aa ‹(ak 1654489416432420) aj G› ‹(aH 19083)› ‹(au 5472707227630534221750180421956) A G› ad w ?_;intro am an;lk;exact ja (o as am (some (.int as.pos)) g an)
 ·intro as d g j ao;refine bk j.N8.NU λae u D z=>?_;by_cases p:as.pos=b.pos+1
  ·have m:c.d.NU b.pos=none:=by
    rcases ao with h|h
    ·exact(h p).elim
    ·exact h
   have E:(as.pos:Int)=(b.pos:Int)+1:=by exact(ak 675907681620) p
   lk;refine oM (b:=Qq) u rfl (by refine Q (z _ m ..) ?_;rfl) ?_;lk;exact ja (o as d (some (.int as.pos)) g j)
  ·have E:¬(as.pos:Int)=(b.pos:Int)+1:=by exact(ak 97330763456604) p
   lk;exact ja (o as d (some (.int as.pos)) g j)
 ·intro as d g j;lk;exact ja (o as d (some (.tup [.str (Y "jump"),.int as.pos])) g j)
 ·intro g;lk;exact Ia (K _ _ g al)
 ·intro g;exact L _ g al
end
set_option genInjectivity true
inductive b1 where
 |Ok (z:Nat)
 |OQ (h:Nat)
 |O0 (l:Nat)
structure ce where
 (fd N4 OI NX be Oj Oi Oc lo:Addr)
def r5(a:ce):List (QA×V):=[(Y "labels",.ref a.OI),(Y "next_arm",.ref a.NX),(Y "block_end",.ref a.be),(Y "do_end",.ref a.Oj),(Y "ending",.ref a.Oi)]
def eT(a:List Nat):List V:=a.map λ(x:Nat)=>V.int (x:Int)
def dp(a:Int×Nat×Int):V:=.tup [.int a.1,.int a.2.1,.int a.2.2]
structure lD(ap:List aW)(np:Nat)(O:List (am×V)):Prop where
 PC:∀v b2 x,ap[v]? =some (b2,x)→b2≠0→v<np→bA (.inl b2) O=some (.int (v:Int))
 PD:∀b2,bA (.inl b2) O≠none→b2≠0∧∃v x,v<np∧ap[v]? =some (b2,x)
def jR(a:List (List Nat)):Nat:=(a.map TW).sum
inductive eU(f0:Addr→Option b1)(a:I):List (List Nat)→List Addr→Prop
 |nil:eU f0 a [] []
 |cons {o:Nat}{Nd:List Nat}{v2:List (List Nat)}{If:List Addr}{e:Addr} (ht:f0 e=some (.OQ If.length)) (hv:a e=some (.list (eT (o::Nd).reverse))) (A:eU f0 a v2 If):eU f0 a ((o::Nd)::v2) (e::If)
structure Ix(w:ce)(f0:Addr→Option b1):Prop where
 t0:f0 w.fd=some (.Ok 0)
 t1:f0 w.OI=some (.Ok 1)
 OD:f0 w.NX=some (.Ok 2)
 t3:f0 w.be=some (.Ok 3)
 Ol:f0 w.Oj=some (.Ok 4)
 Oo:f0 w.Oi=some (.Ok 5)
 Ov:f0 w.Oc=some (.Ok 6)
 Oy:f0 w.lo=some (.Ok 7)
def oW:b1→Nat
 |.Ok z=>z+2
 |.OQ _=>0
 |.O0 _=>1
theorem aG{b a:b1}(c:Nat.beq (oW b) (oW a)=Qq):b≠a:=λd=>by rw [d,show Nat.beq (oW a) (oW a)=Qp by exact Nat.beq_refl _]at c;exact bG c
def g4(a:I)(b:Qo)(c d:Nat)(e:Nat→Option Nat):Prop:=∃O,a b=J (.dict O)∧O.length+c≤d∧g2 O e
theorem g4.go(b:g4 a e l T M2)(c:d e=a e)(f:∀kw,kw+l≤T→kw+g≤h):g4 d e g h M2:=bk b λO i j k=>fd O (c.trans i) (f _ j) k
theorem g4.st(b:g4 a e l T M2)(c:d e=a e):g4 d e l T M2:=b.go c λf b=>b
theorem g4.up(b:g4 a e l T M2)(c:d e=a e):g4 d e l (T+1) M2:=b.go c λf=>RW
def oX(b:I)(c:Qo)(d:List aW)(a:Nat):Prop:=∃O,b c=J (.dict O)∧O.length≤a∧lD d a O
theorem oX.st(b:oX a e ap T)(c:d e=a e):oX d e ap T:=bk b λO f g h=>fd O (c.trans f) g h
def oY(d:Qo→Option b1)(b:I)(a:Qo)(e:Nat)(c:Nat→Option (List Nat)):Prop:=∃O,b a=J (.dict O)∧O.length≤e∧(∀l MT,c l=J MT→∃a,bA (.inl (l:Int)) O=J (.ref a)∧d a=J (.O0 l)∧b a=J (.list (eT MT)))∧∀l,c l=U→bA (.inl (l:Int)) O=U
theorem oY.go{b c:Qo→Option b1}{f:Nat→Option (List Nat)}(i:oY b a e T f)(j:d e=a e)(k:T≤m)(g:∀r l,b r=J (.O0 l)→c r=J (.O0 l)∧d r=a r):oY c d e m f:=
 ft i λO n o p q=>m9 O (j.trans n) (Qv o k) (λl s t=>bk (p l s t) λr u h v=>fd r u (g r l h).1 ((g r l h).2.trans v)) q
def oZ(b:Qo→Option b1)(a:I)(c:Qo)(d:List (List Nat)):Prop:=∃If:List Qo,a c=J (.list (If.reverse.map .ref))∧eU b a d If
structure bI(w:ce)(hc:I)(f0:Addr→Option b1)(ap:List aW)(np m2:Nat)(x:a6)(a:I):Prop where
 NT:Ix w f0
 fr:∀o,f0 o≠none→hc o=none∧a o≠none
 Om:∀o,hc o≠none→a o=hc o
 OA:a w.fd=some (.ns (r5 w))
 Og:oX a w.OI ap np
 N1:g4 a w.NX 0 m2 x.fd.N1
 N7:g4 a w.be (jR x.blocks) m2 x.fd.N7
 NZ:g4 a w.Oj x.loops.length m2 x.fd.NZ
 NU:oY f0 a w.Oi m2 x.fd.NU
 OJ:a w.lo=some (.list (x.loops.reverse.map dp))
 OG:oZ f0 a w.Oc x.blocks
theorem Mx(b:eU f0 a v2 If):If.length=v2.length:=by
 induction b with
 |nil=>rfl
 |cons _ _ _ c=>simp [c]
theorem kI{b c:Qo→Option b1}(h:eU b a v2 If)(f:∀e z,z<If.length→b e=J (.OQ z)→c e=b e∧d e=a e):eU c d v2 If:=by
 induction h with
 |nil=>exact .nil
 |@cons n o v2 If e g i p j=>
  have:=f e If.length (by simp) g;exact .cons (this.1.trans g) (this.2.trans i) (j λk z l m=>f k z (by simp;exact(ak 148748580) l) m)
theorem oZ.go{c f:Qo→Option b1}(i:oZ c a e v2)(j:d e=a e)(g:∀e z,c e=J (.OQ z)→f e=J (.OQ z)∧d e=a e):oZ f d e v2:=ae i λk l m=>aU k (j.trans l) (kI m λh z n b=>⟨(g h z b).1.trans b.symm,(g h z b).2⟩)
theorem cV{a:Qo→Option b1}{b c:Qo}{d e:b1}(f:a b=J d)(g:a c=J e)(h:d≠e):b≠c:=λi=>h (by rw [i,g]at f;exact(Qj f).symm)
section
variable{w:ce}{f0:Qo→Option b1}{x:a6}
theorem o0(d:bI w hc f0 ap np m2 x a){c:Qo}{g:b1}(f:f0 c=J g):(∀t MR,f0 t=J MR→MR≠g→(a.set c as) t=a t)∧(∀t,f0 t≠U→hc t=U∧(a.set c as) t≠U)∧∀t,hc t≠U→(a.set c as) t=hc t:=by
 refine(bw (λt MR b h=>a0 (cV b f h)) (λt b=>⟨(d.fr t b).1,?_⟩) (λt b=>?_))
 ·by_cases e:t=c
  ·clear f;subst e;refine Q (bJ ..) ?_;simp
  ·refine Q (a0 e ..) ?_;exact(d.fr t b).2
 ·rw [a0 (λe=>by subst e;exact b (d.fr t (by rw [f];simp)).1)];exact d.Om t b
theorem mT(c:bI w hc f0 ap np m2 x a)(d:fi g (r5 w)=J s)(e:ab.fld 426 g=Qp)(f:l8 s=Qp)(h:b s a):cB ab (.inst 426 w.fd w.N4) g b a:=c3 c.OA d e f h
theorem My(c:bI w hc f0 ap np m2 x a)(d:b (.ref w.OI) a):cB ab (.inst 426 w.fd w.N4) (Y "labels") b a:=mT c tb_g% tb_g% rfl d
theorem Mz(c:bI w hc f0 ap np m2 x a)(d:b (.ref w.NX) a):cB ab (.inst 426 w.fd w.N4) (Y "next_arm") b a:=mT c tb_g% tb_g% rfl d
theorem MA(c:bI w hc f0 ap np m2 x a)(d:b (.ref w.be) a):cB ab (.inst 426 w.fd w.N4) (Y "block_end") b a:=mT c tb_g% tb_g% rfl d
theorem MB(c:bI w hc f0 ap np m2 x a)(d:b (.ref w.Oj) a):cB ab (.inst 426 w.fd w.N4) (Y "do_end") b a:=mT c tb_g% tb_g% rfl d
theorem MC(c:bI w hc f0 ap np m2 x a)(d:b (.ref w.Oi) a):cB ab (.inst 426 w.fd w.N4) (Y "ending") b a:=mT c tb_g% tb_g% rfl d
end
local macro_rules | `(tactic| k_caughtNB) => do
  let a := ("My Mz MA MB MC".splitOn " ").toArray.map fun x => Lean.mkIdent (.mkSimple x)
  `(tactic| ((with_reducible first $[| refine' $a:ident ?h0 ?_]*); (case h0 => with_reducible assumption)))
section
variable{w:ce}{f0:Qo→Option b1}{x:a6}
theorem Iy{f:Int}{k:b4}(n:(de ap).Nodup)(g:lD ap np O)(m:f≠0)(h:ap[np]? =J (f,k)):lD ap (np+1) (bC (.inl f) (.int np) O):=by
 constructor
 ·intro c d i j b l;by_cases e:d=f
  ·clear m;subst e;by_cases a:c=np
   ·clear g l h;subst a;exact g3 _ _ _
   ·exact(a (ot ap n c np d i k j h b)).elim
  ·refine Q (i9 (by intro a;exact e (Sl a)) ..) ?_;exact g.PC c d i j b (by
    by_cases a:c=np
    ·clear g l;subst a;rw [h]at j;clear b;cases j;exact(e rfl).elim
    ·exact(ak 50896222076196) l a)
 ·intro d b;by_cases e:d=f
  ·clear b;subst e;exact⟨m,np,k,by exact(aN 963),h⟩
  ·rw [i9 (by intro a;exact e (Sl a))]at b;refine ar (g.PD d b) λo p=>dY p λc i q r=>?_;exact⟨o,c,i,by exact(ak 148748580) q,r⟩
theorem Iz{i:b4}(c:lD ap np O)(j:ap[np]? =J (0,i)):lD ap (np+1) O:=by
 constructor
 ·intro a d e f b g;refine c.PC a d e f b ?_;by_cases h:a=np
  ·clear c g;subst h;rw [j]at f;cases f;exact(b rfl).elim
  ·exact(ak 50896222076196) g h
 ·intro d b;refine ar (c.PD d b) λk l=>dY l λa e m n=>?_;exact⟨k,a,e,by exact(ak 148748580) m,n⟩
theorem IA(b:bI w hc f0 ap np m2 x a)(h:O.length≤np+1)(i:lD ap (np+1) O):bI w hc f0 ap (np+1) m2 x (a.set w.OI (.dict O)):=by
 refine bf (o0 b (as:=.dict O) b.NT.t1) λe j bq=>?_;have c:∀g f,f0 f=J (.Ok (g+2))→(a.set w.OI (.dict O)) f=a f:=λg f k=>e _ _ k λl=>nomatch l;exact⟨b.NT,j,bq,(e _ _ b.NT.t0 (aG rfl)).trans b.OA,fd O bJ h i,b.N1.st (c _ _ b.NT.OD),b.N7.st (c _ _ b.NT.t3),b.NZ.st (c _ _ b.NT.Ol),b.NU.go (c _ _ b.NT.Oo) (Qu _) λm n d=>⟨d,e _ _ d (aG rfl)⟩,(c _ _ b.NT.Oy).trans b.OJ,b.OG.go (c _ _ b.NT.Ov) λm n d=>⟨d,e _ _ d (aG rfl)⟩⟩
theorem lE{e:Int}{m:b4}(c:bI w hc f0 ap np m2 x a)(n:(de ap).Nodup)(g:ap[np]? =some (e,m))(p:np<900000)(o:∀d,bI w hc f0 ap (np+1) m2 x d→b .none d):af (T+1) (.NS (.ref 437)) [.inst 426 w.fd w.N4,.int e,.int np] b f a:=by
 refine aZ (i:=[some (.inst 426 w.fd w.N4),some (.int e),some (.int np),none]) FR rfl rfl ?_;delta w1;refine bk c.Og λO h i j=>?_;by_cases k:e=0
 ·subst k;lk;refine o a ⟨c.NT,c.fr,c.Om,c.OA,(fd O h ‹(ak 148674828) i› (Iz j g)),c.N1,c.N7,c.NZ,c.NU,c.OJ,c.OG⟩
 ·have l:bA (.inl e) O=none:=by
   generalize l:bA (.inl e) O=q;induction q using Qm with
   |none=>rfl
   |some A=>
    refine ar (j.PD e (by refine Q (l ..) ?_;simp)) λr s=>?_;refine dY s λt u v y=>?_;clear r;exact Rz (ot ap n t np e u m y g k) (RA v)
  have z:=fW (.inl e:am) (.int np) O;lk;refine oM (b:=Qq) h rfl (by refine Q (l ..) ?_;rfl) ?_;lk;refine hq h rfl (by unfold a4;exact(ak 1654489416358692) p i) ?_;lk;exact o _ (IA c ‹(au 288082137758988) z i› (Iy n j k g))
theorem mU{a:List V}:bW (a++[s]) (-1)=J s:=by
 unfold bW;have b:((a++[s]).length:Int)=(a.length:Int)+1:=by simp
 refine Q (Qs ‹(aH 438657)› ..) (Q (Qt ‹(ak 919432688948304) b› ..) (Q (b ..) (Q (show(-1+((a.length:Int)+1)).toNat=a.length by exact(ak 6792122123085175114538617975083679487832) (cz _)) (Q (R5 (Qu _) ..) ?_))));simp
theorem r6{a:Nat}:bW (eT (a::Nd).reverse) (-1)=J (.int (a:Int)):=by
 unfold eT;refine Q (Sv ..) (Q (Rp ..) ?_);exact mU
theorem r7:bW ((e::If).reverse.map V.ref) (-1)=J (.ref e):=by
 refine Q (Sv ..) (Q (Rp ..) ?_);exact mU
theorem IB(h:bI w hc f0 ap np m2 x a)(c:b (.int (dG x.blocks)) a):af (T+1) (.NS (.ref 451)) [.ref w.Oc] b f a:=by
 refine aZ (i:=[J (.ref w.Oc)]) w3 rfl rfl ?_;delta rp;refine ae h.OG λe d g=>?_;generalize i:x.blocks=j at c g;clear i;induction g using eU.casesOn with
 |nil=>
  lk;refine d9 (b:=Qq) (by show gj _=_;refine Q (d ..) ?_;rfl) ?_;lk;exact c
 |@cons m n j e k o l p=>
  lk;refine d9 (b:=Qp) (by show gj _=_;refine Q (d ..) ?_;show J (!(List.map V.ref (k::e).reverse).isEmpty)=_;simp) ?_;lk;refine c6 d r7 ?_;lk;exact c6 l r6 c
end
set_option genInjectivity false
variable{f0 Ni:Qo→Option b1}{w:ce}
def mV(a:b4):String:=match a with
 |.asg _=> "assign"
 |.O8 .. => "lif"
 |.OL .. => "lif"
 |.OY _=> "lif"
 |.cont=> "continue"
 |.goto _=> "goto"
 |.ifs _=> "if"
 |.Ox _=> "elseif"
 |.Op=> "else"
 |.Ot=> "endif"
 |.Od .. => "do"
 |.OS _=> "setlabel"
 |.OP _=> "agoto"
 |.OT .. => "aif"
 |.OU .. => "cgoto"
 |.fin=> "end"
theorem yG(a:b4):∃A,cx a=.tup (.str (Y (mV a))::A):=by induction a using b4.casesOn<;>exact⟨_,rfl⟩
theorem IC(a:b4):(mV a== "else")=el a:=by induction a using b4.casesOn<;>rfl
theorem yH{c b:aK}:(a.set e c).set e b=a.set e b:=by
 funext r;unfold I.set;split<;>rfl
set_option tactic.hygienic true in
theorem yI{b:aK}(c:a e=J b):a.set e b=a:=by
 funext r;unfold I.set;split
 ·rename_i d;rw [d,c]
 ·rfl
section
variable{MP:Nat}{x:a6}
theorem r8(f:g2 O M2)(b d:Nat):g2 (bC (.inl (b:Int)) (.int (d:Int)) O) (a5 M2 b (J d)):=by
 intro e g a;by_cases c:e=b
 ·subst c;rw [dn]at a;obtain rfl:=Qj a;exact g3 _ _ _
 ·rw [cR _ _ c]at a;rw [i9 (by intro h;exact c (by have:=Sl h;exact(ak 1878848592) this))];exact f e g a
theorem kJ(b:bI w hc f0 ap np m2 x a)(d:m2≤MP):bI w hc f0 ap np MP x a:=
 ⟨b.NT,b.fr,b.Om,b.OA,b.Og,b.N1.go rfl λe c=>Qv c d,b.N7.go rfl λe c=>Qv c d,b.NZ.go rfl λe c=>Qv c d,b.NU.go rfl d λf g c=>⟨c,rfl⟩,b.OJ,b.OG⟩
theorem ID(b:bI w hc f0 ap np m2 x a)(e:O.length≤m2)(f:g2 O M2):bI w hc f0 ap np m2 ⟨{x.fd with N1:=M2},x.blocks,x.loops⟩ (a.set w.NX (.dict O)):=by
 exact bf (o0 b (as:=.dict O) b.NT.OD) λc g bq=>⟨b.NT,g,bq,(c _ _ b.NT.t0 (aG rfl)).trans b.OA,b.Og.st (c _ _ b.NT.t1 (aG rfl)),fd O bJ e f,b.N7.st (c _ _ b.NT.t3 (aG rfl)),b.NZ.st (c _ _ b.NT.Ol (aG rfl)),b.NU.go (c _ _ b.NT.Oo (aG rfl)) (Qu _) λh i d=>⟨d,c _ _ d (aG rfl)⟩,(c _ _ b.NT.Oy (aG rfl)).trans b.OJ,b.OG.go (c _ _ b.NT.Ov (aG rfl)) λh i d=>⟨d,c _ _ d (aG rfl)⟩⟩
theorem IE(b:bI w hc f0 ap np m2 x a){f:Nat}(j:x.blocks=(f::Nd)::rest)(k:a w.Oc=J (.list ((e::If).reverse.map .ref)))(l:eU f0 a ((f::Nd)::rest) (e::If)):bI w hc f0 ap np (m2+1) ⟨x.fd,(v::f::Nd)::rest,x.loops⟩ (a.set e (.list (eT (f::Nd).reverse++[.int v]))):=by
 cases l with
 |cons h q m=>
  refine bf (o0 b (as:=.list (eT (f::Nd).reverse++[.int v])) h) λc n bq=>?_;have i:=b.N7;rw [j]at i;refine⟨b.NT,n,bq,(c _ _ b.NT.t0 (aG rfl)).trans b.OA,b.Og.st (c _ _ b.NT.t1 (aG rfl)),b.N1.up (c _ _ b.NT.OD (aG rfl)),i.go (c _ _ b.NT.t3 (aG rfl)) λr d=>?_,b.NZ.up (c _ _ b.NT.Ol (aG rfl)),b.NU.go (c _ _ b.NT.Oo (aG rfl)) (Q1 _) λo s d=>⟨d,c _ _ d (aG rfl)⟩,(c _ _ b.NT.Oy (aG rfl)).trans b.OJ,e::If,(c _ _ b.NT.Ov (aG rfl)).trans k,.cons h ?_ (kI m λo t p d=>⟨rfl,c _ _ d λg=>by injection g with g;exact(ak 15036533028) p g⟩)⟩
  ·simp [jR]at d⊢;exact(aE 16592341496305601618220) d
  ·rw [bJ];simp [eT]
theorem iv{b:Qo}(c:b≠e):(a.del e) b=a b:=Qs c
theorem o1{a b:List (am×V)}(c:J (aK.dict a)=J (aK.dict b)):a=b:=by cases c;rfl
theorem lF(d:bI w hc f0 ap np m2 x a){c b:Qo}{e:b1}(f:hc c≠U)(g:f0 b=J e):c≠b:=λh=>f (h▸(d.fr b λi=>ag (i.symm.trans g)).1)
theorem hw(c d:Qo)(f:aK)(g:a c≠U):(a.set d f) c≠U:=λb=>by
 by_cases e:c=d
 ·rw [e,bJ]at b;exact ag b.symm
 ·rw [a0 e]at b;exact g b
theorem IF(b:bI w hc f0 ap np m2 x a){j:Nat}(s:x.blocks=(j::Nd)::rest)(u:eU f0 a ((j::Nd)::rest) (e::If))(y:a w.be=J (.dict O))(q:hx.length≤O.length+(j::Nd).length)(z:g2 hx (λl=>if l∈j::Nd then J v else x.fd.N7 l)):bI w hc (λt=>if t=e then U else f0 t) ap np m2 ⟨{x.fd with N7:=λl=>if l∈j::Nd then J v else x.fd.N7 l},rest,x.loops⟩ (((a.del e).set w.be (.dict hx)).set w.Oc (.list (If.reverse.map .ref))):=by
 cases u with
 |cons m G A=>
  have g:∀t d,f0 t=J d→d≠.OQ If.length→d≠.Ok 3→d≠.Ok 6→(((a.del e).set w.be (.dict hx)).set w.Oc (.list (If.reverse.map .ref))) t=a t:=λt d c n k o=>by
   rw [a0 (cV c b.NT.Ov o),a0 (cV c b.NT.t3 k),iv (cV c m n)]
  have f:∀{t d},f0 t=J d→d≠.OQ If.length→(if t=e then U else f0 t)=J d:=λc h=>by
   rw [Qs (cV c m h)];exact c
  have B:=b.N7;refine bk B λH n k I=>?_;have o:=o1 (y.symm.trans n);refine⟨⟨f b.NT.t0 (aG rfl),f b.NT.t1 (aG rfl),f b.NT.OD (aG rfl),f b.NT.t3 (aG rfl),f b.NT.Ol (aG rfl),f b.NT.Oo (aG rfl),f b.NT.Ov (aG rfl),f b.NT.Oy (aG rfl)⟩,λt c=>?_,λt c=>?_,(g _ _ b.NT.t0 (aG rfl) (aG rfl) (aG rfl)).trans b.OA,b.Og.st (g _ _ b.NT.t1 (aG rfl) (aG rfl) (aG rfl)),b.N1.st (g _ _ b.NT.OD (aG rfl) (aG rfl) (aG rfl)),fd hx ?_ ?_ z,b.NZ.st (g _ _ b.NT.Ol (aG rfl) (aG rfl) (aG rfl)),
   b.NU.go (g _ _ b.NT.Oo (aG rfl) (aG rfl) (aG rfl)) (Qu _) λC l h=>⟨f h (aG rfl),g _ _ h (aG rfl) (aG rfl) (aG rfl)⟩,(g _ _ b.NT.Oy (aG rfl) (aG rfl) (aG rfl)).trans b.OJ,If,bJ,kI A λC D E h=>?_⟩
  ·by_cases i:t=e
   ·rw [Qt i]at c;exact(c rfl).elim
   ·rw [Qs i]at c;refine⟨(b.fr t c).1,hw _ _ _ ?_⟩;exact hw _ _ _ (by rw [iv i];exact(b.fr t c).2)
  ·have p:∀{aj d},f0 aj=J d→t≠aj:=λF=>lF b c F;rw [a0 (p b.NT.Ov),a0 (p b.NT.t3),iv (p m)];exact b.Om t c
  ·rw [a0 (cV b.NT.t3 b.NT.Ov (aG rfl))];exact bJ
  ·rw [s,←o]at k;simp [jR]at k q⊢;exact(bU 2380385123725226777911596) k q
  ·have r:b1.OQ D≠.OQ If.length:=λi=>by injection i with i;exact(ak 15036533028) E i
   exact⟨(f h r).trans h.symm,g _ _ h r (aG rfl) (aG rfl)⟩
theorem IG{q:bF}:∀(b2:List Nat) (O:List (am×V)) (a:I) (rt:Option V),a w.fd=J (.ns (r5 w))→w.fd≠w.be→a w.be=J (.dict O)→O.length+b2.length<a4→(∀hx rt,hx.length≤O.length+b2.length→(∀M2,g2 O M2→g2 hx (λl=>if l∈b2 then J v else M2 l))→q .NX [J (.inst 426 w.fd w.N4),M,bl,J (.int v),MQ,c2,hh,rt,MV] (a.set w.be (.dict hx)))→
  c0 ab j (.name 7) (λcl fw ht d=>aw ab j [.asg (.item (.attr (.v 0) (Y "block_end")) (.v 7)) (.v 3)] cl fw ht d) (eT b2) [J (.inst 426 w.fd w.N4),M,bl,J (.int v),MQ,c2,hh,rt,MV] q ML a:=by
 intro b2;induction b2 with
 |nil=>
  intro O a rt h i k e f;refine gA ?_;have:=f O rt (by simp) (λM2 m l n b=>m l n (by simpa using b));rwa [yI k]at this
 |cons c b2 t=>
  intro O a rt h i k e f;refine iu ?_;have o:=fW (.inl (c:Int):am) (.int (v:Int)) O;rw [Qw]at e;lk;refine c3 (s:=.ref w.be) h tb_g% tb_g% rfl ?_;lk;refine hq k rfl ‹(au 116455625028) e› ?_;lk;refine e8 (t (bC (.inl (c:Int)) (.int (v:Int)) O) _ (J (.int (c:Int))) (by rw [a0 i];exact h) i bJ ‹(aE 17922792414448963908) e o› ?_);intro hx u r s;rw [yH];refine f hx u (by rw [Qw];exact(aE 36407471678493080844) o r) λM2 m l n b=>s _ (r8 m c v) l n ?_;dsimp only at b;show(if l∈b2 then _ else _)=_;by_cases g:l∈b2
  ·rw [Qt g];rw [Qt (.tail _ g)]at b;exact b
  ·rw [Qs g];by_cases p:l=c
   ·clear f o r s;subst p;rw [Qt (.head _)]at b;rw [dn];exact b
   ·rw [Qs (by simp [p,g])]at b;rw [cR _ _ p];exact b
end
section
variable{x:a6}
theorem IH{d:List (am×V)}{e:Nat→Option Nat}{f c:List Nat}{g:Nat}(i:g2 d (λl=>if l∈f then J g else e l))(h:∀l,l∈c↔l∈f):g2 d (λl=>if l∈c then J g else e l):=by
 intro l j a;refine i l j ?_;dsimp only at a⊢;by_cases b:l∈c
 ·rw [Qt b]at a;rw [Qt ((h l).mp b)];exact a
 ·rw [Qs b]at a;rw [Qs (λk=>b ((h l).mpr k))];exact a
theorem yJ{W:aR}{o:String}{p:Nat}{e:Nat}{i:List Nat}{q:List (List Nat)}{g:Qo}{k:List Qo}{z A B:Option V}{v:Bool}
  (c:bI w hc f0 ap np m2 x a)(s:x.blocks=(e::i)::q)(C:a w.Oc=J (.list ((g::k).reverse.map .ref)))(M:eU f0 a ((e::i)::q) (g::k))(D:(o== "endif")=v)(E:m2<900000)
  {F:a6}(t:(if v=true then(⟨{x.fd with N7:=λl=>if l∈e::i then J p else x.fd.N7 l},q,x.loops⟩:a6)else⟨x.fd,(p::e::i)::q,x.loops⟩)=F)(u:∀d Ni,bI w hc Ni ap np (m2+1) F d→b .none d):
  co .Eq (.str (Y o)) (.str (Y "endif")) (λr h=>c5 r
   (aw ab (af (T+1)) ([.fr (.name 7) (.over (.v 5)) [.asg (.item (.attr (.v 0) (Y "block_end")) (.v 7)) (.v 3)],.expr (.NY (.v 1) (Y "pop") [])]++[]) [J (.inst 426 w.fd w.N4),J (.ref w.Oc),J (.str (Y o)),J (.int p),z,J (.ref g),J (.int e),A,B] (λa1 Z h=>b (fC a1) h) (λZ h=>f h) h)
   (aw ab (af (T+1)) ([.expr (.NY (.v 5) (Y "append") [.v 3])]++[]) [J (.inst 426 w.fd w.N4),J (.ref w.Oc),J (.str (Y o)),J (.int p),z,J (.ref g),J (.int e),A,B] (λa1 Z h=>b (fC a1) h) (λZ h=>f h) h)) a:=by
 cases M with
 |cons m n G=>
  have H:((e::i).reverse).length=(e::i).length:=SG;induction v using Qz with
  |true=>
   rw [←t]at u;rw [eq_of_beq D];clear D t;refine bk c.N7 λO y j I=>?_;have N:O.length+(e::i).length≤m2:=by
    rw [s]at j;exact Qv (Nat.add_le_add_left (QU _ _) _) j
   lk;refine fH (h4 (rP rfl n ((aU _ rfl ?_))));refine IG ((e::i).reverse) O (a.del g) _ (by rw [iv (cV c.NT.t0 m (aG rfl))];exact c.OA) (cV c.NT.t0 c.NT.t3 (aG rfl)) (by rw [iv (cV c.NT.t3 m (aG rfl))];exact y) (by rw [H];unfold a4;exact(au 108412097275552370988) N E) ?_;intro P X K Q;refine eC ?_;have R:w.Oc≠g:=cV c.NT.Ov m (aG rfl);have L:((a.del g).set w.be (.dict P)) w.Oc=J (.list ((g::k).reverse.map .ref)):=by
    rw [a0 (cV c.NT.Ov c.NT.t3 (aG rfl)),iv R];exact C
   lk;refine rZ L ?_;lk;refine rT (s:=.ref g) L (by simp) ?_;have S:((g::k).reverse.map V.ref).dropLast=k.reverse.map .ref:=by simp
   rw [S];lk;refine u _ _ (kJ (IF c s (.cons m n G) y (by rw [H]at K;exact K) (IH (Q _ I) λl=>(List.mem_reverse).symm)) ‹(aN 961)›)
  |false=>
   rw [←t]at u;clear t;lk;refine db n ?_;lk;refine kE n ?_ ?_
   ·refine bk c.N7 λO y j I=>?_;rw [s]at j;simp [jR]at j;unfold eT a4;simp;exact(aE 27759094111894090162476) j E
   lk;exact u _ _ (IE c s C (.cons m n G))
theorem r9{g:Bool}(h:bI w hc f0 ap np m2 x a)(e:eM ap g v x=some Nk)(k:(H2== "endif")=g)(q:m2+1<900000)(F:ap.length<900000)
  (z:∀d Ni,bI w hc Ni ap np (m2+2) Nk d→b .none d):af (T+2) (.NS (.ref 444)) [.inst 426 w.fd w.N4,.ref w.Oc,.str (Y H2),.int v,.lst (ap.map cL)] b f a:=by
 refine aZ (i:=[some (.inst 426 w.fd w.N4),some (.ref w.Oc),some (.str (Y H2)),some (.int v),some (.lst (ap.map cL)),none,none,none,none]) FS rfl rfl ?_;delta w2;refine ae h.OG λS l j=>?_;unfold eM at e;generalize m:x.blocks=blk at e j;induction j using eU.casesOn with
 |nil=>exact ag e
 |@cons c n o r s G A H=>
  have j:eU f0 a ((c::n)::o) (s::r):=.cons G A H;dsimp only at e;generalize p:ap[c]? =t;induction t using Qm with
  |none=>rw [p]at e;exact ag e
  |some I=>
   obtain⟨V,i⟩:=I;rw [p]at e;have e:(if(el i&& !g)=true then none else if g=true then some (⟨{(if el i=true then x.fd else {x.fd with N1:=a5 x.fd.N1 c (some v)})with N7:=λB=>if B∈c::n then some v else(if el i=true then x.fd else {x.fd with N1:=a5 x.fd.N1 c (some v)}).N7 B},o,x.loops⟩:a6)else some ⟨if el i=true then x.fd else {x.fd with N1:=a5 x.fd.N1 c (some v)},(v::c::n)::o,x.loops⟩)=some Nk:=e;refine bY (yG i) λW K=>?_;have C:=jb p;rw [K]at C;have X:c<900000:=by have:=(QE.mp p).1;exact(ak 1120126821882660) F this
   have u:=IC i;lk;refine d9 (b:=true) (by show gj _=_;rw [l];show some (!TC _)=_;simp) ?_;lk;refine c6 l r7 ?_;lk;refine c6 A r6 ?_;lk;refine cc C ?_;lk;generalize D:el i=t;induction t using Qz with
   |true=>
    rw [D]at u e;rw [eq_of_beq u];induction g using Qz with
    |false=>exact ag e
    |true=>
     have L:=eq_of_beq k;lk;refine rD (b:=false) (by rw [L];show(some (decide (Y "endif" =Y "endif"))).map (!·)=_;rw [QD rfl];rfl) ?_;lk;exact yJ (W:=af T) (p:=v) (v:=true) h m l j k ‹(aN 485715456756) q› (Qj e) λd Ni y=>z d Ni (kJ y (Q1 _))
   |false=>
    rw [D]at u e;refine bk h.N1 λO M E N=>?_;have P:=fW (.inl (c:Int):am) (.int (v:Int)) O;lk;refine hq M rfl (by unfold a4;exact(ak 26471830661739252) q E) ?_;have al:=ID (kJ h (show m2≤m2+1 by exact(aN 961))) (O:=bC (.inl (c:Int)) (.int (v:Int)) O) ‹(au 288082137758988) P E› (r8 N c v);have Q:(a.set w.NX (.dict (bC (.inl (c:Int)) (.int (v:Int)) O))) w.Oc=some (.list ((s::r).reverse.map .ref)):=by rw [a0 (cV h.NT.Ov h.NT.OD (aG rfl))];exact l
    have R:eU f0 (a.set w.NX (.dict (bC (.inl (c:Int)) (.int (v:Int)) O))) ((c::n)::o) (s::r):=kI j λZ aa ab m=>⟨rfl,a0 (cV m h.NT.OD (aG rfl))⟩;lk;refine yJ (T:=T) (f:=f) (W:=af T) (p:=v) (v:=g) (x:=⟨{x.fd with N1:=a5 x.fd.N1 c (some v)},x.blocks,x.loops⟩) al m Q R k ‹(aN 7771976479476) q› (by clear k;induction g using Qz<;>exact Qj e) λd Ni y=>z d Ni y
theorem yK(b:bI w hc f0 ap np m2 x a){e:Nat}{D:Int}(E:x.loops=(D,e,Nh)::MJ)(F:x.fd.NU v=J MT)(G:a w.Oj=J (.dict m)){c:Qo}(i:f0 c=J (.O0 v))(r:∃O,a w.Oi=J (.dict O)∧bA (.inl (v:Int)) O=J (.ref c)):
  bI w hc f0 ap np m2 ⟨{x.fd with NZ:=a5 x.fd.NZ e (J v),NU:=a5 x.fd.NU v (J ((x.fd.NU v).getD []++[e]))},x.blocks,MJ⟩ (((a.set w.lo (.list (MJ.reverse.map dp))).set w.Oj (.dict (bC (.inl (e:Int)) (.int (v:Int)) m))).set c (.list (eT MT++[.int e]))):=by
 refine bk b.NZ λQ H s t=>ft b.NU λI u K L M=>?_;have n:=o1 (G.symm.trans H);have h:∀f j,f0 f=J j→j≠.Ok 7→j≠.Ok 4→j≠.O0 v→(((a.set w.lo (.list (MJ.reverse.map dp))).set w.Oj (.dict (bC (.inl (e:Int)) (.int (v:Int)) m))).set c (.list (eT MT++[.int e]))) f=a f:=λf j d o l p=>by
  rw [a0 (cV d i p),a0 (cV d b.NT.Ol l),a0 (cV d b.NT.Oy o)]
 have N:=fW (.inl (e:Int):am) (.int (v:Int)) m;rw [E,Qw,←n]at s;rw [←n]at t;refine⟨b.NT,λf d=>⟨(b.fr f d).1,hw _ _ _ (hw _ _ _ (hw _ _ _ (b.fr f d).2))⟩,λf d=>?_,(h _ _ b.NT.t0 (aG rfl) (aG rfl) (aG rfl)).trans b.OA,b.Og.st (h _ _ b.NT.t1 (aG rfl) (aG rfl) (aG rfl)),b.N1.st (h _ _ b.NT.OD (aG rfl) (aG rfl) (aG rfl)),b.N7.st (h _ _ b.NT.t3 (aG rfl) (aG rfl) (aG rfl)),fd _ ?_ ?_ (r8 t e v),
  m9 I ((h _ _ b.NT.Oo (aG rfl) (aG rfl) (aG rfl)).trans u) K (λk y g=>?_) (λk g=>?_),?_,b.OG.go (h _ _ b.NT.Ov (aG rfl) (aG rfl) (aG rfl)) λz R g=>⟨g,h _ _ g (aG rfl) (aG rfl) (aG rfl)⟩⟩
 ·rw [a0 (lF b d i),a0 (lF b d b.NT.Ol),a0 (lF b d b.NT.Oy)];exact b.Om f d
 ·rw [a0 (cV b.NT.Ol i (aG rfl)),bJ]
 ·show _+MJ.length≤m2;exact(aE 17922614293565264172) s N
 ·refine ae r λO A B=>?_;have C:=o1 (u.symm.trans A);rw [←C]at B;clear r A C n;by_cases c:k=v
  ·have P:J (MT++[e])=J y:=by rw [←g,c];show _=a5 _ _ _ _;rw [dn,F];rfl
   rw [c,←Qj P];exact⟨_,B,i,by rw [bJ];simp [eT]⟩
  ·exact bk (L k y ((cR _ _ c).symm.trans g)) λz o l p=>⟨z,o,l,(h _ _ l (aG rfl) (aG rfl) (by intro q;injection q with q;exact c q)).trans p⟩
 ·refine M k ?_;by_cases c:k=v
  ·rw [c]at g;exact ag (g.symm.trans (dn _ _ _))
  ·exact(cR _ _ c).symm.trans g
 ·rw [a0 (cV b.NT.Oy i (aG rfl)),a0 (cV b.NT.Oy b.NT.Ol (aG rfl))];exact bJ
theorem II(b:bI w hc f0 ap np m2 x a)(I:x.fd.NU v=none){c:Qo}(n:a c=none)(C:a w.Oi=some (.dict O)):bI w hc (λt=>if t=c then some (.O0 v)else f0 t) ap np (m2+1) ⟨{x.fd with NU:=a5 x.fd.NU v (some [])},x.blocks,x.loops⟩ ((a.set c (.list [])).set w.Oi (.dict (bC (.inl (v:Int)) (.ref c) O))):=by
 refine ft b.NU λK o p q r=>?_;have s:=o1 (C.symm.trans o);rw [←s]at p q r;clear s o;have l:∀{t g},f0 t=some g→t≠c:=λ{t g} d (j:t=c)=>(b.fr t λe=>ag (e.symm.trans d)).2 (by rw [j];exact n);have h:∀t g,f0 t=some g→g≠.Ok 5→((a.set c (.list [])).set w.Oi (.dict (bC (.inl (v:Int)) (.ref c) O))) t=a t:=λt g d e=>by
  rw [a0 (cV d b.NT.Oo e),a0 (l d)]
 have f:∀{t g},f0 t=some g→(if t=c then some (.O0 v)else f0 t)=some g:=λd=>by rw [Qs (l d)];exact d
 have D:=fW (.inl (v:Int):am) (.ref c) O;have u:hc c=none:=by
  generalize y:hc c=E;induction E using Qm with
  |none=>rfl
  |some L=>exact ag ((n.symm.trans (b.Om c (by rw [y];simp))).trans y)
 refine⟨⟨f b.NT.t0,f b.NT.t1,f b.NT.OD,f b.NT.t3,f b.NT.Ol,f b.NT.Oo,f b.NT.Ov,f b.NT.Oy⟩,λt d=>?_,λt d=>?_,(h _ _ b.NT.t0 (aG rfl)).trans b.OA,b.Og.st (h _ _ b.NT.t1 (aG rfl)),b.N1.up (h _ _ b.NT.OD (aG rfl)),b.N7.up (h _ _ b.NT.t3 (aG rfl)),b.NZ.up (h _ _ b.NT.Ol (aG rfl)),
  m9 _ bJ ‹(au 288082137758988) D p› (λk z e=>?_) (λk e=>?_),(h _ _ b.NT.Oy (aG rfl)).trans b.OJ,b.OG.go (h _ _ b.NT.Ov (aG rfl)) λA M e=>⟨f e,h _ _ e (aG rfl)⟩⟩
 ·by_cases j:t=c
  ·rw [j];exact⟨u,hw _ _ _ (by rw [bJ];simp)⟩
  ·rw [Qs j]at d;exact⟨(b.fr t d).1,hw _ _ _ (hw _ _ _ (b.fr t d).2)⟩
 ·rw [a0 (lF b d b.NT.Oo),a0 λ(j:t=c)=>d (by rw [j];exact u)];exact b.Om t d
 ·by_cases i:k=v
  ·have F:some []=some z:=by rw [←e,i];exact(dn _ _ _).symm
   rw [i,←Qj F];exact⟨c,g3 _ _ _,Qt rfl,by rw [a0 (l b.NT.Oo).symm,bJ];rfl⟩
  ·exact bk (q k z ((cR _ _ i).symm.trans e)) λA G B H=>⟨A,(i9 (λm=>i (Uz (Sl m))) _ _).trans G,f B,(h _ _ B (aG rfl)).trans H⟩
 ·by_cases i:k=v
  ·rw [i]at e;exact ag (e.symm.trans (dn _ _ _))
  ·exact(i9 (λm=>i (Uz (Sl m))) _ _).trans (r k ((cR _ _ i).symm.trans e))
end
section
variable{x:a6}
theorem yL(c:a bl=J (.list (If.reverse.map .ref)))(e:eU f0 a v2 If)(d:b (.int (dG v2)) a):af (T+1) (.NS (.ref 451)) [.ref bl] b f a:=by
 refine aZ (i:=[J (.ref bl)]) w3 rfl rfl ?_;delta rp;induction e using eU.casesOn with
 |nil=>
  lk;refine d9 (b:=Qq) (by show gj _=_;rw [c];rfl) ?_;lk;exact d
 |@cons h i v2 If j k g l=>
  lk;refine d9 (b:=Qp) (by show gj _=_;rw [c];show J (!TC _)=_;simp) ?_;lk;refine c6 c r7 ?_;lk;exact c6 g r6 d
theorem o2{c:Qo}{d f:aK}(g:e≠c):(a.set e d).set c f=(a.set c f).set e d:=by
 funext j;unfold I.set;by_cases b:j=c
 ·rw [Qt b,Qs (λh=>g (h.symm.trans b)),Qt b]
 ·rw [Qs b,Qs b]
abbrev f9:aa:=.and [.v 1,.cmp (.v 3) [.NotEq] [.k (.int 0)],.cmp (.sub (.sub (.v 1) (.neg (.k (.int 1)))) (.k (.int 0))) [.Eq] [.v 3]]
abbrev kK:List N:=[.asg (.tup [5,6,7]) (.NY (.v 1) (Y "pop") []),.iff (.cmp (.v 7) [.NotEq] [.call (.k (.NS (.ref 451))) [.v 2]]) [.bad] [],.asg (.item (.attr (.v 0) (Y "do_end")) (.v 6)) (.v 4),.iff (.cmp (.v 4) [.NotIn] [.attr (.v 0) (Y "ending")]) [.asg (.item (.attr (.v 0) (Y "ending")) (.v 4)) (.lst [])] [],.expr (.NY (.sub (.attr (.v 0) (Y "ending")) (.v 4)) (Y "append") [.v 6])]
theorem sa{a:Int×Nat×Int}:(a::MJ).reverse.map dp=MJ.reverse.map dp++[dp a]:=by simp
theorem sc{b:Int}{i:bF}(j:bI w hc f0 ap np m2 x a)(c:x.loops=[]∨∃o A,x.loops=o::A∧¬(b≠0∧o.1=b))(f:i .NX [J (.inst 426 w.fd w.N4),J (.ref w.lo),J (.ref w.Oc),J (.int b),J (.int v),c2,hh,rt,U,U] a):
  ei (λg h k d=>bN ab (af (T+1)) f9 (av ab (af (T+1)) f9 g) g h k d) (λg h k d=>aw ab (af (T+1)) kK g h k d) (us+1) [J (.inst 426 w.fd w.N4),J (.ref w.lo),J (.ref w.Oc),J (.int b),J (.int v),c2,hh,rt,U,U] i ML a:=by
 refine hu ?_;have e:=j.OJ;rcases c with c|⟨o,A,c,l⟩
 ·rw [c]at e;lk;refine d9 (b:=Qq) (by show gj _=_;rw [e];rfl) ?_;lk;exact f
 ·rw [c,sa]at e;lk;refine d9 (b:=Qp) (by show gj _=_;rw [e];show J (!TC _)=_;simp) ?_;lk;by_cases m:b=0
  ·lk;exact f
  ·have p:¬o.1=b:=λn=>l ⟨m,n⟩;lk;refine c6 e mU ?_;unfold dp;lk;exact f
theorem IJ{e:Nat}{c:Int}{s:bF}(b:bI w hc f0 ap np m2 x a)(t:x.loops=(c,e,Nh)::MJ)(W:c≠0)(H:Nh=dG x.blocks)(u:x.fd.NU v=J MT)(y:m2+MT.length<900000)
  (n:∀d c2 hh rt,bI w hc f0 ap np m2 ⟨{x.fd with NZ:=a5 x.fd.NZ e (J v),NU:=a5 x.fd.NU v (J ((x.fd.NU v).getD []++[e]))},x.blocks,MJ⟩ d→ei (λg h k d=>bN ab (af (T+1)) f9 (av ab (af (T+1)) f9 g) g h k d) (λg h k d=>aw ab (af (T+1)) kK g h k d) us [J (.inst 426 w.fd w.N4),J (.ref w.lo),J (.ref w.Oc),J (.int c),J (.int v),c2,hh,rt,U,U] s ML d):
  ei (λg h k d=>bN ab (af (T+1)) f9 (av ab (af (T+1)) f9 g) g h k d) (λg h k d=>aw ab (af (T+1)) kK g h k d) (us+1) [J (.inst 426 w.fd w.N4),J (.ref w.lo),J (.ref w.Oc),J (.int c),J (.int v),c2,hh,rt,U,U] s ML a:=by
 refine hu ?_;have j:=b.OJ;rw [t,sa]at j;refine bE λX I=>ae b.OG λK L M=>bk b.NZ λz A B Y=>ft b.NU λO C Z N aa=>bk (N _ _ u) λad o D P=>I ?_;have ag:=fW (.inl (e:Int):am) (.int (v:Int)) z;have ah:c=c:=rfl;lk;refine d9 (b:=Qp) (by show gj _=_;rw [j];show J (!TC _)=_;simp) ?_;lk;refine c6 j mU ?_;unfold dp;lk;refine rZ j ?_;lk;refine rT (s:=dp (c,e,Nh)) j (by simp) ?_;unfold dp;refine⟨_,rfl,?_⟩;have Q:((MJ.reverse.map λp=>V.tup [.int p.1,.int (p.2.1:Int),.int p.2.2])++[V.tup [.int c,.int (e:Int),.int Nh]]).dropLast=MJ.reverse.map dp:=by
  rw [VD];rfl
 rw [Q];have l:∀{f i},f0 f=J i→i≠.Ok 7→(a.set w.lo (.list (MJ.reverse.map dp))) f=a f:=λm q=>a0 (cV m b.NT.Oy q);lk;refine yL (If:=K) (f0:=f0) ((l b.NT.Ov (aG rfl)).trans L) (kI M λai aj ak n=>⟨rfl,l n (aG rfl)⟩) ?_;have al:Nh=dG x.blocks:=H;have R:=(l b.NT.t0 (aG rfl)).trans b.OA;lk;refine c3 (s:=.ref w.Oj) R tb_g% tb_g% rfl ?_;lk;refine hq ((l b.NT.Ol (aG rfl)).trans A) rfl (by unfold a4;exact(aE 108633973386244755780) y B) ?_;have r:∀{f i},f0 f=J i→i≠.Ok 7→i≠.Ok 4→((a.set w.lo (.list (MJ.reverse.map dp))).set w.Oj (.dict (bC (.inl (e:Int)) (.int (v:Int)) z))) f=a f:=λm q S=>(a0 (cV m b.NT.Ol S)).trans (l m q);have E:=(r b.NT.t0 (aG rfl) (aG rfl)).trans b.OA;have F:=(r b.NT.Oo (aG rfl) (aG rfl)).trans C;have G:=(r D (aG rfl) (aG rfl)).trans P;lk;refine c3 (s:=.ref w.Oi) E tb_g% tb_g% rfl (jN (b:=Qp) F rfl (by rw [o];rfl) ?_);lk;refine c3 (s:=.ref w.Oi) E tb_g% tb_g% rfl ?_;lk;refine eB F rfl o (db G ?_);lk;refine kE G (by unfold eT a4;simp;exact(aE 108428778128222687556) y B) ?_;lk;exact ja (n _ _ _ _ (yK b t u A D (aU O C o)))
theorem IK{e:Nat}{g:Int}{z:bF}(b:bI w hc f0 ap np m2 x a)(A:x.loops=(g,e,Nh)::MJ)(aj:g≠0)(N:Nh=dG x.blocks)(B:x.fd.NU v=U)(C:m2<800000)
  (s:∀d Ni c2 hh rt,bI w hc Ni ap np (m2+1) ⟨{x.fd with NZ:=a5 x.fd.NZ e (J v),NU:=a5 x.fd.NU v (J [e])},x.blocks,MJ⟩ d→ei (λh k m d=>bN ab (af (T+1)) f9 (av ab (af (T+1)) f9 h) h k m d) (λh k m d=>aw ab (af (T+1)) kK h k m d) us [J (.inst 426 w.fd w.N4),J (.ref w.lo),J (.ref w.Oc),J (.int g),J (.int v),c2,hh,rt,U,U] z ML d):
  ei (λh k m d=>bN ab (af (T+1)) f9 (av ab (af (T+1)) f9 h) h k m d) (λh k m d=>aw ab (af (T+1)) kK h k m d) (us+1) [J (.inst 426 w.fd w.N4),J (.ref w.lo),J (.ref w.Oc),J (.int g),J (.int v),c2,hh,rt,U,U] z ML a:=by
 refine hu ?_;have o:=b.OJ;rw [A,sa]at o;refine bE λan P=>ae b.OG λQ R S=>bk b.NZ λl D W ao=>ft b.NU λO E X aq Y=>P ?_;have Z:=Y _ B;have ar:=fW (.inl (e:Int):am) (.int (v:Int)) l;have as:g=g:=rfl;lk;refine d9 (b:=Qp) (by show gj _=_;rw [o];show J (!TC _)=_;simp) ?_;lk;refine c6 o mU ?_;unfold dp;lk;refine rZ o ?_;lk;refine rT (s:=dp (g,e,Nh)) o (by simp) ?_;unfold dp;refine⟨_,rfl,?_⟩;have aa:((MJ.reverse.map λt=>V.tup [.int t.1,.int (t.2.1:Int),.int t.2.2])++[V.tup [.int g,.int (e:Int),.int Nh]]).dropLast=MJ.reverse.map dp:=by
  rw [VD];rfl
 rw [aa];have p:∀{f i},f0 f=J i→i≠.Ok 7→(a.set w.lo (.list (MJ.reverse.map dp))) f=a f:=λj u=>a0 (cV j b.NT.Oy u);lk;refine yL (If:=Q) (f0:=f0) ((p b.NT.Ov (aG rfl)).trans R) (kI S λax ay az s=>⟨rfl,p s (aG rfl)⟩) ?_;have aA:Nh=dG x.blocks:=N;have ad:=(p b.NT.t0 (aG rfl)).trans b.OA;lk;refine c3 (s:=.ref w.Oj) ad tb_g% tb_g% rfl ?_;lk;refine hq ((p b.NT.Ol (aG rfl)).trans D) rfl (by unfold a4;exact(au 423294262241956140) W C) ?_;have F:∀{f i},f0 f=J i→i≠.Ok 7→i≠.Ok 4→((a.set w.lo (.list (MJ.reverse.map dp))).set w.Oj (.dict (bC (.inl (e:Int)) (.int (v:Int)) l))) f=a f:=λj u ag=>(a0 (cV j b.NT.Ol ag)).trans (p j u);have y:=(F b.NT.t0 (aG rfl) (aG rfl)).trans b.OA;have G:=(F b.NT.Oo (aG rfl) (aG rfl)).trans E;lk;refine c3 (s:=.ref w.Oi) y tb_g% tb_g% rfl (jN (b:=Qq) G rfl (by rw [Z];rfl) ?_);lk;refine cJ ?_;lk;refine jM (by unfold a4;simp) λc n=>?_;have H:w.Oj≠c:=λq=>by rw [←q,bJ]at n;cases n
 have I:w.lo≠c:=λq=>by rw [←q,a0 (cV b.NT.Oy b.NT.Ol (aG rfl)),bJ]at n;cases n
 have K:a c=U:=by rw [a0 H.symm,a0 I.symm]at n;exact n
 have r:∀{f i},f0 f=J i→f≠c:=λj q=>by rw [q]at j;exact(b.fr c (by rw [j];simp)).2 K
 lk;refine c3 (s:=.ref w.Oi) ((a0 (r b.NT.t0)).trans y) tb_g% tb_g% rfl ?_;lk;refine hq ((a0 (r b.NT.Oo)).trans G) rfl (by unfold a4;exact(ak 1654489417501476) C X) ?_;lk;refine c3 (s:=.ref w.Oi) ((a0 (cV b.NT.t0 b.NT.Oo (aG rfl))).trans ((a0 (r b.NT.t0)).trans y)) tb_g% tb_g% rfl ?_;lk;refine eB bJ rfl (g3 _ _ _) ?_;have L:((((a.set w.lo (.list (MJ.reverse.map dp))).set w.Oj (.dict (bC (.inl (e:Int)) (.int (v:Int)) l))).set c (.list [])).set w.Oi (.dict (bC (.inl (v:Int)) (.ref c) O))) c=J (.list []):=by
  rw [a0 (r b.NT.Oo).symm];exact bJ
 refine db L ?_;lk;refine kE L (by unfold a4;simp) ?_;lk;refine ja ?_;have al:=II b B K E;have M:=yK al (v:=v) (e:=e) (MT:=[]) (D:=g) (Nh:=Nh) (MJ:=MJ) (c:=c) (m:=l) A (dn _ _ _) ((a0 (cV b.NT.Ol b.NT.Oo (aG rfl))).trans ((a0 (r b.NT.Ol)).trans D)) (Qt rfl) (aU _ bJ (g3 _ _ _));have ah:(((a.set w.lo (.list (MJ.reverse.map dp))).set w.Oj (.dict (bC (.inl (e:Int)) (.int (v:Int)) l))).set c (.list [])).set w.Oi (.dict (bC (.inl (v:Int)) (.ref c) O))=(((a.set c (.list [])).set w.Oi (.dict (bC (.inl (v:Int)) (.ref c) O))).set w.lo (.list (MJ.reverse.map dp))).set w.Oj (.dict (bC (.inl (e:Int)) (.int (v:Int)) l)):=by
  rw [o2 (e:=w.Oj) (c:=c) H,o2 (e:=w.lo) (c:=c) I,o2 (e:=w.Oj) (c:=w.Oi) (cV b.NT.Ol b.NT.Oo (aG rfl)),o2 (e:=w.lo) (c:=w.Oi) (cV b.NT.Oy b.NT.Oo (aG rfl))]
 rw [ah];have ai:a5 (a5 x.fd.NU v (J [])) v (J (((a5 x.fd.NU v (J [])) v).getD []++[e]))=a5 x.fd.NU v (J [e]):=by
  rw [dn,yD];rfl
 simp only [ai]at M;exact s _ (λf=>if f=c then J (b1.O0 v)else f0 f) _ _ _ M
theorem yM{c:Int}{p:bF}:∀(MJ:List (Int×Nat×Int)) (x:a6) (a:I) (MT:List Nat) (h:List (Int×Nat×Int)) (k:cb) (c2 hh rt:Option V),bI w hc f0 ap np m2 x a→x.loops=MJ→x.fd.NU v=J MT→m2+MT.length+MJ.length<900000→ez c v (dG x.blocks) MJ x.fd=J (h,k)→(∀d i,bI w hc f0 ap np m2 ⟨k,x.blocks,h⟩ d→p .NX i d)→
  ei (λm q M d=>bN ab (af (T+1)) f9 (av ab (af (T+1)) f9 m) m q M d) (λm q M d=>aw ab (af (T+1)) kK m q M d) (MJ.length+1) [J (.inst 426 w.fd w.N4),J (.ref w.lo),J (.ref w.Oc),J (.int c),J (.int v),c2,hh,rt,U,U] p ML a
 |[],x,a,MT,h,k,c2,hh,rt,e,f,j,l,b,g=>by
  cases b
  refine sc e (.inl f) (g a _ ?_);obtain⟨s,t,c⟩:=x;clear j g;cases f;exact e
 |(u,H,y)::MJ,x,a,MT,h,k,c2,hh,rt,e,f,j,l,b,g=>by
  rw [qY]at b;by_cases n:c≠0∧u=c
  ·refine ar n λr z=>?_;clear n;subst z;rw [Qt ⟨r,rfl⟩]at b;by_cases o:y=dG x.blocks
   ·rw [Qt o]at b;rw [Qw]at l;exact IJ e f r o j ‹(au 8154678508134142788) l› λd c2 hh rt A=>yM MJ ⟨{x.fd with NZ:=a5 x.fd.NZ H (J v),NU:=a5 x.fd.NU v (J ((x.fd.NU v).getD []++[H]))},x.blocks,MJ⟩ d (MT++[H]) h k c2 hh rt A rfl (by show a5 _ _ _ v=_;rw [dn,j];rfl) (by rw [Qr];simp;exact(au 33497230109762733544260) l) b g
   ·rw [Qs o]at b;cases b
  ·rw [Qs n]at b;cases b;refine sc e (.inr (gg _ _ f n)) (g a _ ?_);obtain⟨s,t,c⟩:=x;clear j g;cases f;exact e
theorem IL{e:Int}(k:bI w hc f0 ap np m2 x a)(u:x.fd.NU v=U)(y:d5 e v x=J Nk)(z:m2<400000)(n:∀d Ni,bI w hc Ni ap np (m2+1) Nk d→b .none d):af (T+2) (.NS (.ref 458)) [.inst 426 w.fd w.N4,.ref w.lo,.ref w.Oc,.int e,.int v] b f a:=by
 refine aZ (i:=[J (.inst 426 w.fd w.N4),J (.ref w.lo),J (.ref w.Oc),J (.int e),J (.int v),U,U,U,U,U]) FT rfl rfl ?_;delta w4;refine lh (dY (qZ y) λA B c g=>?_);clear y;rw [g]at n;clear g;have o:x.loops.length≤m2:=by refine bk k.NZ λS C p D=>?_;exact(au 7372837164) p
 have q:(x.loops=[]∨∃l E,x.loops=l::E∧¬(e≠0∧l.1=e))→x.loops=A→x.fd=B→∃F,ei (λm r s d=>bN ab (af (T+1)) f9 (av ab (af (T+1)) f9 m) m r s d) (λm r s d=>aw ab (af (T+1)) kK m r s d) F [J (.inst 426 w.fd w.N4),J (.ref w.lo),J (.ref w.Oc),J (.int e),J (.int v),U,U,U,U,U] (e5 ab (af (T+1)) [] (xU b) (rK f)) (rK f) a:=λC p D=>by
  refine⟨0+1,sc k C ?_⟩;refine eC ?_;lk;refine n a f0 ?_;rw [←p,←D];exact kJ k (Q1 _)
 generalize h:x.loops=i at c o;induction i using QH with
 |nil=>
  have g:=Qj c;exact q (.inl h) (h.trans (QP Ug g)) (QP Uf g)
 |cons l i=>
  obtain⟨G,H,I⟩:=l;rw [qY]at c;by_cases j:e≠0∧G=e
  ·refine ar j λK L=>?_;rw [Qt j]at c;clear j q;subst L;by_cases t:I=dG x.blocks
   ·rw [Qt t,u]at c;rw [Qw]at o;refine⟨i.length+1+1,IK k h K t u ‹(aN 255038872356) z› λd Ni M N O P=>?_⟩;refine yM i ⟨{x.fd with NZ:=a5 x.fd.NZ H (J v),NU:=a5 x.fd.NU v (J [H])},x.blocks,i⟩ d [H] A B M N O P rfl (dn _ _ _) (by simp;exact(ak 1173260835722831893212) o z) c λQ V R=>eC ?_;lk;exact n Q Ni R
   ·rw [Qs t]at c;exact ag c
  ·rw [Qs j]at c;have g:=Qj c;exact q (.inr (gg _ _ h j)) (h.trans (QP Ug g)) (QP Uf g)
end
structure aT(b2:List (Addr×aK))(a hc:I):Prop where
 O1:(b2.map (·.1)).Nodup
 fr:∀v∈b2,hc v.1=none
 at':∀v∈b2,a v.1=some v.2
 Om:∀o,hc o≠none→a o=hc o
theorem jc:aT [] a a:=⟨Rq,(λb c=>by exact fu c),(λb c=>by exact fu c),λb b=>rfl⟩
theorem bb(c:aT b2 a hc)(d:Nat){b:Qo}(e:b2[d]? =J (b,as)):a b=J as:=c.at' _ (QB e)
theorem dM(g:aT b2 a hc)(c d:Nat){b:Qo×aK}(h:b2[c]? =J b)(i:b2[d]? =J q)(j:c≠d):b.1≠q.1:=by
 intro k;have e:(b2.map (·.1))[c]? =J b.1:=by refine Q (Rb ..) (Q (h ..) ?_);rfl
 have f:(b2.map (·.1))[d]? =J b.1:=by refine Q (Rb ..) (Q (i ..) (Q (k ..) ?_));rfl
 obtain⟨l,e⟩:=QE.mp e;obtain⟨m,f⟩:=QE.mp f;exact j ((List.getElem_inj g.O1).mp (e.trans f.symm))
theorem yN(c:aT b2 a hc)(d:a e=none):hc e=none:=by
 generalize b:hc e=f;induction f using Qm with
 |none=>rfl
 |some g=>have:=c.Om e (by refine Q (b ..) ?_;simp);rw [d,b]at this;exact ag this
theorem cC(d:aT b2 a hc)(h:a e=U):aT (b2++[(e,as)]) (a.set e as) hc:=by
 have i:∀c∈b2,c.1≠e:=λc b f=>by have:=d.at' c b;rw [f,h]at this;exact ag this
 have j:=yN d h;refine⟨?_,λc b=>?_,λc b=>?_,λk g=>?_⟩
 ·refine Q (Rp ..) (Sh.mpr (bw d.O1 (by simp) (λk g m l=>?_)));refine ae (RH.mp g) λc b f=>?_;simp at l;refine Q (Rj (f ..)) (Q (l ..) ?_);exact i c b
 ·rcases Ro.mp b with b|b
  ·exact d.fr c b
  ·simp at b;refine Q (b ..) ?_;exact j
 ·rcases Ro.mp b with b|b
  ·refine Q (a0 (i c b) ..) ?_;exact d.at' c b
  ·simp at b;rw [b];exact bJ
 ·rw [a0 (λf=>by rw [f]at g;exact g j)];exact d.Om k g
theorem o3(f:aT b2 a hc)(g:Nat){e:Qo}(h:b2[g]? =J (e,as))(s:d e=J k)(n:∀o,o≠e→a o≠U→d o=a o):aT (b2.set g (e,k)) d hc:=by
 have t:(b2.set g (e,k)).map (·.1)=b2.map (·.1):=by
  refine Q (Vf ..) (Wm λj=>?_);rw [Wk];by_cases b:g=j
  ·subst b;refine Q (Qt rfl ..) ?_;have u:=(QE.mp h).1;rw [Qt (by rw [QL];exact u),Rb,h];rfl
  ·exact Q (Qs b ..) rfl
 have p:∀c∈b2.set g (e,k),c=(e,k)∨(c∈b2∧c.1≠e):=λc i=>by
  refine bY (TQ.mp i) λj b=>?_;rw [Wk]at b;by_cases m:g=j
  ·rw [Qt m]at b;split at b
   ·left;clear i;obtain rfl:=Qj b;rfl
   ·exact ag b
  ·rw [Qs m]at b;exact .inr ⟨QB b,dM f j g b h (λq=>m q.symm)⟩
 have r:=QB h;refine⟨by refine Q (t ..) ?_;exact f.O1,λc i=>?_,λc i=>?_,λo l=>?_⟩
 ·rcases p c i with q|q
  ·refine Q (q ..) ?_;exact f.fr (e,as) r
  ·exact f.fr c q.1
 ·rcases p c i with q|q
  ·refine Q (q ..) ?_;exact s
  ·rw [n _ q.2 (by rw [f.at' c q.1];simp)];exact f.at' c q.1
 ·have:=f.Om o l;rw [n o (λh=>by rw [h]at l;exact l (f.fr (e,as) r)) (by rw [this];exact l)];exact this
theorem bK(d:aT b2 a hc)(b:Nat){c:Qo}(e:b2[b]? =J (c,as)):aT (b2.set b (c,g)) (a.set c g) hc:=o3 d b e bJ λh f i=>a0 f
theorem MD(b:aT b2 a hc)(c:∀o,a o≠U→d o=a o):aT b2 d hc:=⟨b.O1,b.fr,λe f=>by rw [c _ (by rw [b.at' e f];simp)];exact b.at' e f,λo g=>by
 have:=b.Om o g;rw [c o (by rw [this];exact g)];exact this⟩
def mW(a:List (Qo×aK))(b:Qo):Option b1:=(a.findIdx? (λv=>decide (v.1=b))).map b1.Ok
theorem jS(g:aT b2 a hc)(b:Nat){c:Qo×aK}(d:b2[b]? =J c):mW b2 c.1=J (.Ok b):=by
 unfold mW;have:b2.findIdx? (λh=>decide (h.1=c.1))=J b:=by
  obtain⟨e,i⟩:=QE.mp d;refine Sc.mpr ⟨e,by refine Q (i ..) ?_;simp,λj f=>?_⟩;have:=dM g j b (Rh (TH f e)) d ‹(ak 88365348) f›;simpa using this
 refine Q (this ..) ?_;rfl
theorem IM{a:Qo}(b:mW b2 a≠none):∃v∈b2,v.1=a:=by
 unfold mW at b;generalize c:b2.findIdx? (λv=>decide (v.1=a))=d;induction d using Qm with
 |none=>rw [c]at b;exact(b rfl).elim
 |some g=>
  obtain⟨e,f,-⟩:=Sc.mp c;exact(aU _ (List.getElem_mem e) (by simpa using f))
section
theorem mX(c:gO M7.OB.length M7.dflt Nn=J y)(d:fB M7.OB y (Q6 M7.size U)=J i)(e:aw ab j M7.body i (λa1 Z g=>b (fC a1) g) (λZ g=>f g) a):fD ab j M7 Nn b f a:=by
 exact⟨y,c,i,d,e⟩
theorem fq(c:∀e,a e=U→b (.ref e) (a.set e (.dict []))):mb (k6 []) b a:=⟨[],rfl,by decide,Rq,.inl c⟩
theorem IN(c:∀e,a e=U→b (.ref e) (a.set e (.N5 []))):mb (k6 []) b a:=⟨[],rfl,by decide,Rq,.inr ⟨rfl,c⟩⟩
theorem IP(n:∀(q M g h k m fz:Qo) (d:I),aT [(q,.ns [(Y "labels",.ref g),(Y "next_arm",.ref h),(Y "block_end",.ref k),(Y "do_end",.ref m),(Y "ending",.ref fz)]),(g,.dict []),(h,.dict []),(k,.dict []),(m,.dict []),(fz,.dict [])] d a→b (.inst 426 q M) d):af (T+1) (.NS (.ref 426)) [] b f a:=by
 refine mL (c:=423) tb_g% tb_g% FQ λM q o p o=>mX (i:=[J (.inst 426 q M)]) rfl rfl ?_;delta w0;have r:=cC (as:=.ns []) (jc (a:=a)) p;refine b8 (dL (cH (fq λg s=>?_)));have c:=cC (as:=.dict []) r s;lk;refine i7 (bb c 0 rfl) tb_g% (by show(0:Nat)≤100;exact(aH 31369)) (Q (show fh (Y "labels") (.ref g) []=[(Y "labels",.ref g)] by kernel_rfl) ?_);have t:=bK (g:=.ns [(Y "labels",.ref g)]) c 0 rfl;refine b8 (dL (cH (fq λh u=>?_)));have e:=cC (as:=.dict []) t u;lk;refine i7 (bb e 0 rfl) tb_g% (by show(1:Nat)≤100;exact(aH 31429)) (Q (show fh (Y "next_arm") (.ref h) [(Y "labels",.ref g)]=[(Y "labels",.ref g),(Y "next_arm",.ref h)] by kernel_rfl) ?_);have v:=bK (g:=.ns [(Y "labels",.ref g),(Y "next_arm",.ref h)]) e 0 rfl;refine b8 (dL (cH (fq λk w=>?_)));have i:=cC (as:=.dict []) v w;lk;refine i7 (bb i 0 rfl) tb_g% (by show(2:Nat)≤100;exact(aH 2003365)) (Q (show fh (Y "block_end") (.ref k) [(Y "labels",.ref g),(Y "next_arm",.ref h)]=[(Y "labels",.ref g),(Y "next_arm",.ref h),(Y "block_end",.ref k)] by kernel_rfl) ?_);have x:=bK (g:=.ns [(Y "labels",.ref g),(Y "next_arm",.ref h),(Y "block_end",.ref k)]) i 0 rfl;refine b8 (dL (cH (fq λm y=>?_)));have j:=cC (as:=.dict []) x y;lk;refine i7 (bb j 0 rfl) tb_g% (by show(3:Nat)≤100;exact(aH 2003557)) (Q (show fh (Y "do_end") (.ref m) [(Y "labels",.ref g),(Y "next_arm",.ref h),(Y "block_end",.ref k)]=[(Y "labels",.ref g),(Y "next_arm",.ref h),(Y "block_end",.ref k),(Y "do_end",.ref m)] by kernel_rfl) ?_);have z:=bK (g:=.ns [(Y "labels",.ref g),(Y "next_arm",.ref h),(Y "block_end",.ref k),(Y "do_end",.ref m)]) j 0 rfl;refine b8 (dL (cH (fq λfz A=>?_)));have l:=cC (as:=.dict []) z A;lk;refine i7 (bb l 0 rfl) tb_g% (by show(4:Nat)≤100;exact(aH 2003941)) (Q (show fh (Y "ending") (.ref fz) [(Y "labels",.ref g),(Y "next_arm",.ref h),(Y "block_end",.ref k),(Y "do_end",.ref m)]=[(Y "labels",.ref g),(Y "next_arm",.ref h),(Y "block_end",.ref k),(Y "do_end",.ref m),(Y "ending",.ref fz)] by kernel_rfl) ?_);have B:=bK (g:=.ns [(Y "labels",.ref g),(Y "next_arm",.ref h),(Y "block_end",.ref k),(Y "do_end",.ref m),(Y "ending",.ref fz)]) l 0 rfl;lk;exact⟨rfl,n q M g h k m fz _ B⟩
end
section
variable{x:a6}
theorem IQ(b:bI w hc f0 ap np m2 x a)(k:a e=none)(q:a w.Oc=some (.list (If.reverse.map .ref)))(n:eU f0 a x.blocks If):bI w hc (λt=>if t=e then some (.OQ If.length)else f0 t) ap np (m2+1) ⟨x.fd,[v]::x.blocks,x.loops⟩ ((a.set e (.list [.int v])).set w.Oc (.list (If.reverse.map V.ref++[.ref e]))):=by
 have j:∀{t g},f0 t=some g→t≠e:=λ{t g} c (i:t=e)=>(b.fr t λd=>ag (d.symm.trans c)).2 (by rw [i];exact k);have l:hc e=none:=by
  generalize m:hc e=o;induction o using Qm with
  |none=>rfl
  |some r=>exact ag ((k.symm.trans (b.Om e (by rw [m];simp))).trans m)
 have h:∀t g,f0 t=some g→g≠.Ok 6→((a.set e (.list [.int v])).set w.Oc (.list (If.reverse.map V.ref++[.ref e]))) t=a t:=λt g c d=>by
  rw [a0 (cV c b.NT.Ov d),a0 (j c)]
 have f:∀{t g},f0 t=some g→(if t=e then some (.OQ If.length)else f0 t)=some g:=λc=>by rw [Qs (j c)];exact c
 refine⟨⟨f b.NT.t0,f b.NT.t1,f b.NT.OD,f b.NT.t3,f b.NT.Ol,f b.NT.Oo,f b.NT.Ov,f b.NT.Oy⟩,λt c=>?_,λt c=>?_,(h _ _ b.NT.t0 (aG rfl)).trans b.OA,b.Og.st (h _ _ b.NT.t1 (aG rfl)),b.N1.up (h _ _ b.NT.OD (aG rfl)),b.N7.go (h _ _ b.NT.t3 (aG rfl)) λs d=>?_,b.NZ.up (h _ _ b.NT.Ol (aG rfl)),
  b.NU.go (h _ _ b.NT.Oo (aG rfl)) (Q1 _) λp u d=>⟨f d,h _ _ d (aG rfl)⟩,(h _ _ b.NT.Oy (aG rfl)).trans b.OJ,e::If,?_,.cons (Qt rfl) ?_ (kI n λp y z d=>⟨by rw [f d,d],h _ _ d (aG rfl)⟩)⟩
 ·by_cases i:t=e
  ·rw [i];exact⟨l,hw _ _ _ (by rw [bJ];simp)⟩
  ·rw [Qs i]at c;exact⟨(b.fr t c).1,hw _ _ _ (hw _ _ _ (b.fr t c).2)⟩
 ·rw [a0 (lF b c b.NT.Ov),a0 λ(i:t=e)=>c (by rw [i];exact l)];exact b.Om t c
 ·simp [jR]at d⊢;exact(au 8206142995206444) d
 ·rw [bJ];simp
 ·rw [a0 (j b.NT.Ov).symm,bJ];rfl
theorem IR(b:bI w hc f0 ap np m2 x a){e:Int×Nat×Int}:bI w hc f0 ap np (m2+1) ⟨x.fd,x.blocks,e::x.loops⟩ (a.set w.lo (.list (x.loops.reverse.map dp++[dp e]))):=by
 refine bf (o0 b (as:=.list (x.loops.reverse.map dp++[dp e])) b.NT.Oy) λc f bq=>?_;exact⟨b.NT,f,bq,(c _ _ b.NT.t0 (aG rfl)).trans b.OA,b.Og.st (c _ _ b.NT.t1 (aG rfl)),b.N1.up (c _ _ b.NT.OD (aG rfl)),b.N7.up (c _ _ b.NT.t3 (aG rfl)),b.NZ.go (c _ _ b.NT.Ol (aG rfl)) λi=>R3,
  b.NU.go (c _ _ b.NT.Oo (aG rfl)) (Q1 _) λg h d=>⟨d,c _ _ d (aG rfl)⟩,by rw [bJ];simp,b.OG.go (c _ _ b.NT.Ov (aG rfl)) λg h d=>⟨d,c _ _ d (aG rfl)⟩⟩
theorem IS(c:eU f0 a v2 If):If.length≤jR v2:=by
 induction c with
 |nil=>exact RO _
 |cons _ _ _ b=>simp [jR]at b⊢;exact(au 589109025036) b
theorem IT:∀H2∈["assign", "lif", "continue", "goto", "setlabel", "agoto", "aif", "cgoto", "end"],gL (.str (Y H2)) [.str (Y "elseif"),.str (Y "else"),.str (Y "endif")]=J Qq:=by decide+kernel
theorem yO{a:b4}{b:String}(c:b= "if" ∨b= "do")(d:jG a=Qp):(mV a==b)=Qq:=by
 rcases c with rfl|rfl<;>(induction a using b4.casesOn<;>first|rfl|exact bG d.symm)
theorem IU{a:b4}(b:jG a=Qp):mV a∈["assign", "lif", "continue", "goto", "setlabel", "agoto", "aif", "cgoto", "end"]:=by
 induction a using b4.casesOn<;>first|exact bG b.symm|exact List.elem_iff.mp rfl
abbrev yP:List N:=[.asg (.name 5) (.sub (.sub (.v 0) (.v 4)) (.k (.int 0))),.asg (.name 6) (.sub (.sub (.v 0) (.v 4)) (.k (.int 1))),.expr (.call (.k (.NS (.ref 437))) [.v 1,.v 5,.v 4]),.iff (.cmp (.sub (.v 6) (.k (.int 0))) [.Eq] [.k (.str (Y "if"))]) [.expr (.NY (.v 2) (Y "append") [.lst [.v 4]])] [.iff (.cmp (.sub (.v 6) (.k (.int 0))) [.In] [.tup [.k (.str (Y "elseif")),.k (.str (Y "else")),.k (.str (Y "endif"))]]) [.expr (.call (.k (.NS (.ref 444))) [.v 1,.v 2,.sub (.v 6) (.k (.int 0)),.v 4,.v 0])] [.iff (.cmp (.sub (.v 6) (.k (.int 0))) [.Eq] [.k (.str (Y "do"))]) [.expr (.NY (.v 3) (Y "append") [.tup [.sub (.v 6) (.k (.int 1)),.v 4,.call (.k (.NS (.ref 451))) [.v 2]]]),.cont] []]],.expr (.call (.k (.NS (.ref 458))) [.v 1,.v 3,.v 2,.v 5,.v 4])]
theorem IV{A:bF}(k:bI w hc f0 ap v m2 x a)(l:(de ap).Nodup)(g:ap.length<100000)(m:m2<350000)(p:x.fd.NU v=none)(e:dH ap v x=some Nk)
  (L:∀d Ni i a1,(a1=.NX∨a1=.Ow)→(∃c2 hh,i=[some (.lst (ap.map cL)),some (.inst 426 w.fd w.N4),some (.ref w.Oc),some (.ref w.lo),some (.int v),c2,hh,none,none,none,none,none,none,none,none])→bI w hc Ni ap (v+1) (m2+3) Nk d→A a1 i d):
  aw ab (af (T+2)) yP [some (.lst (ap.map cL)),some (.inst 426 w.fd w.N4),some (.ref w.Oc),some (.ref w.lo),some (.int v),c2,hh,none,none,none,none,none,none,none,none] A ML a:=by
 have B:=e;generalize c:ap[v]? =S;induction S using Qm with
 |none=>unfold dH at e;rw [c]at e;exact ag e
 |some V=>
  obtain⟨C,y⟩:=V;rw [kv c]at e;have n:=(QE.mp c).1;have b:=jb c;have o:∀{D:Nat}{M:Qo→Option b1}{f:a6}{h:I}{i:aq},bI w hc M ap (v+1) D f h→D≤m2+2→f.fd.NU v=none→d5 C v f=some Nk→(∃c2 hh,i=[some (.lst (ap.map cL)),some (.inst 426 w.fd w.N4),some (.ref w.Oc),some (.ref w.lo),some (.int v),c2,hh,none,none,none,none,none,none,none,none]∧c2=some (.int C))→aw ab (af (T+2)) [.expr (.call (.k (.NS (.ref 458))) [.v 1,.v 3,.v 2,.v 5,.v 4])] i A ML h:=by
   intro D M f h i al N W X z;refine dY z λc2 hh z Z=>?_;subst z;clear z;subst Z;lk;refine IL al W X ‹(ak 9902009938622761764) m N› λd Ni aa=>?_;lk;exact L d Ni _ .NX (.inl rfl) (j2 _ _ rfl) (kJ aa ‹(ak 91961848684812) N›)
  by_cases q:jG y=Qp
  ·refine bY (yG y) λaz ad=>?_;rw [ad]at b;have aA:=yO (b:= "if") (.inl rfl) q;have ah:=yO (b:= "do") (.inr rfl) q;have ai:gL (.str (Y (mV y))) [.str (Y "elseif"),.str (Y "else"),.str (Y "endif")]=some Qq:=IT _ (IU q);have am:d5 C v x=some Nk:=by rw [og c q]at B;exact B
   lk;refine cc b ?_;lk;refine cc b ?_;lk;refine lE k l c ‹(ak 1120126822472484) g n› λh al=>?_;lk;refine Hv ai (dK rfl (oK (mm ?_)));refine mK (He rfl rfl (kB (f8 (Ht ah (dK rfl ?_)))));exact o al ‹(aN 100033)› p am (gg _ _ rfl rfl)
  ·induction y using b4.casesOn with
   |ifs an=>
    refine ae k.OG λO r E=>?_;simp only [cx]at b;lk;refine cc b ?_;lk;refine cc b ?_;lk;refine lE k l c ‹(ak 1120126822472484) g n› λh al=>ae al.OG λO r E=>?_;lk;refine db r ?_;lk;refine cJ ?_;lk;refine jM (by unfold a4;simp) λao F=>?_;have ar:w.Oc≠ao:=λas=>by rw [←as,r]at F;exact ag F.symm
    lk;have av:O.length≤m2:=by
     refine bk al.N7 λax G H K=>?_;clear G;clear K;have:=IS E;exact(aE 300959614144812) H this
    exact kE ((a0 ar).trans r) (by unfold a4;simp;exact(ak 1654489417206564) m av) (dg (o (IQ al F r E) ‹(aN 1600573)› p e (gg _ _ rfl rfl)))
   |Ox an=>
    simp only [cx]at b;refine ae (Q7.mp e) λf j s=>?_;have t:f.fd.NU v=none:=by rw [(ox j).1];exact p
    lk;refine cc b ?_;lk;refine cc b ?_;lk;refine lE k l c ‹(ak 1120126822472484) g n› λh al=>?_;lk;refine r9 (g:=Qq) al j rfl ‹(aN 485749377828) m› ‹(aN 30357805860) g› λP Q u=>dg (dg ?_);exact o u ‹(aN 102439021)› t s (gg _ _ rfl rfl)
   |Op=>
    simp only [cx]at b;refine ae (Q7.mp e) λf j s=>?_;have t:f.fd.NU v=none:=by rw [(ox j).1];exact p
    lk;refine cc b ?_;lk;refine cc b ?_;lk;refine lE k l c ‹(ak 1120126822472484) g n› λh al=>?_;lk;refine r9 (g:=Qq) al j rfl ‹(aN 485749377828) m› ‹(aN 30357805860) g› λP Q u=>dg (dg ?_);exact o u ‹(aN 102439021)› t s (gg _ _ rfl rfl)
   |Ot=>
    simp only [cx]at b;refine ae (Q7.mp e) λf j s=>?_;have t:f.fd.NU v=none:=by rw [(ox j).1];exact p
    lk;refine cc b ?_;lk;refine cc b ?_;lk;refine lE k l c ‹(ak 1120126822472484) g n› λh al=>?_;lk;refine r9 (g:=Qp) al j rfl ‹(aN 485749377828) m› ‹(aN 30357805860) g› λP Q u=>dg (dg ?_);exact o u ‹(aN 102439021)› t s (gg _ _ rfl rfl)
   |Od ay aB aC aD aj=>
    simp only [cx]at b;clear B o;obtain rfl:=Qj e;lk;refine cc b ?_;lk;refine cc b ?_;lk;refine lE k l c ‹(ak 1120126822472484) g n› λh al=>?_;have R:=al.OJ;refine bk al.NZ λax G H K=>?_;clear G;clear K;lk;refine db R ?_;lk;refine IB al ?_;lk;refine kE R (by unfold a4;simp;exact(au 423558660428697900) H m) ?_;lk;exact qy (L _ _ _ .Ow (.inr rfl) (j2 _ _ rfl) (kJ (IR al (e:=(ay,v,dG x.blocks))) ‹(aN 2387005)›))
   |_=>exact(q rfl).elim
end
section
theorem IW{m:cb}{n:bF}(q:(de ap).Nodup)(e:ap.length<100000)(r:∀d Ni i,(∃MQ c2 hh,i=[J (.lst (ap.map cL)),J (.inst 426 w.fd w.N4),J (.ref w.Oc),J (.ref w.lo),MQ,c2,hh,U,U,U,U,U,U,U,U])→bI w hc Ni ap ap.length (3*ap.length) ⟨m,[],[]⟩ d→n .NX i d):
  ∀(kw v:Nat) (x:a6) (a:I) (f0:Qo→Option b1) (MQ c2 hh:Option V),v+kw=ap.length→bI w hc f0 ap v (3*v) x a→(∀l,v≤l→x.fd.NU l=U)→x.loops.length≤v→i5 100000 x.fd→eN ap kw v x=J ⟨m,[],[]⟩→
  c0 ab (af (T+2)) (.name 4) (λM bl cl d=>aw ab (af (T+2)) yP M bl cl d) (eT (SQ v kw)) [J (.lst (ap.map cL)),J (.inst 426 w.fd w.N4),J (.ref w.Oc),J (.ref w.lo),MQ,c2,hh,U,U,U,U,U,U,U,U] n ML a:=by
 intro kw;induction kw with
 |zero=>
  intro v x a f0 MQ c2 hh b f c c c g;cases g;refine gA (r a f0 _ (sG _ _ _ rfl) ?_);have:v=ap.length:=by exact(ak 7514396004) b
  clear b c;clear c;subst this;exact f
 |succ kw s=>
  intro v x a f0 MQ c2 hh b f o t u g;refine ae (Q7.mp g) λy p z=>Q (S5 ..) (iu ?_);have j:=wq (ca:=100000) p ⟨o,u,t⟩ ‹(au 353504874362171019636) b e›;refine IV f q e ‹(au 30470718965444109914484) b e› (o v (Qu _)) p ?_;intro d Ni i a1 A k B;refine j0 k λc2 hh k=>?_;subst k;have step:=s (v+1) y d Ni (J (.int v)) c2 hh ‹(au 482560401199476) b› (kJ B ‹(aN 2492030142445)›) j.fr j.ls j.le z;rcases A with h|h<;>subst h
  ·exact e8 step
  ·exact H1 step
theorem sd(a:Nat):b9 (a:Int)=eT (SQ 0 a):=by
 unfold b9 eT;refine Q (RE ..) (Q (VB ..) ?_);rfl
theorem IX{k:cb}(z:(de ap).Nodup)(q:ap.length<100000)(A:eN ap ap.length 0 gx=J ⟨k,[],[]⟩)(B:∀w f0 d,bI w a f0 ap ap.length (3*ap.length) ⟨k,[],[]⟩ d→b (.inst 426 w.fd w.N4) d):af (T+3) (.NS (.ref 465)) [.lst (ap.map cL)] b f a:=by
 refine aZ (i:=[J (.lst (ap.map cL)),U,U,U,U,U,U,U,U,U,U,U,U,U,U]) FU rfl rfl ?_;delta w5;lk;refine IP λr s t u v x fz C D=>kD (cJ (cH (jM (by unfold a4;simp) λl E=>?_)));have F:=cC (as:=.list []) D E;refine kD (cJ (cH (jM (by unfold a4;simp) λm G=>?_)));have c:=cC (as:=.list []) F G;generalize((C.set l (.list [])).set m (.list []))=σ3 at c⊢;refine fH (kp ?_);lk;refine(aU (b9 ((ap.map cL).length:Int)) (by show(if _ then _ else _)=_;rw [Qt ⟨by exact(aN 1418),by rw [QL];unfold a4;exact(aN 11531385527076) q⟩]) ?_);refine Q (sd ..) (Q (QL ..) ?_);have H:∀{h},mW _ h≠U→a h=U∧σ3 h≠U:=λ{h} n=>by
  refine ae (IM n) λg y I=>Q (Rj (I ..)) ?_;exact⟨c.fr g y,by refine Q (c.at' g y ..) ?_;simp⟩
 have K:bI ⟨r,s,t,u,v,x,fz,l,m⟩ a _ ap 0 (3*0) gx σ3:=
  ⟨⟨jS c 0 rfl,jS c 1 rfl,jS c 2 rfl,jS c 3 rfl,jS c 4 rfl,jS c 5 rfl,jS c 6 rfl,jS c 7 rfl⟩,λh n=>H n,c.Om,bb c 0 rfl,
   (fd [] (bb c 1 rfl) (by simp) ⟨(λg L P i i e=>(Ss _ e).elim),(λL e=>(e rfl).elim)⟩),(fd [] (bb c 2 rfl) (by simp) (λj g e=>by cases e)),(fd [] (bb c 3 rfl) (by simp [jR,gx]) (λj g e=>by cases e)),(fd [] (bb c 4 rfl) (by simp [gx]) (λj g e=>by cases e)),
   (m9 [] (bb c 5 rfl) (by simp) (λj g e=>by cases e) (λj i=>rfl)),bb c 7 rfl,[],bb c 6 rfl,.nil⟩
 refine IW (w:=⟨r,s,t,u,v,x,fz,l,m⟩) (m:=k) z q ?_ ap.length 0 gx σ3 _ _ _ _ ‹(aN 1183)› K (λi i=>rfl) (by simp [gx]) (λR S e=>by cases e) A;intro d V W o p;refine sC o λX Y Z o=>?_;subst o;refine eC (ae p.OG λaa M N=>?_);cases N;have O:=p.OJ;lk;refine d9 (b:=Qq) (by show gj _=_;refine Q (M ..) ?_;rfl) ?_;lk;refine d9 (b:=Qq) (by show gj _=_;refine Q (O ..) ?_;rfl) ?_;lk;exact B _ _ _ p
end
def lG(a:cg)(b:Qo)(c:List V)(d e:Qo)(f:aK)(g:List aW)(h i:an):List (Qo×aK):=
 [(b,.list c),(a.N3,.ns (oP a g)),(a.OR,.dict []),(a.PQ,.dict []),(a.PR,.dict []),(a.PS,.dict []),(a.PT,.dict []),(a.OF,.ns (dh a.na)),(a.na,.list (da h U)),(a.OW,.dict e6),(d,f),(a.ld,.ns eS),(a.un,.dict [(.inr (Y "P"),.inst 686 a.N3 a.N6)]),(a.Pg,.dict fp),(a.NV,.ns (hs a 0)),(a.fr,.dict e7),(a.PP,.dict []),(a.OH,.dict []),(a.cl,.dict []),(a.Ou,.N5 []),(e,.dict []),(a.op,.dict ir),(a.st,.list (i.map .int))]
def lH(b:cg)(a:ce):cg:={b with fd:=a.fd,N4:=a.N4,OI:=a.OI,NX:=a.NX,be:=a.be,Oj:=a.Oj,Oi:=a.Oi}
section
variable{eV M2:Qo}{NC:List V}{ND:aK}{t:an}
theorem IY{s:cb}(f:aT (lG s0 eV NC M2 Nb ND ap p t) a hc)(b:bI w a f0 ap ap.length m2 ⟨s,[],[]⟩ d):
  a7 ⟨lH s0 w,ap,s,t⟩ 0 p U (λZ=>U) (d.set s0.OH (.dict [(.inr (Y "P"),.inst 426 w.fd w.N4)])):=by
 have i:∀(c:Nat) {j:Qo}{n:aK},(lG s0 eV NC M2 Nb ND ap p t)[c]? =J (j,n)→c≠17→(d.set s0.OH (.dict [(.inr (Y "P"),.inst 426 w.fd w.N4)])) j=J n:=λc j n e y=>by
  rw [a0 (dM f c 17 e rfl y),b.Om j (by rw [bb f c e];simp)];exact bb f c e
 have l:∀{g o},f0 g=J o→a g=U∧(d.set s0.OH (.dict [(.inr (Y "P"),.inst 426 w.fd w.N4)])) g=d g:=λ{g o} r=>by
  have h:=(b.fr g (by rw [r];simp)).1;exact⟨h,a0 λe=>by rw [e,bb f 17 rfl]at h;cases h⟩
 have k:∀(c:Nat) {j:Qo}{n:aK},(lG s0 eV NC M2 Nb ND ap p t)[c]? =J (j,n)→c≠14→c≠8→c≠19→j≠s0.NV∧j≠s0.na∧j≠s0.Ou:=λc j n e z A B=>(bw (dM f c 14 e rfl z) (dM f c 8 e rfl A) (dM f c 19 e rfl B));have m:∀{g o},f0 g=J o→g≠s0.NV∧g≠s0.na∧g≠s0.Ou:=λ{g o} r=>by
  have h:=(l r).1;refine⟨λe=>?_,λe=>?_,λe=>?_⟩
  ·rw [e,bb f 14 rfl]at h;exact ag h.symm
  ·rw [e,bb f 8 rfl]at h;exact ag h.symm
  ·rw [e,bb f 19 rfl]at h;exact ag h.symm
 refine bE λai C=>bk b.Og λD E aj F=>bk b.N1 λG I ak K=>bk b.N7 λL M al N=>bk b.NZ λO P am Q=>ft b.NU λR S an T V=>C ?_;refine⟨⟨eo (k 7 rfl (by decide) (by decide) (by decide))<|eo (k 11 rfl (by decide) (by decide) (by decide))<|eo (k 1 rfl (by decide) (by decide) (by decide))<|eo (k 13 rfl (by decide) (by decide) (by decide))<|eo (k 9 rfl (by decide) (by decide) (by decide))<|eo (k 15 rfl (by decide) (by decide) (by decide))<|eo (k 21 rfl (by decide) (by decide) (by decide))<|eo (k 17 rfl (by decide) (by decide) (by decide))<|eo (m b.NT.t0)<|eo (m b.NT.t1)<|eo (m b.NT.OD)<|eo (m b.NT.t3)<|eo (m b.NT.Ol)<|eo (m b.NT.Oo)<|eo (k 22 rfl (by decide) (by decide) (by decide))<|nb,dM f 14 8 rfl rfl (by decide),dM f 14 19 rfl rfl (by decide),dM f 8 19 rfl rfl (by decide)⟩,
  ⟨i 7 rfl (by decide),i 11 rfl (by decide),i 1 rfl (by decide),i 13 rfl (by decide),i 9 rfl (by decide),i 15 rfl (by decide),i 21 rfl (by decide),bJ,(l b.NT.t0).2.trans b.OA,
   (aU D ((l b.NT.t1).2.trans E) (λW X q=>?_)),(aU G ((l b.NT.OD).2.trans I) K),(aU L ((l b.NT.t3).2.trans M) N),(aU O ((l b.NT.Ol).2.trans P) Q),(fd R ((l b.NT.Oo).2.trans S) (λaa ab q=>?_) V),i 22 rfl (by decide)⟩,
  i 14 rfl (by decide),i 8 rfl (by decide),[],i 19 rfl (by decide),Qu _,λu ao H q=>by cases q⟩
 ·exact ar (Fa q) λh ad=>bY ad λu v=>F.PC X W u v h (QE.mp v).1
 ·exact bk (T aa ab q) λae af x ah=>(fd ae af ((l x).2.trans ah) (m x))
theorem IZ{j:cb}(c:aT (lG s0 eV NC M2 Nb ND ap p t) a hc)(k:(de ap).Nodup)(l:ap.length<100000)(m:eN ap ap.length 0 gx=J ⟨j,[],[]⟩)(n:∀w d,a7 ⟨lH s0 w,ap,j,t⟩ 0 p U (λZ=>U) d→b (.inst 426 w.fd w.N4) d):af (T+4) (.NS (.ref 479)) [.inst 330 s0.NV s0.NW,.inst 686 s0.N3 s0.N6] b f a:=by
 refine aZ (i:=[J (.inst 330 s0.NV s0.NW),J (.inst 686 s0.N3 s0.N6),U]) w7 rfl rfl ?_;delta rq;have e:a s0.N3=J (.ns (oP s0 ap)):=bb c 1 rfl;have h:a s0.NV=J (.ns (hs s0 0)):=bb c 14 rfl;have i:a s0.OH=J (.dict []):=bb c 17 rfl;lk;refine c3 (s:=.str (Y "P")) e tb_g% tb_g% rfl ?_;lk;refine c3 (s:=.ref s0.OH) h tb_g% tb_g% rfl (jN (b:=Qq) i rfl rfl ?_);lk;refine c3 (s:=.lst (ap.map cL)) e tb_g% tb_g% rfl ?_;lk;refine IX k l m λw x d g=>?_;have o:d s0.N3=J (.ns (oP s0 ap)):=by rw [g.Om _ (by rw [e];simp)];exact e
 have q:d s0.NV=J (.ns (hs s0 0)):=by rw [g.Om _ (by rw [h];simp)];exact h
 have r:d s0.OH=J (.dict []):=by rw [g.Om _ (by rw [i];simp)];exact i
 lk;refine c3 (s:=.ref s0.OH) q tb_g% tb_g% rfl ?_;lk;refine c3 (s:=.str (Y "P")) o tb_g% tb_g% rfl (hq r rfl (by unfold a4;simp) ?_);have al:=IY c g;have s:=al.N8.Pr;have u:=al.run;have v:=al.N8.Pu;lk;refine c3 (s:=.ref s0.OH) u tb_g% tb_g% rfl ?_;lk;exact c3 (s:=.str (Y "P")) s tb_g% tb_g% rfl (eB (s:=.inst 426 w.fd w.N4) v rfl tb_g% (n w _ al))
end
section
theorem I0{h:dU}{x:bF}(k:oV c MO):∀{us:Nat}{j g:cG},gU (gC c) us j g→eZ (gC c) g h→(∀as,h≠.to as)→∀(l:Nat) (a:I) (c2:Option V),a7 c l j.xs j.lc j.N2 a→bs (eE MO l) j.xs→dW j.N2→l+us+1<1000000→eE MO (l+us)+4*(MO+1)<2000000000→
  (h=.ret→∀M d i,a7 c M g.xs g.lc g.N2 d→x (.N9 (.int 0)) i d)→(h=.fault→∀M d,a7 c M g.xs g.lc g.N2 d→f d)→
  ei (λm bl cl d=>bN ab (af (T+12)) kH (av ab (af (T+12)) kH m) m bl cl d) (λm bl cl d=>aw ab (af (T+12)) oU m bl cl d) (us+1) [J (.inst 330 c.A.NV c.A.NW),J (.inst 686 c.A.N3 c.A.N6),J ht,J (.inst 426 c.A.fd c.A.N4),J (.int j.pos),c2,U,U,U,U,U,U,U] x (λZ fw=>f fw) a:=by
 intro us j g y;induction y with
 |refl j=>
  intro n s l a c2 t o p q r u v;exact yF t k o p ‹(aN 11758417308374004) q› r n (λas d c2 b=>(s as b).elim) (λd i b e=>u b _ _ _ e) (λd b e=>v b _ _ e)
 |@step us j C D n E z=>
  intro A s l a c2 t o p q r u v;have w:=Fi k.Pa k.Pj o (by unfold eE;exact(aN 15840229)) p n;rw [←Iw]at w;have B:eE MO l+4*(MO+1)<2000000000:=by
   have:eE MO l≤eE MO (l+(us+1)):=by unfold eE;exact Ta (V3 _ ‹(ak 1032577)›) _
   exact(au 85510110214868196077611426116) r this
  refine yF t k o p ‹(ak 47033669243442420) q› B n (λas d c2 b e=>?_) (λd i b=>by cases b) (λd b=>by cases b);cases b;exact z A s (l+1) d c2 e w.1 w.2 ‹(ak 192733990128010990836) q› (by refine Q (show l+1+us=l+(us+1) by exact(ak 4229481439)) ?_;exact r) u v
end
section
variable{eV M2:Qo}{NC:List V}{ND:aK}{t:an}
theorem I1{c:cb}{h:dU}(m:aT (lG s0 eV NC M2 Nb ND ap p t) a hc)(n:(de ap).Nodup)(o:ap.length<100000)(q:eN ap ap.length 0 gx=J ⟨c,[],[]⟩)
  (r:∀s0 t,oV ⟨s0,ap,c,t⟩ MO)(s:bs 4 p)(u:us+1<1000000)(v:eE MO us+4*(MO+1)<2000000000)
  (x:gU ⟨ap,c,f6 ap⟩ us ⟨0,p,U,λZ=>U⟩ g)(y:eZ ⟨ap,c,f6 ap⟩ g h)(z:∀as,h≠.to as)
  (A:h=.ret→∀w l d,a7 ⟨lH s0 w,ap,c,t⟩ l g.xs g.lc g.N2 d→b (.int 0) d)(B:h=.fault→∀w l d,a7 ⟨lH s0 w,ap,c,t⟩ l g.xs g.lc g.N2 d→f d):
  af (T+13) (.NS (.ref 500)) [.inst 330 s0.NV s0.NW,.inst 686 s0.N3 s0.N6,.int 0] b f a:=by
 refine aZ (i:=[J (.inst 330 s0.NV s0.NW),J (.inst 686 s0.N3 s0.N6),J (.int 0),U,U,U,U,U,U,U,U,U,U]) FY rfl rfl ?_;delta xa;lk;refine IZ m n o q λw d C=>?_;lk;refine lh ⟨us+1,?_⟩;refine I0 (c:=⟨lH s0 w,ap,c,t⟩) (ht:=.int 0) (r _ _) x y z 0 d U C (by unfold eE;simpa using s) (λD E H e=>by exact ag e) ‹(aN 2939707243082484) u› (by refine Q (RJ ..) ?_;exact v) (λe i j F k=>iq (A e w i j k)) (λe i j k=>B e w i j k)
end
def cW(a:cf):V:=.tup [.str (Y (bR a.op)),.int a.v,.int a.n]
def iw(a:bX):V:=.tup [.str (Y "set"),.int a.t,.int (if a.OO then 1 else 0),.int a.s,.int a.n]
def jT(a:a3):V:=match a with
 |.set kw=>iw kw
 |.OC j kw=>.tup [.str (Y "lif"),cW j,iw kw]
theorem I2(a:a3):iI (jT a)=J Qq:=by induction a using a3.casesOn<;>rfl
def jU(a:Option a3):V:=match a with
 |none=>.none
 |some v=>jT v
mutual
noncomputable def ea(D E:Int):c7→V
 |.plain v=>jT v
 |.exit j=>.tup [.str (Y "exit"),.int D,cW j]
 |.N0 j=>.tup [.str (Y "cycle"),.int E,cW j]
 |.fin j=>.tup [.str (Y "end"),cW j]
 |.cond j r If M4 as=>.tup [.str (Y "if"),.lst (.tup [cW j,.lst (a8 D E r)]::hy D E If),if M4 then .lst (a8 D E as)else .none]
 |.way z b2 v2=>.tup [.str (Y "way"),.int z,.int (if b2 then 1 else 0),.lst (cU D E v2)]
 |.sign s v2 as=>.tup [.str (Y "sign"),.int s,.lst (cU D E v2),.lst (a8 D E as)]
 |.sw s v2 as=>.tup [.str (Y "switch"),.int s,.lst (cU D E v2),.lst (a8 D E as)]
 |.loop kw s e r H a ca=>.tup [.str (Y "do"),.int kw,.int s,.int e,.int r,.int H,.lst (a8 kw kw a),jU ca,.none]
 |.pair kw s e r H a MS b m2 MP MM ca=>.tup [.str (Y "do"),.int kw,.int s,.int e,.int r,.int H,.lst (a8 kw kw a),.none,.tup [.str (Y "do"),.int MS,.int b,.int m2,.int MP,.int 1,.lst (a8 kw MS MM),jU ca,.none]]
noncomputable def a8(D E:Int):aP→List V
 |.nil=>[]
 |.cons v A=>ea D E v::a8 D E A
noncomputable def hy(D E:Int):cr→List V
 |.nil=>[]
 |.cons j r A=>.tup [cW j,.lst (a8 D E r)]::hy D E A
noncomputable def cU(D E:Int):bu→List V
 |.nil=>[]
 |.cons r A=>.lst (a8 D E r)::cU D E A
end
def fr(D E:Int)(a:aJ):V:=match a with
 |.on=>.tup [.str (Y "on")]
 |.exit=>.tup [.str (Y "exit"),.int D]
 |.N0=>.tup [.str (Y "cycle"),.int E]
 |.fin=>.tup [.str (Y "end")]
 |.fault=>.tup [.str (Y "fault")]
def eb(b:Qo)(a c:I):Prop:=∀o,o≠b→a o≠U→c o=a o
def kL(a b:I):Prop:=∀o,a o≠U→b o=a o
theorem I3(b:a e=U):kL a (a.set e as):=λf c=>a0 λd=>c ‹Q (d ..) (Q (b ..) rfl)›
theorem o4(d:kL a M8)(f:eb e M8 Nl):eb e a Nl:=λb g c=>by
 have:=d b c;rw [f b g (by rw [this];exact c)];exact this
theorem lI(f:eb e a M8)(g:eb e M8 Nl):eb e a Nl:=λb c d=>by
 have:=f b c d;rw [g b c (by rw [this];exact d)];exact this
theorem kM(b:kL a M8):eb e a M8:=λc f d=>b c d
theorem o5:eb e a (a.set e as):=λc b d=>a0 b
theorem o6:eb e a a:=λb b b=>rfl
def bS(a:an):List V:=a.map .int
theorem lJ(b:bs h1 p)(a:z<6):bW (bS p) (z:Int)=J (.int (p.getD z 0)):=by
 unfold bW bS;rw [Qt ‹(aN 3345783588) a›,RE,Rb,RN,Rh (by rw [b.1];exact a)];rfl
theorem o7(c:bs h1 p)(a:z<6)(b:Int):gk (bS p) (z:Int) (.int b)=J (bS (p.set z b)):=by
 unfold gk bS;rw [Qt ⟨by exact(aN 3345783588) a,by rw [QL,c.1];exact(aN 15242241547044) a⟩,RE,Vf]
section
variable{H:Qo}
def mo(a b:Int):List (am×V):=[(.inr (Y "lt"),.bool (decide (a<b))),(.inr (Y "le"),.bool (decide (a≤b))),(.inr (Y "eq"),.bool (decide (a=b))),(.inr (Y "ne"),.bool (!decide (a=b))),(.inr (Y "gt"),.bool (decide (a>b))),(.inr (Y "ge"),.bool (decide (a≥b)))]
theorem I4:([.inr (Y "lt"),.inr (Y "le"),.inr (Y "eq"),.inr (Y "ne"),.inr (Y "gt"),.inr (Y "ge")]:List am).Nodup:=by decide+kernel
theorem I5{a:fZ}:bA (.inr (Y (bR a))) (mo o t)=J (.bool (a.ev o t)):=by
 induction a using fZ.casesOn
 ·kernel_rfl
 ·kernel_rfl
 ·kernel_rfl
 ·show J (V.bool (!decide (o=t)))=J (.bool (decide (o≠t)));congr 2;by_cases b:o=t<;>simp [b]
 ·kernel_rfl
 ·kernel_rfl
theorem lK{c:cf}(e:a H=J (.list (bS p)))(g:bs h1 p)(h:eQ c)(i:∀d,kL a d→b (.bool (c.ev p)) d):af (T+1) (.NS (.ref 806)) [cW c,.ref H] b f a:=by
 refine aZ (i:=[J (.tup [.str (Y (bR c.op)),.int c.v,.int c.n]),J (.ref H),U,U]) Gu rfl rfl ?_;delta xJ;lk;refine c6 e (lJ g h.1) ?_;lk;refine⟨_,rfl,?_⟩;lk;refine dL ?_;repeat(first|tb_rel|refine rD rfl ?_)
 refine⟨mo (p.getD c.v 0) c.n,by kernel_rfl!,by show(6:Nat)≤16;decide,I4,.inl λk j=>?_⟩;lk;exact eB (O:=mo (p.getD c.v 0) c.n) bJ rfl I5 (i _ (I3 j))
theorem yQ(g:a H=J (.list (bS p)))(c:bs h1 p)(m:h1<1000000000)(k:iZ kw)(e:∀d,eb H a d→d H=J (.list (bS (kw.run p)))→b .none d):af (T+1) (.NS (.ref 813)) [iw kw,.ref H] b f a:=by
 refine aZ (i:=[J (.tup [.str (Y "set"),.int kw.t,.int (if kw.OO then 1 else 0),.int kw.s,.int kw.n]),J (.ref H),U,U,U,U,U,U,U]) xK rfl rfl ?_;delta rA;refine cY k λh i n o=>?_;have q:=jL c kw.s;lk;refine⟨_,rfl,?_⟩;unfold bX.run at e;generalize j:kw.OO=l;induction l using Qz with
 |true=>
  rw [j,Qt rfl]at e;refine Q (Qt rfl ..) ?_;lk;refine c6 g (lJ c i) ?_;lk;refine ip g (o7 c h _) ?_;lk;exact e _ o5 bJ
 |false=>
  rw [j,Qs (by simp)]at e;refine Q (Qs (by simp) ..) ?_;lk;refine c6 g (lJ c i) ?_;lk;refine ip g (o7 c h _) ?_;lk;exact e _ o5 bJ
theorem se{g:a3}(i:a H=J (.list (bS p)))(c:bs h1 p)(m:h1<1000000000)(h:mz g)(e:∀d,eb H a d→d H=J (.list (bS (g.run p)))→bs (h1+4) (g.run p)→b .none d):af (T+2) (.NS (.ref 813)) [jT g,.ref H] b f a:=by
 induction g using a3.casesOn with
 |set n=>exact yQ i c m h λd j k=>e d j k (lx c h)
 |OC o n=>
  refine aZ (i:=[J (.tup [.str (Y "lif"),cW o,iw n]),J (.ref H),U,U,U,U,U,U,U]) xK rfl rfl ?_;delta rA;lk;refine lK i c h.1 λq l=>?_;have j:q H=J (.list (bS p)):=(l H (by refine Q (i ..) ?_;simp)).trans i;unfold a3.run at e;generalize r:o.ev p=s;induction s using Qz with
  |true=>
   simp only [r,if_true]at e;lk;refine yQ j c m h.2 λt u k=>?_;lk;exact e t (o4 l u) k (lx c h.2)
  |false=>
   simp only [r,Rd,Sx]at e;lk;exact e q (kM l) j (cj c ‹(aN 247489)›)
end
abbrev gD:List N:=[.asg (.name 3) (.sub (.v 2) (.k (.int 0))),.asg (.name 4) (.tup [.k (.str (Y "on"))]),.iff (.cmp (.v 3) [.Eq] [.k (.str (Y "do"))]) [.asg (.name 4) (.call (.k (.NS (.ref 827))) [.v 2,.v 1])] [.iff (.cmp (.v 3) [.In] [.tup [.k (.str (Y "set")),.k (.str (Y "lif"))]]) [.expr (.call (.k (.NS (.ref 813))) [.v 2,.v 1])] [.iff (.cmp (.v 3) [.Eq] [.k (.str (Y "if"))]) [.asg (.name 5) (.or [.sub (.v 2) (.k (.int 2)),.lst []]),.fr (.tup [6,7]) (.rev (.sub (.v 2) (.k (.int 1)))) [.iff (.call (.k (.NS (.ref 806))) [.v 6,.v 1]) [.asg (.name 5) (.v 7)] []],.asg (.name 4) (.call (.k (.NS (.ref 820))) [.v 5,.v 1])] [.iff (.cmp (.v 3) [.Eq] [.k (.str (Y "way"))]) [.asg (.name 4) (.call (.k (.NS (.ref 820))) [.sub (.sub (.v 2) (.k (.int 3))) (.sub (.v 2) (.k (.int 1))),.v 1])] [.iff (.cmp (.v 3) [.Eq] [.k (.str (Y "sign"))]) [.asg (.name 8) (.sub (.v 1) (.sub (.v 2) (.k (.int 1)))),.asg (.name 4) (.call (.k (.NS (.ref 820))) [.sub (.sub (.v 2) (.k (.int 2))) (.Oe (.cmp (.v 8) [.Lt] [.k (.int 0)]) (.k (.int 0)) (.Oe (.cmp (.v 8) [.Eq] [.k (.int 0)]) (.k (.int 1)) (.k (.int 2)))),.v 1])] [.iff (.cmp (.v 3) [.Eq] [.k (.str (Y "switch"))]) [.asg (.name 8) (.sub (.v 1) (.sub (.v 2) (.k (.int 1)))),.asg (.name 4) (.call (.k (.NS (.ref 820))) [.Oe (.cmp (.k (.int 0)) [.Lt,.LtE] [.v 8,.call (.k (.NS (.builtin "len"))) [.sub (.v 2) (.k (.int 2))]]) (.sub (.sub (.v 2) (.k (.int 2))) (.bin .sub (.v 8) (.k (.int 1)))) (.sub (.v 2) (.k (.int 3))),.v 1])] [.iff (.cmp (.v 3) [.Eq] [.k (.str (Y "end"))]) [.iff (.call (.k (.NS (.ref 806))) [.sub (.v 2) (.k (.int 1)),.v 1]) [.ret (J (.tup [.k (.str (Y "end"))]))] []] [.iff (.call (.k (.NS (.ref 806))) [.sub (.v 2) (.k (.int 2)),.v 1]) [.ret (J (.tup [.v 3,.sub (.v 2) (.k (.int 1))]))] []]]]]]]],.iff (.cmp (.v 4) [.NotEq] [.tup [.k (.str (Y "on"))]]) [.ret (J (.v 4))] []]
abbrev o8:List N:=[.asg (.name 14) (.call (.k (.NS (.ref 820))) [.v 8,.v 1]),.iff (.and [.cmp (.v 14) [.Eq] [.tup [.k (.str (Y "on"))]],.cmp (.v 10) [.IsNot] [.k .none]]) [.asg (.name 14) (.call (.k (.NS (.ref 827))) [.v 10,.v 1])] [],.iff (.cmp (.v 14) [.Eq] [.tup [.k (.str (Y "exit")),.v 3]]) [.ret (J (.tup [.k (.str (Y "on"))]))] [],.iff (.cmp (.v 14) [.NotIn] [.lst [.tup [.k (.str (Y "on"))],.tup [.k (.str (Y "cycle")),.v 3]]]) [.ret (J (.v 14))] [],.iff (.cmp (.v 9) [.IsNot] [.k .none]) [.expr (.call (.k (.NS (.ref 813))) [.v 9,.v 1])] [],.aug (.item (.v 1) (.v 4)) .add (.v 7)]
abbrev o9:aa:=(.Oe (.cmp (.v 7) [.Gt] [.k (.int 0)]) (.cmp (.v 12) [.LtE] [.v 6]) (.cmp (.v 12) [.GtE] [.v 6]))
abbrev yR:List N:=[.aug (.name 11) .add (.k (.int 1)),.aug (.name 12) .add (.v 7)]
section
theorem mY{b:List V}{d e:ai}{c:Bool}(f:cZ b=J d)(g:cZ Nc=J e)(h:decide (d=e)=c)(i:L c a):co .Eq (.tup b) (.tup Nc) L a:=⟨c,by
 show(cZ b).bind _=_;refine Q (f ..) (Q (Tu ..) (Q (g ..) (Q (Rj (h ..)) ?_)));rfl,i⟩
theorem I6{b:List V}{d e:ai}{c:Bool}(f:cZ b=J d)(g:cZ Nc=J e)(h:decide (d=e)=c)(i:L (!c) a):co .NotEq (.tup b) (.tup Nc) L a:=⟨!c,by
 show((cZ b).bind _).map _=_;refine Q (f ..) (Q (Tu ..) (Q (g ..) (Q (Rj (h ..)) ?_)));rfl,i⟩
def gZ(D E:Int)(a:aJ):ai:=match a with
 |.on=>[.inr (Y "on")]
 |.exit=>[.inr (Y "exit"),.inl D]
 |.N0=>[.inr (Y "cycle"),.inl E]
 |.fin=>[.inr (Y "end")]
 |.fault=>[.inr (Y "fault")]
def aA(D E:Int)(a:aJ):List V:=match a with
 |.on=>[.str (Y "on")]
 |.exit=>[.str (Y "exit"),.int D]
 |.N0=>[.str (Y "cycle"),.int E]
 |.fin=>[.str (Y "end")]
 |.fault=>[.str (Y "fault")]
theorem lL(b c:Int)(a:aJ):fr b c a=.tup (aA b c a):=by induction a using aJ.casesOn<;>rfl
theorem kN(b c:Int)(a:aJ):cZ (aA b c a)=J (gZ b c a):=by induction a using aJ.casesOn<;>rfl
theorem I7{a b:String}(c:(a==b)=Qq):Y a≠Y b:=λd=>by rw [rU d]at c;simp at c
theorem lM{a b:String}{c d:ai}(e:(a==b)=Qq):(Uj (Y a)::c:ai)≠.inr (Y b)::d:=λf=>I7 e (U2 (Sd f).1)
def mZ(a:aJ):Bool:=by cases a with
 |on=>exact Qp
 |_=>exact Qq
theorem sf(b c:Int)(a:aJ):decide (gZ b c a=[.inr (Y "on")])=mZ a:=by
 induction a using aJ.casesOn with
 |on=>exact QD rfl
 |_=>exact Qx (lM (by decide))
def pa(a:aJ)(b:Bool):Bool:=by cases a with
 |exit=>exact b
 |_=>exact Qq
theorem yS(a e b:Int)(c:aJ):decide (gZ a e c=[.inr (Y "exit"),.inl b])=pa c (decide (a=b)):=by
 induction c using aJ.casesOn with
 |exit=>
  by_cases d:a=b
  ·rw [d];exact(QD rfl).trans (QD rfl).symm
  ·exact(Qx λf=>d (Sl (Sd (Sd f).2).1)).trans (Qx d).symm
 |_=>exact Qx (lM (by decide))
def lN(a:aJ):Bool:=by cases a with
 |on=>exact Qp
 |N0=>exact Qp
 |_=>exact Qq
theorem pb(c b:Int)(a:aJ):gL (.tup (aA c b a)) [.tup [.str (Y "on")],.tup [.str (Y "cycle"),.int b]]=J (lN a):=by
 show(cZ (aA c b a)).bind _=_;refine Q (kN ..) (QP J (?_:(decide (([.inr (Y "on")]:ai)=gZ c b a)||(decide (([.inr (Y "cycle"),.inl b]:ai)=gZ c b a)||Qq))=lN a));induction a using aJ.casesOn with
 |on=>exact Q (QD rfl) rfl
 |N0=>exact Q (Qx (lM (by decide))) (Q (QD rfl) rfl)
 |_=>exact VF.mpr ⟨Qx (lM (by decide)),VF.mpr ⟨Qx (lM (by decide)),rfl⟩⟩
end
section
variable{H:Qo}
structure e9(r:aP):Prop where
 go:∀{T l h1:Nat}{ho:Bool}{cp D E:Int}{a:I}{H:Addr}{p:an}{b:aD}{f:aV},a H=some (.list (bS p))→bs h1 p→4≤h1→h1+8*bn r<1000000000→cD ho cp r→cT l r→l+5≤T→
 (∀d,eb H a d→d H=some (.list (bS (bv r p).2))→bs (h1+8*bn r) (bv r p).2→b (fr D E (bv r p).1) d)→af T (.NS (.ref 820)) [.lst (a8 D E r),.ref H] b f a
theorem I8{i:V}{l:V}{n:bF}(p:bd≠0):∀(kw:Nat) (A g:Int),bD g q bd=kw→(∀M,n .NX [J MX,J lst,J H2,J l,J s,J (.int bl),J (.int q),J (.int bd),J i,J cl,J fw,J (.int (A+kw)),J (.int M),ht,hv,it,lb,no,pl] a)→
  ei (λh k m d=>bN ab j o9 (av ab j o9 h) h k m d) (λh k m d=>aw ab j yR h k m d) (kw+1) [J MX,J lst,J H2,J l,J s,J (.int bl),J (.int q),J (.int bd),J i,J cl,J fw,J (.int A),J (.int g),ht,hv,it,lb,no,pl] n ML a:=by
 intro kw;induction kw with
 |zero=>
  intro A g f o;refine hu ?_;have:=o g;rw [show A+((0:Nat):Int)=A by exact(ay 316448)]at this;rcases wu (a:=g) (n:=q) p with⟨b,c⟩|⟨b,u,c,r⟩
  ·by_cases e:bd>0
   ·rw [Qt e]at b;lk;exact this
   ·rw [Qs e]at b;lk;exact this
  ·exact nomatch f.symm.trans c
 |succ kw v=>
  intro A g f o;refine hu ?_;rcases wu (a:=g) (n:=q) p with⟨b,c⟩|⟨b,u,c,r⟩
  ·exact nomatch c.symm.trans f
  ·have t:ei (λh k m d=>bN ab j o9 (av ab j o9 h) h k m d) (λh k m d=>aw ab j yR h k m d) (kw+1) [J MX,J lst,J H2,J l,J s,J (.int bl),J (.int q),J (.int bd),J i,J cl,J fw,J (.int (A+1)),J (.int (g+bd)),ht,hv,it,lb,no,pl] n ML a:=by
    refine v (A+1) (g+bd) ‹(aE 11171548491316247892) c f r› λM=>?_;have:=o M;rwa [show A+((kw+1:Nat):Int)=A+1+(kw:Int) by exact(aC 361809318944)]at this
   by_cases e:bd>0
   ·rw [Qt e]at b;lk;refine oL rfl ?_;lk;refine ly (oL rfl ?_);lk;refine ly (kC (ja ?_));exact t
   ·rw [Qs e]at b;lk;refine oL rfl ?_;lk;refine ly (oL rfl ?_);lk;refine ly (kC (ja ?_));exact t
end
abbrev yT:List N:=[.iff (.cmp (.v 14) [.Eq] [.tup [.k (.str (Y "exit")),.v 3]]) [.ret (J (.tup [.k (.str (Y "on"))]))] [],.iff (.cmp (.v 14) [.NotIn] [.lst [.tup [.k (.str (Y "on"))],.tup [.k (.str (Y "cycle")),.v 3]]]) [.ret (J (.v 14))] [],.iff (.cmp (.v 9) [.IsNot] [.k .none]) [.expr (.call (.k (.NS (.ref 813))) [.v 9,.v 1])] [],.aug (.item (.v 1) (.v 4)) .add (.v 7)]
abbrev gm:List N:=[.ret (J (.tup [.k (.str (Y "on"))]))]
def hz(D a:Int)(b:aJ):aJ:=by cases b with
 |exit=>exact if D=a then .on else .exit
 |on=>exact .on
 |N0=>exact .N0
 |fin=>exact .fin
 |fault=>exact .fault
section
variable{Ny:Nat}{u:an→aJ×an}{G e r:Int}{s:Nat}{H2:V}{NB:List V}{H:Qo}
abbrev m0(a b c:V)(d:List V)(e:Qo)(f:Int)(g:Nat)(h i j:Int)(k:Option a3)(l:Int)(m n o:Option V):aq:=[J a,J (.ref e),J b,J (.int f),J (.int g),J (.int h),J (.int i),J (.int j),J (.lst d),J (jU k),J c,J (.int l),m,n,o,U,U,U,U]
def pc(f g:Nat)(c:an→aJ×an)(D e h i j:Int)(k:Nat)(l:Option a3)(m n o:V)(q:List V)(b:Qo)(r:Int):Prop:=∀{a:I}{p:an}{h1:Nat}{v12 v13 v14:Option V}{L:bF}{ML:bt},a b=J (.list (bS p))→bs h1 p→4≤h1→h1+8*g<1000000000→
 (∀d,eb b a d→d b=J (.list (bS (c p).2))→bs (h1+8*g) (c p).2→aw ab (af f) yT (m0 m n o q b e k h i j l r v12 v13 (J (.tup (aA D e (c p).1)))) L ML d)→aw ab (af f) o8 (m0 m n o q b e k h i j l r v12 v13 v14) L ML a
theorem I9(O:pc (T+2) Ny u D G e r bd s ca MX H2 Ng NB H No)(ad:jH ca)(P:s<6)(ae: -2≤bd∧bd≤3):∀(y:List V) (h1:Nat) (p:an) (a:I) (m bl M:Option V),a H=some (.list (bS p))→bs h1 p→4≤h1→h1+8*(y.length*(Ny+1))<1000000000→
  (∀d,eb H a d→d H=some (.list (bS (ew u ca s bd y.length p).2))→bs (h1+8*(y.length*(Ny+1))) (ew u ca s bd y.length p).2→b (fr D G (hz D G (ew u ca s bd y.length p).1)) d)→
  c0 ab (af (T+2)) (.name 13) (λcl fw ht d=>aw ab (af (T+2)) o8 cl fw ht d) y (m0 MX H2 Ng NB H G s e r bd ca No m bl M) (e5 ab (af (T+2)) gm (λa1 Z g=>b (fC a1) g) (λZ g=>f g)) (λZ g=>f g) a:=by
 intro y;induction y with
 |nil=>
  intro h1 p a m bl M C E F x h;refine gA (eC ?_);lk;exact h a o6 C (cj E ‹(ak 89358721)›)
 |cons t y R=>
  intro h1 p a m bl M C E F x h;have l:(t::y).length*(Ny+1)=y.length*(Ny+1)+(Ny+1):=R0 _ _;rw [l]at x h;refine iu (O (v13:=some t) (v14:=M) (v12:=m) C E F ‹(aE 4064458278648075596614559794176324) x l› ?_);intro i A n o;have S:ew u ca s bd (t::y).length p=match u p with
   |(.on,c)=>ew u ca s bd y.length (d4 s bd (f1 ca c))
   |(.N0,c)=>ew u ca s bd y.length (d4 s bd (f1 ca c))
   |ag=>ag:=rfl
  rw [S]at h;have K:∀c,(u p).2=c→(∀d,eb H a d→d H=some (.list (bS (ew u ca s bd y.length (d4 s bd (f1 ca c))).2))→bs (h1+8*(y.length*(Ny+1)+(Ny+1))) (ew u ca s bd y.length (d4 s bd (f1 ca c))).2→b (fr D G (hz D G (ew u ca s bd y.length (d4 s bd (f1 ca c))).1)) d)→∀q,lN q=Qp→pa q (decide (D=G))=Qq→aw ab (af (T+2)) yT (m0 MX H2 Ng NB H G s e r bd ca No m (some t) (some (.tup (aA D G q)))) (kG ab (af (T+2)) (.name 13) o8 y (e5 ab (af (T+2)) gm (λa1 Z g=>b (fC a1) g) (λZ g=>f g)) (λZ g=>f g)) (λZ g=>f g) i:=by
   intro c ah h q ai v;rw [ah]at n o;lk;refine mY (kN _ _ _) rfl (yS _ _ _ _) (Q (v ..) ?_);lk;refine cJ ?_;lk;refine cK (by show(2:Nat)≤1000000;exact(aH 1216933)) (mM (pb _ _ _) (Q (ai ..) ?_));lk;have W:∀(j:an) (w:I),eb H i w→w H=some (.list (bS j))→f1 ca c=j→bs (h1+8*Ny+4) j→aw ab (af (T+2)) [.aug (.item (.v 1) (.v 4)) .add (.v 7)] (m0 MX H2 Ng NB H G s e r bd ca No m (some t) (some (.tup (aA D G q)))) (kG ab (af (T+2)) (.name 13) o8 y (e5 ab (af (T+2)) gm (λa1 Z g=>b (fC a1) g) (λZ g=>f g)) (λZ g=>f g)) (λZ g=>f g) w:=by
    intro j w L B aj z;refine Ho ?_;lk;refine(sI H (bS j) s (.int (j.getD s 0)) rfl B rfl (lJ z P) ?_);lk;refine ly (ip B (o7 z P _) (kC (e8 ?_)));have al:bs (h1+8*Ny+4+4) (d4 s bd j):=rj z ae;refine R (h1+8*Ny+4+4) (d4 s bd j) _ m (some t) _ bJ al ‹(ak 10120340342383173709500) F› ‹(aE 1117214303151229755915232479834555926589186372) x l› λd am X Y=>?_;rw [←aj]at X Y⊢;exact h d (lI (lI A L) (lI o5 am)) X (cj Y ‹(au 26305165692784806660812174041)›)
   clear O R S h;clear h;induction ca using Qm with
   |none=>
    unfold jU;lk;exact W c i o6 n rfl (cj o ‹(ak 17263296697939993)›)
   |some N=>
    have ao:iI (jT N)=some Qq:=I2 N;unfold jU;lk;refine ye ao ?_;lk;exact se n o ‹(aE 4064458278648075596614559794176324) x l› ad λw L B z=>dg (W (N.run c) w L B rfl z)
  cases aa:u p with
  |mk q c=>
   rw [aa]at n o h K;clear aa;induction q using aJ.casesOn with
   |on=>exact K c rfl h .on rfl rfl
   |N0=>exact K c rfl h .N0 rfl rfl
   |exit=>
    have k:b (fr D G (hz D G .exit)) i:=h i A n (cj o ‹(aE 14830877555791530776437332) l›);lk;refine mY (kN _ _ _) rfl (yS _ _ _ _) ?_;by_cases v:D=G
    ·refine Q (show pa .exit (decide (D=G))=Qp from QD v) ?_;rw [show hz D G .exit=.on from Qt v]at k;lk;refine jQ (iq ?_);exact k
    ·refine Q (show pa .exit (decide (D=G))=Qq from Qx v) ?_;rw [show hz D G .exit=.exit from Qs v]at k;lk;refine cJ ?_;lk;refine cK (by show(2:Nat)≤1000000;exact(aH 1216933)) (mM (pb _ _ _) (Q (show lN .exit=Qq from rfl) ?_));lk;refine jQ (iq ?_);exact k
   |fin=>
    have k:b (fr D G (hz D G .fin)) i:=h i A n (cj o ‹(aE 14830877555791530776437332) l›);lk;refine cJ ?_;lk;refine cK (by show(2:Nat)≤1000000;exact(aH 1216933)) (mM (pb _ _ _) (Q (show lN .fin=Qq from rfl) ?_));lk;refine jQ (iq ?_);exact k
   |fault=>
    have k:b (fr D G (hz D G .fault)) i:=h i A n (cj o ‹(aE 14830877555791530776437332) l›);lk;refine cJ ?_;lk;refine cK (by show(2:Nat)≤1000000;exact(aH 1216933)) (mM (pb _ _ _) (Q (show lN .fault=Qq from rfl) ?_));lk;refine jQ (iq ?_);exact k
end
section
variable{Ny:Nat}{u:an→aJ×an}{G e r:Int}{s:Nat}{NB:List V}{H:Qo}
abbrev fa(a:Int)(b:Nat)(c d e:Int)(f:List V)(g:Option a3)(h:V):V:=.tup [.str (Y "do"),.int a,.int b,.int c,.int d,.int e,.lst f,jU g,h]
theorem sg(o:∀No,pc (T+2) Ny u D G e r bd s ca (fa G s e r bd NB ca Ng) (.str (Y "do")) Ng NB H No)(q:jH ca)(i:gV s e r bd)(j:a H=J (.list (bS p)))(g:bs h1 p)(k:4≤h1)(t:h1+8*(bD e r bd*(Ny+1))<1000000000)
  (c:∀d,eb H a d→d H=J (.list (bS (ex u ca s e r bd p).2))→bs (h1+8*(bD e r bd*(Ny+1))) (ex u ca s e r bd p).2→b (fr D G (hz D G (ex u ca s e r bd p).1)) d):
  af (T+3) (.NS (.ref 827)) [fa G s e r bd NB ca Ng,.ref H] b f a:=by
 refine aZ (i:=[J (fa G s e r bd NB ca Ng),J (.ref H),U,U,U,U,U,U,U,U,U,U,U,U,U,U,U,U,U]) Gw rfl rfl ?_;delta xM;have l:=kz i;refine fO i λm v w C E x y=>?_;unfold ex at c;lk;refine⟨_,rfl,?_⟩;by_cases h:bd=0
 ·rw [Qt h]at c;lk;exact c a o6 j (cj g ‹(ak 89358721)›)
 ·rw [Qs h]at c;lk;refine lh ⟨bD e r bd+1,?_⟩;refine I8 h (bD e r bd) 0 e rfl λF=>eC ?_;lk;refine ip j (o7 g m _) (fH (kp ?_));lk;refine(aU (b9 (0+(bD e r bd:Int))) (by show(if _ then _ else _)=_;rw [Qt ⟨by exact(aN 856316222220) l,by unfold a4;exact(aN 2952036076002060) l⟩]) ?_);have n:(b9 (0+(bD e r bd:Int))).length=bD e r bd:=by
   rw [show 0+(bD e r bd:Int)=(bD e r bd:Int) by exact(aN 5527712),sd];simp [eT]
  refine I9 (o (0+(bD e r bd:Int))) q m ⟨x,y⟩ (b9 (0+(bD e r bd:Int))) h1 (p.set s e) _ _ _ _ bJ (mG g (Qu _) ‹(bx 1327991418354671107846388847533378470621768440) v k w (cI _)›) k (by rw [n];exact t) ?_;rw [n];intro d z A B;exact c d (lI o5 z) A B
theorem Ja:(mZ x=Qp∧x=.on)∨mZ x=Qq:=by induction x using aJ.casesOn with
 |on=>exact .inl ⟨rfl,rfl⟩
 |_=>exact .inr rfl
theorem nt(b:e9 cn)(c:cD M cp cn)(d:cT l cn)(f:l+5≤T):pc T (bn cn) (λNc=>bv cn Nc) D G e r bd s ca MX H2 .none (a8 D G cn) H No:=by
 intro t g u v w x y z h i j k m;lk;refine b.go h i j k c d f λn o p q=>?_;have:=m n o p q;rw [lL];lk;refine mY (kN _ _ _) rfl (sf _ _ _) ?_;rcases Ja (x:=(bv cn g).1)with⟨a,-⟩|a
 ·rw [a];refine gz rfl (x8 (mK (df rfl (kB (f8 (Hu (dK rfl (dK rfl (dg ?_)))))))));exact this
 ·rw [a];refine dK rfl (dK rfl (dg ?_));exact this
theorem Jb{a c:Int}(d:x≠.N0)(b:x=.exit→e=a):aA e r x=aA a c x:=by
 induction x using aJ.casesOn<;>simp [aA]at d b⊢
 rw [b]
theorem Jc(a:D≠G):hz D G x=x:=by induction x using aJ.casesOn with
 |exit=>exact Qs a
 |_=>rfl
theorem pI{c:an→aJ×an}(v:e9 cn)(m:cD Qq cp cn)(w:cT l cn)(x:l+5≤T)(y:iI Ng=J Qq)(z:G≠MS)(A:∀Nc,(c Nc).1≠.N0)
  (B:∀{a:I}{p:an}{h1:Nat}{b:aD}{f:aV},a H=J (.list (bS p))→bs h1 p→4≤h1→h1+8*q<1000000000→(∀d,eb H a d→d H=J (.list (bS (c p).2))→bs (h1+8*q) (c p).2→b (fr G MS (hz G MS (c p).1)) d)→af T (.NS (.ref 827)) [Ng,.ref H] b f a):
  pc T (bn cn+q) (λNc=>h6 (bv cn Nc) c) G G e r bd s ca MX H2 Ng (a8 G G cn) H No:=by
 intro a p h1 O P Q R S C D n o g;have j:=i4 cn cp p m;lk;refine v.go C D n ‹(au 1682341874879552788341060) o› m w x λt k h i=>?_;rw [lL];lk;refine mY (kN _ _ _) rfl (sf _ _ _) ?_;generalize u:bv cn p=E;induction E using RG with
 |mk F Nc=>
  dsimp only at g;rw [u]at j h i g;clear u;induction F using aJ.casesOn with
  |on=>
   refine gz rfl (x8 (mK (df rfl (kB (f8 (ye y (gz rfl (Hk (gz rfl (oK ?_))))))))));lk;refine B h i ‹(ak 13492717274541756) n› ‹(au 441021961654332002517624791364) o› λK L M N=>?_;rw [Jc z,lL,Jb (a:=G) (c:=G) (A Nc) (λV=>rfl)];exact dg (g K (lI k L) M (cj N ‹(au 1605873316820518404505)›))
  |exit=>exact(j.1 rfl).elim
  |N0=>exact(j.2 rfl).elim
  |fin=>
   refine dK rfl (dK rfl (dg ?_));exact g t k h (cj i ‹(au 6125920550467609)›)
  |fault=>
   refine dK rfl (dK rfl (dg ?_));exact g t k h (cj i ‹(au 6125920550467609)›)
end
def kO(D E:Int)(a:aJ):l5:=if mZ a then .NX else .N9 (fr D E a)
abbrev ec(a b:V)(c:Qo)(M5 MQ c2 hh rt MV:Option V):aq:=[J a,J (.ref c),J b,M5,MQ,c2,hh,rt,MV,U,U,U,U,U,U]
structure ga(v:c7):Prop where
 go:∀{T l h1:Nat}{ho:Bool}{cp D E:Int}{a:I}{H:Addr}{p:an}{L:bF}{ML:bt}{M9:V}{M5 MQ c2 hh rt MV:Option V},a H=some (.list (bS p))→bs h1 p→4≤h1→h1+8*d6 v<1000000000→fl ho cp v→f7 l v→l+4≤T→
 (∀d M5 MQ c2 hh rt MV,eb H a d→d H=some (.list (bS (eL v p).2))→bs (h1+8*d6 v) (eL v p).2→L (kO D E (eL v p).1) (ec M9 (ea D E v) H M5 MQ c2 hh rt MV) d)→
 aw ab (af T) gD (ec M9 (ea D E v) H M5 MQ c2 hh rt MV) L ML a
abbrev sh:List N:=[.iff (.cmp (.v 4) [.NotEq] [.tup [.k (.str (Y "on"))]]) [.ret (J (.v 4))] []]
theorem kP{c:bF}{d:Qo}(b:c (kO D E x) (ec M9 MX d M5 (J (fr D E x)) c2 hh rt MV) a):aw ab j sh (ec M9 MX d M5 (J (fr D E x)) c2 hh rt MV) c ML a:=by
 rw [lL]at b⊢;lk;refine I6 (kN _ _ _) rfl (sf _ _ _) ?_;unfold kO at b;rw [lL]at b;generalize e:mZ x=f;induction f using Qz with
 |true=>
  rw [e,Qt rfl]at b;lk;exact b
 |false=>
  rw [e,Qs (by simp)]at b;lk;exact b
noncomputable def kQ(a:c7→Prop):aP→Prop
 |.nil=>True
 |.cons v A=>a v∧kQ a A
theorem yU{n:Qo}(z:l+4≤T):∀(r:aP),kQ ga r→∀(h1:Nat) (a:I) (p:an) (M M5 MQ c2 hh rt MV:Option V),a n=J (.list (bS p))→bs h1 p→4≤h1→h1+8*bn r<1000000000→cD ho cp r→cT l r→
  (∀d,eb n a d→d n=J (.list (bS (bv r p).2))→bs (h1+8*bn r) (bv r p).2→b (fr D E (bv r p).1) d)→
  c0 ab (af T) (.name 2) (λbl cl fw d=>aw ab (af T) gD bl cl fw d) (a8 D E r) [J M9,J (.ref n),M,M5,MQ,c2,hh,rt,MV,U,U,U,U,U,U] (e5 ab (af T) gm (λa1 Z k=>b (fC a1) k) (λZ k=>f k)) (λZ k=>f k) a
 |.nil,s,h1,a,p,M,M5,MQ,c2,hh,rt,MV,t,u,v,o,w,x,c=>by
  refine gA (eC ?_);lk;exact c a o6 t (cj u ‹(ak 89358721)›)
 |.cons e g,s,h1,a,p,M,M5,MQ,c2,hh,rt,MV,t,u,v,o,w,x,c=>by
  have q:bn (.cons e g)=d6 e+bn g:=rfl;rw [q]at o c;have B:bv (.cons e g) p=h6 (eL e p) (λy=>bv g y):=rfl;rw [B]at c;show c0 _ _ _ _ (ea D E e::a8 D E g) _ _ _ _;refine iu (s.1.go (T:=T) (l:=l) (ho:=ho) (cp:=cp) (M5:=M5) (MQ:=MQ) (c2:=c2) (hh:=hh) (rt:=rt) (MV:=MV) t u v ‹(aE 15876569824215576560376010481988) o q› w.1 x.1 z ?_);intro j N O P Q R S m h i;generalize A:eL e p=C;induction C using RG with
  |mk F y=>
   rw [A]at h i c;clear A;induction F using aJ.casesOn with
   |on=>
    exact e8 (yU z g s.2 (h1+8*d6 e) j y _ _ _ _ _ _ _ h i ‹(aE 130695174698641583517372) v q› ‹(aE 4162005400172875577106347487436185924) o q› w.2 x.2 λG H K L=>c G (lI m H) K (cj L ‹(au 1605873316820518404505)›))
   |exit=>exact jQ (iq (c j m h (cj i ‹(au 6125920550467609)›)))
   |N0=>exact jQ (iq (c j m h (cj i ‹(au 6125920550467609)›)))
   |fin=>exact jQ (iq (c j m h (cj i ‹(au 6125920550467609)›)))
   |fault=>exact jQ (iq (c j m h (cj i ‹(au 6125920550467609)›)))
theorem ix(a:aP)(d:kQ ga a):e9 a:=by
 constructor;intro T q e r s f g h H i t u j k l m n o b p;obtain⟨c,rfl⟩:∃c,T=c+1:=⟨T-1,by exact(au 295406638752929052) b (az _ _)⟩;refine aZ (i:=[J (.lst (a8 f g a)),J (.ref H),U,U,U,U,U,U,U,U,U,U,U,U,U]) Gv rfl rfl ?_;delta xL;refine fH (h4 ?_);lk;refine(aU _ rfl ?_);exact yU ‹(ak 128090268833052) b› a d e h i _ _ _ _ _ _ _ j k l m n o p
theorem yV:∀(A:cr) (p:an) (r:aP),g0 A p=J r→ia ho cp A→kA l A→bn r≤gt A∧cD ho cp r∧cT l r
 |.nil,p,r,h,a,b=>ag h
 |.cons e c A,p,r,h,a,b=>by
  have d:gt (.cons e c A)=bn c+gt A+1:=rfl;rcases wx h with f|h
  ·rw [←f];exact⟨by exact(au 2001358164) d,a.2.1,b.1⟩
  ·have:=yV A p r h a.2.2 b.2;exact⟨by exact(aE 4280992491849996) this.1 d,this.2⟩
theorem pd:∀(v2:bu) (z:Nat),gW ho cp v2→il l v2→bn (e3 v2 z)≤dI v2∧cD ho cp (e3 v2 z)∧cT l (e3 v2 z)
 |.nil,z,c,d=>(bw (RO _) trivial trivial)
 |.cons b a,0,c,d=>by
  have e:dI (.cons b a)=bn b+dI a+2:=rfl;have f:e3 (.cons b a) 0=b:=rfl;rw [f];exact⟨by exact(au 125968216404) e,c.1,d.1⟩
 |.cons b a,z+1,c,d=>by
  have e:dI (.cons b a)=bn b+dI a+2:=rfl;have:=pd a z c.2 d.2;have f:e3 (.cons b a) (z+1)=e3 a z:=rfl;rw [f];exact⟨by exact(aE 273961577030568204) this.1 e,this.2⟩
theorem gb:∀v2:bu,(cU D E v2).length=aQ v2
 |.nil=>rfl
 |.cons b a=>by
  show(cU D E a).length+1=aQ a+1;rw [gb a]
theorem yW:∀(v2:bu) (z:Nat),z<aQ v2→(cU D E v2)[z]? =J (.lst (a8 D E (e3 v2 z)))
 |.nil,z,a=>(Ss z a).elim
 |.cons c b,0,a=>rfl
 |.cons c b,z+1,a=>by
  show(cU D E b)[z]? =_;exact yW b z (S2 a)
theorem pe{a:bu}(b:z<aQ a):bW (cU D E a) (z:Int)=J (.lst (a8 D E (e3 a z))):=by
 unfold bW;rw [Qt ‹(aN 1418)›,RE];exact yW a z b
abbrev yX:List N:=[.iff (.call (.k (.NS (.ref 806))) [.v 6,.v 1]) [.asg (.name 5) (.v 7)] []]
theorem yY{b:Qo}{j l:V}{n:bF}(o:bs h1 p):∀(A:cr),ia ho cp A→∀(g:List V) (h:V) (a:I) (hh rt:Option V),a b=some (.list (bS p))→
  (∀d hh rt,kL a d→c0 ab (af (T+1)) (.tup [6,7]) (λk m q d=>aw ab (af (T+1)) yX k m q d) g (ec M9 MX b (some j) (some l) (some (match g0 A p with|some r=>.lst (a8 D E r)|none=>h)) hh rt MV) n ML d)→
  c0 ab (af (T+1)) (.tup [6,7]) (λk m q d=>aw ab (af (T+1)) yX k m q d) ((hy D E A).reverse++g) (ec M9 MX b (some j) (some l) (some h) hh rt MV) n ML a
 |.nil,f,g,h,a,hh,rt,c,i=>i a hh rt (λw w=>rfl)
 |.cons e r A,f,g,h,a,hh,rt,c,i=>by
  show c0 _ _ _ _ ((V.tup [cW e,.lst (a8 D E r)]::hy D E A).reverse++g) _ _ _ _;rw [Sv,QW];refine yY o A f.2.2 _ h a hh rt c λC F G s=>?_;have x:=(s b (by rw [c];simp)).trans c;show c0 _ _ _ _ (V.tup [cW e,.lst (a8 D E r)]::g) _ _ _ _;refine oT rfl ?_;lk;refine lK x o f.1 λt y=>?_;have z:kL a t:=λu ho=>by have:=s u ho;rw [y u (by rw [this];exact ho)];exact this
  have:=i t (some (cW e)) (some (.lst (a8 D E r))) z;rw [ww]at this;generalize v:e.ev p=B;induction B using Qz with
  |true=>
   rw [v,Qt rfl]at this;lk;exact e8 this
  |false=>
   rw [v,Qs (by simp)]at this;lk;exact e8 this
theorem si{b c d e:Int}(a:em x):fr b c x=fr d e x:=by
 induction x using aJ.casesOn<;>first|rfl|exact(a.1 rfl).elim|exact(a.2 rfl).elim
theorem yZ{b:Int}{a:aJ×an}:hz b b a.1=(h7 a).1:=by
 obtain⟨c,d⟩:=a;induction c using aJ.casesOn with
 |exit=>exact Qt rfl
 |_=>rfl
theorem pf{a:aJ×an}:(h7 a).2=a.2:=by
 obtain⟨b,c⟩:=a;induction b using aJ.casesOn<;>rfl
theorem ME{a b c d:Int}(e:em x):kO a b x=kO c d x:=by
 unfold kO;rw [si (b:=a) (c:=b) (d:=c) (e:=d) e]
theorem jV{b:Qo}{f:bF}{c:aP}{e:aJ×an}(k:e9 c)(m:a b=J (.list (bS p)))(n:bs h1 p)(o:4≤h1)(q:h1+8*cost<1000000000)(h:bn c≤cost)(r:cD ho cp c)(t:cT l c)(u:l+5≤T)(v:bv c p=e)
  (w:∀d M5 MQ c2 hh rt MV,eb b a d→d b=J (.list (bS e.2))→bs (h1+8*cost) e.2→f (kO D E e.1) (ec M9 MX b M5 MQ c2 hh rt MV) d):
  af T (.NS (.ref 820)) [.lst (a8 D E c),.ref b] (λs g=>aw ab (af T) ([]++sh) ((ec M9 MX b M5 MQ c2 hh rt MV).set 4 (J s)) f ML g) (λg=>ML (ec M9 MX b M5 MQ c2 hh rt MV) g) a:=by
 refine k.go m n o ‹(au 242260591898851331025051972) q h› r t u λx y i j=>?_;rw [v]at i j⊢;exact dg (kP (w x _ _ _ _ _ _ y i (cj j ‹(au 863652706382649612) h›)))
theorem MF{a:aP}:(a8 D E a).isEmpty=Qp→a8 D E a=[]:=λb=>by simpa using b
theorem Jd(b:a3):ga (.plain b):=by
 constructor;intro T K h L M E F i H r j k l s t m n o p u v w x y G I z;have A:h+8*1<1000000000:=x;obtain⟨c,rfl⟩:∃c,T=c+2:=⟨T-2,by exact(au 160079424447448536348) I (az _ _)⟩;have B:∀C,∀d,eb H i d→d H=J (.list (bS (b.run r)))→bs (h+4) (b.run r)→aw ab (af (c+2)) sh (ec l (jT b) H C (J (fr E F .on)) m n o p) j k d:=λC d e f g=>
  kP (z d _ _ _ _ _ _ e f (cj g (by show h+4≤h+8*1;exact(aN 99556408429))))
 clear x G z;induction b using a3.casesOn with
 |set a=>
  show aw ab (af (c+2)) gD (ec l (.tup [.str (Y "set"),.int a.t,.int (if a.OO then 1 else 0),.int a.s,.int a.n]) H s t m n o p) j k i;lk;exact se (g:=.set a) u v ‹(aN 59118422644629886217916) w A› y λq e f g=>dg (B _ q e f g)
 |OC D a=>
  show aw ab (af (c+2)) gD (ec l (.tup [.str (Y "lif"),cW D,iw a]) H s t m n o p) j k i;lk;exact se (g:=.OC D a) u v ‹(aN 59118422644629886217916) w A› y λq e f g=>dg (B _ q e f g)
theorem Je(a:cf):ga (.exit a):=by
 constructor;intro T A B C D h l m H b n o p q r s t u v d e E F w G x c;obtain⟨f,rfl⟩:∃f,T=f+2:=⟨T-2,by exact(au 160079424447448536348) x (az _ _)⟩;show aw ab (af (f+2)) gD (ec p (.tup [.str (Y "exit"),.int h,cW a]) H q r s t u v) n o m;lk;refine lK d e w.2 λi g=>?_;have j:=(g H (by rw [d];simp)).trans d;have y:eL (.exit a) b=if a.ev b=true then(.exit,b)else(.on,b):=rfl
 rw [y]at c;generalize k:a.ev b=z;induction z using Qz with
 |true=>
  simp only [k,if_true]at c;lk;exact c i _ _ _ _ _ _ (kM g) j (cj e ‹(ak 89358721)›)
 |false=>
  simp only [k,Rd,Sx]at c;refine d9 rfl (dK rfl ?_);exact kP (D:=h) (E:=l) (x:=.on) (c i _ _ _ _ _ _ (kM g) j (cj e ‹(ak 89358721)›))
theorem Jf(a:cf):ga (.N0 a):=by
 constructor;intro T A B C D l h m H b n o p q r s t u v d e E F w G x c;obtain⟨f,rfl⟩:∃f,T=f+2:=⟨T-2,by exact(au 160079424447448536348) x (az _ _)⟩;show aw ab (af (f+2)) gD (ec p (.tup [.str (Y "cycle"),.int h,cW a]) H q r s t u v) n o m;lk;refine lK d e w.2 λi g=>?_;have j:=(g H (by rw [d];simp)).trans d;have y:eL (.N0 a) b=if a.ev b=true then(.N0,b)else(.on,b):=rfl
 rw [y]at c;generalize k:a.ev b=z;induction z using Qz with
 |true=>
  simp only [k,if_true]at c;lk;exact c i _ _ _ _ _ _ (kM g) j (cj e ‹(ak 89358721)›)
 |false=>
  simp only [k,Rd,Sx]at c;refine d9 rfl (dK rfl ?_);exact kP (D:=l) (E:=h) (x:=.on) (c i _ _ _ _ _ _ (kM g) j (cj e ‹(ak 89358721)›))
theorem Jg(a:cf):ga (.fin a):=by
 constructor;intro T A B C D k l m H b n o p q r s t u v d e E F w G x c;obtain⟨f,rfl⟩:∃f,T=f+2:=⟨T-2,by exact(au 160079424447448536348) x (az _ _)⟩;show aw ab (af (f+2)) gD (ec p (.tup [.str (Y "end"),cW a]) H q r s t u v) n o m;lk;refine lK d e w λh g=>?_;have i:=(g H (by rw [d];simp)).trans d;have y:eL (.fin a) b=if a.ev b=true then(.fin,b)else(.on,b):=rfl
 rw [y]at c;generalize j:a.ev b=z;induction z using Qz with
 |true=>
  simp only [j,if_true]at c;lk;exact c h _ _ _ _ _ _ (kM g) i (cj e ‹(ak 89358721)›)
 |false=>
  simp only [j,Rd,Sx]at c;refine d9 rfl (dK rfl ?_);exact kP (D:=k) (E:=l) (x:=.on) (c h _ _ _ _ _ _ (kM g) i (cj e ‹(ak 89358721)›))
theorem Jh{b:Bool}{a:bu}(e:∀z,e9 (e3 a z)):ga (.way z b a):=by
 constructor;intro T D E F G f g h H I i j k l m n o p q r s t u c d v w;refine bf (pd a z c.2 d.2) λx y A=>?_;have B:d6 (.way z b a)=dI a+5:=rfl;have C:=d.1;show aw ab (af T) gD (ec k (.tup [.str (Y "way"),.int z,.int (if b then 1 else 0),.lst (cU f g a)]) H l m n o p q) i j h;lk;refine cc (pe c.1) ?_;lk;refine jV (e z) r s t u ‹(au 68296075501908) B x› y A ‹(au 756879049379833902806340540) C v (az _ _)› ?_ w;exact(oz _ _ _).symm
theorem Ji{a:Nat}{c:bu}{g:aP}(u:∀z,e9 (e3 c z)):ga (.sign a c g):=by
 constructor;intro T M N O P d e v H b k l m w x n o p y q r A B i s C D;have E:fI (b.getD a 0)<aQ c:=by rw [i.2.1];exact(wg (a:=0)).1
 refine bf (pd c (fI (b.getD a 0)) i.2.2.1 s.2.1) λF G I=>?_;have K:d6 (.sign a c g)=dI c+5:=rfl;have L:=s.1;have Q:=i.1;show aw ab (af T) gD (ec m (.tup [.str (Y "sign"),.int a,.lst (cU d e c),.lst (a8 d e g)]) H w x n o p y) k l v;lk;refine c6 q (lJ r i.1) ?_;have ask:=jV (T:=T) (f:=k) (ML:=l) (D:=d) (E:=e) (M9:=m) (MX:=.tup [.str (Y "sign"),.int a,.lst (cU d e c),.lst (a8 d e g)]) (M5:=J (.str (Y "sign"))) (MQ:=J (.tup [.str (Y "on")])) (c2:=n) (hh:=o) (rt:=p) (MV:=J (.int (b.getD a 0))) (e:=eL (.sign a c g) b) (u (fI (b.getD a 0))) q r A B ‹(au 68296075501908) K F› G I ‹(au 756879049379833902806340540) L C (az _ _)› (by show _=iY _ _ _;rw [oz]) D;have f:=pe (D:=d) (E:=e) E;by_cases j:b.getD a 0<0
 ·have h:fI (b.getD a 0)=0:=by unfold fI;rw [Qt j]
  rw [h]at ask f;lk;refine cc f ?_;lk;exact ask
 ·by_cases t:b.getD a 0=0
  ·have h:fI (b.getD a 0)=1:=by unfold fI;rw [Qs j,Qt t]
   rw [h]at ask f;lk;refine cc f ?_;lk;exact ask
  ·have h:fI (b.getD a 0)=2:=by unfold fI;rw [Qs j,Qs t]
   rw [h]at ask f;lk;refine cc f ?_;lk;exact ask
theorem Jj{a:Nat}{c:bu}{d:aP}(w:∀z,e9 (e3 c z))(t:e9 d):ga (.sw a c d):=by
 constructor;intro T P Q R S u v x H b y A B C D E F G I l e f g h m n q;obtain⟨r,rfl⟩:∃r,T=r+1:=⟨T-1,by exact(au 295406638752781596) n (az _ _)⟩;have o:d6 (.sw a c d)=dI c+bn d+5:=rfl;have s:=m.1;have V:=h.1;have K:=jL e a;have W:cA (b.getD a 0):=by unfold cA;exact(lY 41441643202329214619312146141869212664343556528881213460410890502287036) f K g o (cI _)
 show aw ab (af (r+1)) gD (ec B (.tup [.str (Y "switch"),.int a,.lst (cU u v c),.lst (a8 u v d)]) H C D E F G I) y A x;lk;refine c6 l (lJ e h.1) ?_;by_cases p:0<b.getD a 0
 ·by_cases i:b.getD a 0≤(aQ c:Int)
  ·have L:(b.getD a 0-1).toNat<aQ c:=by exact(bx 165793783412752035593269890691398206352) p i (cz _)
   refine bf (pd c (b.getD a 0-1).toNat h.2.1 m.2.1) λM N O=>?_;have j:eL (.sw a c d) b=bv (e3 c (b.getD a 0-1).toNat) b:=by show(if _ then _ else _)=_;rw [Qt ⟨p,i⟩,oz]
   lk;refine yc (by rw [gb];exact i) ?_;lk;have k:b.getD a 0-1=((b.getD a 0-1).toNat:Int):=by exact(aC 6908677957894910008360143287576789904) p (cz _)
   rw [k];refine cc (pe L) ?_;lk;exact jV (w _) l e f g ‹(bU 175332474999272877302106658949836476) f g o M› N O ‹(au 223623726189852884113611035580) s n (az _ _)› j.symm q
  ·have j:eL (.sw a c d) b=bv d b:=by show(if _ then _ else _)=_;rw [Qs (λk=>i k.2)]
   lk;refine yd (by rw [gb];exact i) ?_;lk;exact jV t l e f g ‹(au 474917531988) o› h.2.2 m.2.2 ‹(au 223623726189852884113611035580) s n (az _ _)› j.symm q
 ·have j:eL (.sw a c d) b=bv d b:=by show(if _ then _ else _)=_;rw [Qs (λk=>p k.1)]
  lk;exact jV t l e f g ‹(au 474917531988) o› h.2.2 m.2.2 ‹(au 223623726189852884113611035580) s n (az _ _)› j.symm q
theorem Jk{a:Int}{d:Nat}{b c:Int}(l:e9 cn):ga (.loop a d b c bd cn ca):=by
 constructor;intro T Q R S V m n o H e p q r s t u v w x y z A B C D h i;refine cY C λW E F G=>ar D λj I=>?_;obtain⟨f,rfl⟩:∃f,T=f+3:=⟨T-3,by exact(au 542919846279728220978811836) j h (az _ _)⟩;have k:d6 (.loop a d b c bd cn ca)=bD b c bd*(bn cn+1)+5:=rfl;have K:eL (.loop a d b c bd cn ca) e=h7 (ex (λg=>bv cn g) ca d b c bd e):=rfl;have L:em (h7 (ex (λg=>bv cn g) ca d b c bd e)).1:=ok jJ;rw [K]at i;show aw ab (af (f+3)) gD (ec r (fa a d b c bd (a8 a a cn) ca .none) H s t u v w x) p q o;lk;refine sg (D:=a) (λX=>nt l F I ‹(au 363563276179459920784026825135036) j h (az _ _)›) G E y z A ‹(au 248074846105979362593589862724) B k› λM N O P=>?_;rw [yZ,si (d:=m) (e:=n) L];refine dg (kP (i M _ _ _ _ _ _ N (by rw [pf];exact O) (by rw [pf];exact cj P ‹(au 876598153035165851988) k›)))
theorem Jl{b:Int}{h:Nat}{c d:Int}{a:Int}(u:e9 cn)(v:e9 MM):ga (.pair b h c d bd cn MS g a MP MM ca):=by
 constructor;intro T ai aj r al w x y H l z A B C D E F G I m K n o L M p k;refine fO L λam N O P Q R S=>bf M λq V W=>?_;obtain⟨j,rfl⟩:∃j,T=j+4:=⟨T-4,by exact(au 873410047276849578913045692) q p (az _ _)⟩;have s:d6 (.pair b h c d bd cn MS g a MP MM ca)=bD c d bd*(bn cn+1+bD a MP 1*(bn MM+1)+1)+6:=rfl;have X:eL (.pair b h c d bd cn MS g a MP MM ca) l=h7 (ex (λi=>h6 (bv cn i) (λe=>ex (λf=>bv MM f) ca g a MP 1 e)) U h c d bd l):=rfl;have Y:em (h7 (ex (λi=>h6 (bv cn i) (λe=>ex (λf=>bv MM f) ca g a MP 1 e)) U h c d bd l)).1:=ok jJ;rw [X]at k;have Z:bn cn+bD a MP 1*(bn MM+1)+1≤bn cn+1+bD a MP 1*(bn MM+1)+1:=by exact(ak 52575388093)
 have t:=V3 (bD c d bd) Z;show aw ab (af (j+4)) gD (ec B (fa b h c d bd (a8 b b cn) U (fa MS g a MP 1 (a8 b MS MM) ca .none)) H C D E F G I) z A y;lk;refine sg (T:=j+1) (D:=b) (Ny:=bn cn+bD a MP 1*(bn MM+1)) (ca:=U) (u:=λi=>h6 (bv cn i) (λe=>ex (λf=>bv MM f) ca g a MP 1 e))
  (λaa=>pI (MS:=MS) (c:=λe=>ex (λf=>bv MM f) ca g a MP 1 e) u O V ‹(au 536835267651946735669978636229820) q p (az _ _)› rfl ‹(ck 88807728) P› (λi=>jJ) (λm r n o k=>sg (T:=j) (D:=b) (λaa=>nt v R W ‹(au 363563276233250629352898016844988) q p (az _ _)›) S Q m r n ‹(ak 6571647948748251636036) o› k)) trivial N m K n ‹(aE 9145200337897415421393749093032260) o s t› λad ae ag ah=>?_
 rw [yZ,si (d:=w) (e:=x) Y];refine dg (kP (k ad _ _ _ _ _ _ ae (by rw [pf];exact ag) (by rw [pf];exact cj ah ‹(aE 32319397078562160071205204) s t›)))
theorem Jm{b:List V}{d:aD}(e:d g a→P)(c:g=.lst b∨(g=.none∧b=[]))(h:d (.lst b) a):gM g (λr Z=>c5 r P (iK n j [.lst []] i d f a)) a:=by
 have k:b=[]→iK n j [.lst []] i d f a:=λl=>by
  clear c;subst l;exact Hh (cJ (cH (cK (by unfold a4;simp) h)))
 rcases c with c|⟨c,m⟩
 ·subst c;induction b using QH with
  |nil=>exact d9 rfl (dK rfl (k rfl))
  |cons o b=>exact d9 rfl (gz rfl (e h))
 ·clear e;subst c;exact d9 rfl (dK rfl (k m))
theorem Jn{e:cf}{a:aP}{b:cr}{c:aP}(Q:e9 a)(R:∀p a,g0 b p=some a→e9 a)(S:e9 c):ga (.cond e a b M4 c):=by
 constructor;intro T ax ay A aA g h B H p V W X Z aa ad F G ae i j u k I K v f;refine kU I λag ah L ai aj=>cY K λw ak al am=>?_;obtain⟨C,rfl⟩:∃C,T=C+1:=⟨T-1,by exact(au 696951701182882608321468) w v (az _ _)⟩;have x:d6 (.cond e a b M4 c)=bn a+gt b+bn c+3:=rfl;show aw ab (af (C+1)) gD (ec X (.tup [.str (Y "if"),.lst (.tup [cW e,.lst (a8 g h a)]::hy g h b),if M4 then .lst (a8 g h c)else .none]) H Z aa ad F G ae) V W B;lk;refine Jm (b:=a8 g h c) (λf=>f) ?_ ?_
 ·clear k I K f x;induction M4 using Qz with
  |true=>exact .inl rfl
  |false=>exact .inr ⟨rfl,by rw [aj rfl];rfl⟩
 refine oK (fH (qD ?_));lk;refine H3 ?_;rw [Sv];refine yY (j:=.str (Y "if")) (l:=.tup [.str (Y "on")]) j b L _ (.lst (a8 g h c)) B F G i λaB aC aD M=>?_;have an:=(M H (by rw [i];simp)).trans i;refine oT rfl ?_;lk;refine lK an j ag λao ap=>?_;have y:kL B ao:=λN A=>by have:=M N A;rw [ap N (by rw [this];exact A)];exact this
 have D:=(y H (by rw [i];simp)).trans i;have d:eL (.cond e a b M4 c) p=if e.ev p=true then bv a p else match gS b p with|some aq=>aq|none=>bv c p:=rfl
 generalize O:e.ev p=E;induction E using Qz with
 |true=>
  rw [O,Qt rfl]at d;lk;refine e8 (gA (eC ?_));lk;exact jV Q D j u k ‹(aE 32296621273428) x› ah ak ‹(au 223623726189852884113611035580) w v (az _ _)› d.symm λl m n o q r s t=>f l m n o q r s (o4 y t)
 |false=>
  rw [O,Qs (by simp),wy]at d;lk;refine e8 (gA (eC ?_));generalize z:g0 b p=E;induction E using Qm with
  |some P=>
   rw [z]at d;refine bf (yV b p P z L al) λar as av=>?_;lk;exact jV (R p P z) D j u k ‹(eH 8920190309318469609449924959020480736956) u k x ar› as av ‹(au 223623726189852884113611035580) w v (az _ _)› d.symm λl m n o q r s t=>f l m n o q r s (o4 y t)
  |none=>
   rw [z]at d;lk;exact jV S D j u k ‹(aE 240104318923092) x› ai am ‹(au 223623726189852884113611035580) w v (az _ _)› d.symm λl m n o q r s t=>f l m n o q r s (o4 y t)
mutual
theorem Jo:∀v:c7,ga v
 |.plain v=>Jd v
 |.exit a=>Je a
 |.N0 a=>Jf a
 |.fin a=>Jg a
 |.cond _ e f _ c=>Jn (ix _ (iy e)) (y0 f) (ix _ (iy c))
 |.way _ _ b=>Jh (pg b)
 |.sign _ b _=>Ji (pg b)
 |.sw _ b c=>Jj (pg b) (ix _ (iy c))
 |.loop _ _ _ _ _ d _=>Jk (ix _ (iy d))
 |.pair _ _ _ _ _ d _ _ _ _ g _=>Jl (ix _ (iy d)) (ix _ (iy g))
theorem iy:∀r:aP,kQ ga r
 |.nil=>trivial
 |.cons a b=>⟨Jo a,iy b⟩
theorem y0:∀(A:cr) (p:an) (r:aP),g0 A p=J r→e9 r
 |.nil,p,r=>λh=>ag h
 |.cons c a A,p,r=>λh=>by
  rcases wx h with b|h
  ·rw [←b];exact ix _ (iy a)
  ·exact y0 A p r h
theorem pg:∀(v2:bu) (z:Nat),e9 (e3 v2 z)
 |.nil,z=>ix .nil trivial
 |.cons a b,0=>ix _ (iy a)
 |.cons a b,z+1=>pg b z
end
theorem Jp(a:aP):e9 a:=ix a (iy a)
abbrev gE:List N:=[.asg (.name 5) (.sub (.v 4) (.k (.int 0))),.iff (.cmp (.v 5) [.Eq] [.k (.str (Y "if"))]) [.expr (.call (.k (.NS (.ref 787))) [.v 4,.v 1,.v 2,.v 3])] [.iff (.cmp (.v 5) [.Eq] [.k (.str (Y "do"))]) [.expr (.call (.k (.NS (.ref 794))) [.v 4,.v 1,.v 2,.v 3,.k (.int 0)])] [.iff (.cmp (.v 5) [.In] [.tup [.k (.str (Y "exit")),.k (.str (Y "cycle"))]]) [.asg (.name 6) (.sub (.sub (.v 2) (.sub (.v 4) (.k (.int 1)))) (.Oe (.cmp (.v 5) [.Eq] [.k (.str (Y "cycle"))]) (.k (.int 0)) (.k (.int 1)))),.expr (.NY (.v 1) (Y "append") [.tup [.k (.int 0),.tup [.k (.str (Y "lif")),.call (.k (.NS (.ref 766))) [.sub (.v 4) (.k (.int 2))],.tup [.k (.str (Y "goto")),.v 6]]]])] [.iff (.cmp (.v 5) [.Eq] [.k (.str (Y "end"))]) [.expr (.NY (.v 1) (Y "append") [.tup [.k (.int 0),.tup [.k (.str (Y "lif")),.call (.k (.NS (.ref 766))) [.sub (.v 4) (.k (.int 1))],.tup [.k (.str (Y "return")),.k .none]]]])] [.iff (.cmp (.v 5) [.In] [.tup [.k (.str (Y "switch")),.k (.str (Y "sign")),.k (.str (Y "way"))]]) [.expr (.call (.k (.NS (.ref 799))) [.v 4,.v 1,.v 2,.v 3])] [.expr (.NY (.v 1) (Y "append") [.tup [.k (.int 0),.call (.k (.NS (.ref 773))) [.v 4]]])]]]]]]
abbrev y1:List N:=[.expr (.NY (.v 1) (Y "append") [.tup [.k (.int 0),.tup [.v 4,.call (.k (.NS (.ref 766))) [.v 5]]]]),.expr (.call (.k (.NS (.ref 780))) [.v 6,.v 1,.v 2,.v 3]),.asg (.name 4) (.k (.str (Y "elseif")))]
abbrev y2:List N:=[.expr (.NY (.v 1) (Y "append") [.tup [.sub (.v 5) (.v 7),.tup [.k (.str (Y "continue"))]]]),.expr (.call (.k (.NS (.ref 780))) [.sub (.v 4) (.v 7),.v 1,.v 2,.v 3]),.expr (.NY (.v 1) (Y "append") [.tup [.k (.int 0),.tup [.k (.str (Y "goto")),.v 6]]])]
def jW(a:aW):V:=.tup [.int a.1,cx a.2]
structure bT(a2 G B:Addr)(wv zz Fb:V)(hn:List aW)(O:List (am×V))(u:Int)(a:I):Prop where
 On:a a2=some (.list (hn.map jW))
 m:a G=some (.dict O)
 p:a B=some (.list [wv,zz,Fb,.int u])
 Qh:a2≠G
 Qg:a2≠B
 Qi:G≠B
def di(a b c:Qo)(d e:I):Prop:=∀o,o≠a→o≠b→o≠c→e o=d o
theorem ph:di a2 G B a a:=λb b b b=>rfl
theorem ct(f:di a2 G B a M8)(g:di a2 G B M8 Nl):di a2 G B a Nl:=λb c d e=>(g b c d e).trans (f b c d e)
section
theorem Jq(e:bT a2 G B wv zz Fb hn O u a)(b:aW):bT a2 G B wv zz Fb (hn++[b]) O u (a.set a2 (.list (hn.map jW++[jW b]))):=by
 obtain⟨i,f,g,c,d,h⟩:=e;exact⟨by refine Q (bJ ..) (Q (Rp ..) ?_);rfl,by refine Q (a0 c.symm ..) ?_;exact f,by refine Q (a0 d.symm ..) ?_;exact g,c,d,h⟩
theorem Jr(e:bT a2 G B wv zz Fb hn O u a){b:Int}:bT a2 G B wv zz Fb hn O b (a.set B (.list [wv,zz,Fb,.int b])):=by
 obtain⟨f,g,i,h,c,d⟩:=e;exact⟨by refine Q (a0 c ..) ?_;exact f,by refine Q (a0 d ..) ?_;exact g,bJ,h,c,d⟩
theorem Js(d:bT a2 G B wv zz Fb hn O u a):bT a2 G B wv zz Fb hn hx u (a.set G (.dict hx)):=by
 obtain⟨e,h,f,b,g,c⟩:=d;exact⟨by refine Q (a0 b ..) ?_;exact e,bJ,by refine Q (a0 c.symm ..) ?_;exact f,b,g,c⟩
theorem Jt:di a2 G B a (a.set a2 as):=λd b c c=>a0 b
theorem Ju:di a2 G B a (a.set G as):=λd b c b=>a0 c
theorem Jv:di a2 G B a (a.set B as):=λd b b c=>a0 c
theorem jd(c:bT a2 G B wv zz Fb hn O u a)(g:0≤u∧u<1000000)(e:∀d,bT a2 G B wv zz Fb hn O (u+1) d→di a2 G B a d→b (.int (u+1)) d):af (T+1) (.NS (.ref 705)) [.ref B] b f a:=by
 refine aZ (i:=[J (.ref B)]) xx rfl rfl ?_;delta rv;lk;refine c6 c.p rfl ?_;lk;refine ip (M6:=[wv,zz,Fb,.int (u+1)]) c.p rfl ?_;have al:=Jr c (b:=u+1);lk;exact c6 al.p rfl (e _ al Jv)
theorem dN{c:aD}(e:bT a2 G B wv zz Fb hn O u a){b:aW}(f:hn.length<900000)(g:∀d,bT a2 G B wv zz Fb (hn++[b]) O u d→di a2 G B a d→c .none d):et "list.append" [.ref a2,jW b] c a:=by
 refine kE e.On (by refine Q (QL ..) ?_;unfold a4;exact(aN 44852730660) f) ?_;exact g _ (Jq e b) Jt
def y3:List V:=[.str (Y "A"),.str (Y "B"),.str (Y "C"),.str (Y "I"),.str (Y "J"),.str (Y "K")]
theorem Jw(a:l<6):bW y3 (l:Int)=J (.str (Y (hr l))):=
 sK (a:=λl:Nat=>bW y3 (l:Int)=J (.str (Y (hr l)))) rfl rfl rfl rfl rfl rfl a
theorem jX(c:l<6)(d:b (dx l) a):af (T+1) (.NS (.ref 752)) [.int l] b f a:=by
 refine aZ (i:=[J (.int l),U,U]) Gp rfl rfl ?_;delta xE;lk;refine cc (Jw c) ?_;lk;exact d
theorem lO{c:Int}(d:b (dX c) a):af (T+1) (.NS (.ref 759)) [.int c] b f a:=by
 refine aZ (i:=[J (.int c),U]) Gq rfl rfl ?_;delta xF;lk;exact d
theorem m1{c:cf}(d:eQ c)(e:b (g1 c) a):af (T+2) (.NS (.ref 766)) [cW c] b f a:=by
 refine aZ (i:=[J (.tup [.str (Y (bR c.op)),.int c.v,.int c.n]),U,U,U]) Gr rfl rfl ?_;delta xG;lk;refine jX d.1 ?_;lk;refine lO ?_;lk;exact e
theorem y4(d:iZ kw)(c:b (jP kw) a):af (T+2) (.NS (.ref 773)) [iw kw] b f a:=by
 refine aZ (i:=[J (.tup [.str (Y "set"),.int kw.t,.int (if kw.OO then 1 else 0),.int kw.s,.int kw.n]),U,U,U,U,U,U,U,U,U,U]) rx rfl rfl ?_;delta oB;unfold jP at c;lk;refine⟨_,rfl,?_⟩;generalize e:kw.OO=g;induction g using Qz with
 |true=>
  rw [e,Qt rfl]at c;refine Q (Qt rfl ..) ?_;lk;refine jX d.1 ?_;lk;refine lO ?_;lk;refine jX d.2.1 ?_;lk;exact c
 |false=>
  rw [e,Qs (by simp)]at c;refine Q (Qs (by simp) ..) ?_;lk;refine jX d.1 ?_;lk;refine jX d.2.1 ?_;lk;refine lO ?_;lk;exact c
theorem sj{c:a3}(d:mz c)(e:b (cx c.row) a):af (T+3) (.NS (.ref 773)) [jT c] b f a:=by
 induction c using a3.casesOn with
 |set g=>exact y4 d e
 |OC h g=>
  refine aZ (i:=[J (.tup [.str (Y "lif"),cW h,iw g]),U,U,U,U,U,U,U,U,U,U]) rx rfl rfl ?_;delta oB;lk;refine m1 d.1 ?_;lk;refine y4 d.2 ?_;lk;exact e
theorem y5(d:jH ca)(c:b (cx (fJ ca)) a):af (T+3) (.NS (.ref 773)) [jU ca] b f a:=by
 induction ca using Qm with
 |none=>
  refine aZ (i:=[some .none,none,none,none,none,none,none,none,none,none,none]) rx rfl rfl ?_;delta oB;lk;exact c
 |some e=>exact sj d c
end
theorem sk(b:bT a2 G B wv zz Fb hn O u a):bT a2 G B wv zz Fb (hn++[]) O (u+((0:Nat):Int)) a:=by
 refine Q (RI ..) (Q (show u+((0:Nat):Int)=u from To u) ?_);exact b
def fN(a c:Nat)(d:List aW)(e:List (am×V))(b:Int):Prop:=d.length+a<900000∧e.length+a<900000∧0≤b∧b+c<900000
def fs(ho:Bool)(cp D E ns sb:Int)(a:List (am×V)):Prop:=D≤cp∧E≤cp∧(ho=Qp→(∃MR,bA (.inl D) a=J (.tup [MR,.int ns]))∧∃MR,bA (.inl E) a=J (.tup [.int sb,MR]))
def ed(cp:Int)(a b:List (am×V)):Prop:=∀us,us≤cp→bA (.inl us) b=bA (.inl us) a
theorem lP(a:fs ho cp D E ns sb O)(b:ed cp O hx):fs ho cp D E ns sb hx:=⟨a.1,a.2.1,λc=>by
 refine Q (b _ a.1 ..) (Q (b _ a.2.1 ..) ?_);exact a.2.2 c⟩
theorem je(c:ed cp O g)(d:ed cp g h):ed cp O h:=λa b=>(d a b).trans (c a b)
theorem sl{a:Int}(b:cp<a)(d:ed a (bC (.inl a) s O) hx):ed cp O hx:=λe c=>(d e ‹(b6 328889108784) b c›).trans (i9 (by intro f;have:=Sl f;exact(b6 551876966353200) b this c) _ _)
structure cX(r:aP):Prop where
 go:∀{T l:Nat}{ho:Bool}{cp D E ns sb:Int}{a2 G B:Addr}{wv zz Fb:V}{hn:List aW}{O:List (am×V)}{u:Int}{a:I}{b:aD}{f:aV},bT a2 G B wv zz Fb hn O u a→fN (ba r) (aF r) hn O u→cD ho cp r→cT l r→l+6≤T→fs ho cp D E ns sb O→
  (∀d hx,bT a2 G B wv zz Fb (hn++b0 r ns sb u) hx (u+aF r) d→di a2 G B a d→ed cp O hx→hx.length≤O.length+ba r→b .none d)→af T (.NS (.ref 780)) [.lst (a8 D E r),.ref a2,.ref G,.ref B] b f a
abbrev gc(a b:V)(c d e:Qo)(c2 hh:Option V):aq:=[J a,J (.ref c),J (.ref d),J (.ref e),J b,c2,hh,U,U,U,U,U]
structure gd(v:c7):Prop where
 go:∀{T l:Nat}{ho:Bool}{cp D E ns sb:Int}{a2 G B:Addr}{wv zz Fb:V}{hn:List aW}{O:List (am×V)}{u:Int}{a:I}{L:bF}{ML:bt}{M9:V}{c2 hh:Option V},bT a2 G B wv zz Fb hn O u a→fN (cS v) (cs v) hn O u→fl ho cp v→f7 l v→l+5≤T→fs ho cp D E ns sb O→
  (∀d hx c2 hh,bT a2 G B wv zz Fb (hn++dy v ns sb u) hx (u+cs v) d→di a2 G B a d→ed cp O hx→hx.length≤O.length+cS v→L .NX (gc M9 (ea D E v) a2 G B c2 hh) d)→aw ab (af T) gE (gc M9 (ea D E v) a2 G B c2 hh) L ML a
theorem y6{p:bF}(q:l+5≤T):∀(r:aP),kQ gd r→∀(hn:List aW) (O:List (am×V)) (u:Int) (a:I) (MQ c2 hh:Option V),bT a2 G B wv zz Fb hn O u a→fN (ba r) (aF r) hn O u→cD ho cp r→cT l r→fs ho cp D E ns sb O→
  (∀d hx i,bT a2 G B wv zz Fb (hn++b0 r ns sb u) hx (u+aF r) d→di a2 G B a d→ed cp O hx→hx.length≤O.length+ba r→p .NX i d)→
  c0 ab (af T) (.name 4) (λM bl cl d=>aw ab (af T) gE M bl cl d) (a8 D E r) [J M9,J (.ref a2),J (.ref G),J (.ref B),MQ,c2,hh,U,U,U,U,U] p ML a
 |.nil,h,hn,O,u,a,MQ,c2,hh,j,k,f,m,n,e=>by
  refine gA (e a O _ ?_ ph (λz z=>rfl) (QU _ _));exact sk j
 |.cons b c,h,hn,O,u,a,MQ,c2,hh,j,k,f,m,n,e=>by
  have A:ba (.cons b c)=cS b+ba c:=rfl;have g:aF (.cons b c)=cs b+aF c:=rfl;rw [A]at k e;refine bf (wk b ho cp f.1) λZ C aa=>cY k λs t v o=>?_;have F:b0 (.cons b c) ns sb u=dy b ns sb u++b0 c ns sb (u+cs b):=rfl;rw [F,g]at e;show c0 _ _ _ _ (ea D E b::a8 D E c) _ _ _ _;refine iu (h.1.go (c2:=c2) (hh:=hh) j ⟨by exact(au 509667406756061508) s,by exact(au 509667406756061508) t,v,by exact(bM 4811749299256337227837776) o g⟩ f.1 m.1 q n λH K L N al P w x=>e8 (y6 q c h.2 (hn++dy b ns sb u) K (u+cs b) H _ L N al ⟨by refine Q (Qr ..) (Q (vP ..) ?_);exact(aE 4825476902051735403110724) s C,by exact(aE 4825514048449547443249476) t x,by exact(bM 3802176717512204018188616568) v o g,by exact(bM 19764099394524088293582434640) o g⟩ f.2 m.2 (lP n w) λR S i y W X Y=>?_));refine e R S i ?_ (ct P W) (je w X) ‹(bU 5334016691757866328588) Y x›;rw [QW]at y;exact Q (show u+((cs b+aF c:Nat):Int)=u+(cs b:Int)+(aF c:Int) by exact(bx 4861222642111520)) y
theorem jf(a:aP)(d:kQ gd a):cX a:=by
 constructor;intro T x y z e f A B g h i C D E j O k l F G m n o p b q r;obtain⟨c,rfl⟩:∃c,T=c+1:=⟨T-1,by exact(au 295406638752892188) b (az _ _)⟩;refine aZ (i:=[J (.lst (a8 e f a)),J (.ref g),J (.ref h),J (.ref i),U,U,U,U,U,U,U,U]) Gs rfl rfl ?_;delta xH;refine fH (h4 ?_);lk;refine(aU _ rfl ?_);refine y6 ‹(ak 135511972283676) b› a d j O k l _ _ _ m n o p q λs t H al u v w=>eC ?_;lk;exact r s t al u v w
theorem pi{b:c7}{c:aW}(d:bT a2 G B wv zz Fb (hn++[c]) O u a)(e:dy b ns sb u=[c])(f:cs b=0):bT a2 G B wv zz Fb (hn++dy b ns sb u) O (u+cs b) a:=by
 refine Q (e ..) (Q (f ..) ?_);simpa using d
theorem Jx(i:a3):gd (.plain i):=by
 constructor;intro T G H I x y K L d e f z A B q O C l m r n b c j s t D E M u;obtain⟨k,rfl⟩:∃k,T=k+3:=⟨T-3,by exact(au 230119428117425100060) E (az _ _)⟩;have v:∀b c g,bT d e f z A B (q++[(0,i.row)]) O C g→di d e f l g→m .NX (gc n (ea x y (.plain i)) d e f b c) g:=λb c g al h=>
  u g O b c (pi al rfl rfl) h (λF F=>rfl) (QU _ _)
 have w:q.length<900000:=by have:=s.1;exact(ak 7771447333188) this
 clear s D u;induction i using a3.casesOn with
 |set a=>
  show aw ab (af (k+3)) gE (gc n (.tup [.str (Y "set"),.int a.t,.int (if a.OO then 1 else 0),.int a.s,.int a.n]) d e f b c) m r l;lk;refine db j.On ?_;lk;refine sj (c:=.set a) t ?_;lk;refine dN j (b:=(0,a3.row (.set a))) w λo al h=>?_;lk;exact v _ _ o al h
 |OC p a=>
  show aw ab (af (k+3)) gE (gc n (.tup [.str (Y "lif"),cW p,iw a]) d e f b c) m r l;lk;refine db j.On ?_;lk;refine sj (c:=.OC p a) t ?_;lk;refine dN j (b:=(0,a3.row (.OC p a))) w λo al h=>?_;lk;exact v _ _ o al h
theorem Jy(a:cf):gd (.exit a):=by
 constructor;intro T B C D e E f F g h i G H I j O K k l m n o p b q d L r s t;obtain⟨c,rfl⟩:∃c,T=c+3:=⟨T-3,by exact(au 230119428117425100060) r (az _ _)⟩;have u:j.length<900000:=by have:=q.1;exact(ak 7771447333188) this
 refine ar (s.2.2 d.1) λv w=>?_;clear w;refine bY v λM x=>?_;show aw ab (af (c+3)) gE (gc n (.tup [.str (Y "exit"),.int e,cW a]) g h i o p) l m k;lk;refine eB b.m rfl x ?_;lk;refine db b.On ?_;lk;refine m1 d.2 ?_;lk;refine dN b (b:=(0,.OL a f)) u λy al z=>?_;lk;exact t y O _ _ (pi al rfl rfl) z (λA A=>rfl) (QU _ _)
theorem Jz(a:cf):gd (.N0 a):=by
 constructor;intro T B C D E e F f g h i G H I j O K k l m n o p b q d L r s t;obtain⟨c,rfl⟩:∃c,T=c+3:=⟨T-3,by exact(au 230119428117425100060) r (az _ _)⟩;have u:j.length<900000:=by have:=q.1;exact(ak 7771447333188) this
 refine ar (s.2.2 d.1) λv w=>bY w λM x=>?_;clear v;show aw ab (af (c+3)) gE (gc n (.tup [.str (Y "cycle"),.int e,cW a]) g h i o p) l m k;lk;refine eB b.m rfl x ?_;lk;refine db b.On ?_;lk;refine m1 d.2 ?_;lk;refine dN b (b:=(0,.OL a f)) u λy al z=>?_;lk;exact t y O _ _ (pi al rfl rfl) z (λA A=>rfl) (QU _ _)
theorem JA(a:cf):gd (.fin a):=by
 constructor;intro T v w x y z A B d e f C D E g O F h i j k l m c n o G p H q;obtain⟨b,rfl⟩:∃b,T=b+3:=⟨T-3,by exact(au 230119428117425100060) p (az _ _)⟩;have r:g.length<900000:=by have:=n.1;exact(ak 7771447333188) this
 show aw ab (af (b+3)) gE (gc k (.tup [.str (Y "end"),cW a]) d e f l m) i j h;lk;refine db c.On ?_;lk;refine m1 o ?_;lk;refine dN c (b:=(0,.OY a)) r λs al t=>?_;lk;exact q s O _ _ (pi al rfl rfl) t (λu u=>rfl) (QU _ _)
noncomputable def m3(a:aP→Prop):cr→Prop
 |.nil=>True
 |.cons _ r A=>a r∧m3 a A
noncomputable def hA(a:aP→Prop):bu→Prop
 |.nil=>True
 |.cons r A=>a r∧hA a A
abbrev lQ(a:V)(b c d:Qo)(e:String)(c2 hh:Option V):aq:=[J a,J (.ref b),J (.ref c),J (.ref d),J (.str (Y e)),c2,hh,U,U]
section
theorem y7{c:cf}{b:aP}{e:bF}(n:cX b)(o:cx h=.tup [.str (Y H2),g1 c])(p:eQ c)(i:bT a2 G B wv zz Fb hn O u a)(q:fN (ba b+1) (aF b) hn O u)(r:cD ho cp b)(s:cT l b)(j:l+6≤T)(t:fs ho cp D E ns sb O)
  (v:∀d hx c2 hh,bT a2 G B wv zz Fb (hn++((0,h)::b0 b ns sb u)) hx (u+aF b) d→di a2 G B a d→ed cp O hx→hx.length≤O.length+ba b→e .NX (lQ MX a2 G B "elseif" c2 hh) d):
  aw ab (af T) y1 (lQ MX a2 G B H2 (J (cW c)) (J (.lst (a8 D E b)))) e ML a:=by
 obtain⟨f,rfl⟩:∃f,T=f+2:=⟨T-2,by exact(au 160079424447448646940) j (az _ _)⟩;refine cY q λk w x y=>?_;lk;refine db i.On ?_;lk;refine m1 p ?_;lk;have g:=dN (c:=λ(_:V) z=>aw ab (af (f+2)) [.expr (.call (.k (.NS (.ref 780))) [.v 6,.v 1,.v 2,.v 3]),.asg (.name 4) (.k (.str (Y "elseif")))] (lQ MX a2 G B H2 (J (cW c)) (J (.lst (a8 D E b)))) e ML z) i (b:=(0,h)) ‹(ak 124343157510468) k› λL al A=>by
  lk;refine n.go al ⟨by simp;exact(ak 509672760574464324) k,by exact(ak 31854212920627524) w,x,by exact(aC 509396311782715728) y⟩ r s j t λC F m H I K=>?_;lk;refine v C F _ _ ?_ (ct A H) I K;rw [QW]at m;exact m
 unfold jW at g;rw [o]at g;exact g
theorem y8{o:bF}(p:l+6≤T):∀(A:cr),m3 cX A→∀(hn:List aW) (O:List (am×V)) (u:Int) (a:I) (c2 hh:Option V),bT a2 G B wv zz Fb hn O u a→fN (en A) (cP A) hn O u→ia ho cp A→kA l A→fs ho cp D E ns sb O→
  (∀d hx c2 hh,bT a2 G B wv zz Fb (hn++f2 A ns sb u) hx (u+cP A) d→di a2 G B a d→ed cp O hx→hx.length≤O.length+en A→o .NX (lQ MX a2 G B "elseif" c2 hh) d)→
  c0 ab (af T) (.tup [5,6]) (λM bl cl d=>aw ab (af T) y1 M bl cl d) (hy D E A) (lQ MX a2 G B "elseif" c2 hh) o ML a
 |.nil,h,hn,O,u,a,c2,hh,i,j,e,k,m,f=>by
  refine gA (f a O _ _ ?_ ph (λx x=>rfl) (QU _ _));exact sk i
 |.cons c b A,h,hn,O,u,a,c2,hh,i,j,e,k,m,f=>by
  have y:en (.cons c b A)=ba b+en A+1:=rfl;have g:cP (.cons c b A)=aF b+cP A:=rfl;have z:f2 (.cons c b A) ns sb u=(0,.Ox c)::(b0 b ns sb u++f2 A ns sb (u+aF b)):=rfl;rw [y]at j f;rw [z,g]at f;refine bf (d8 b ho cp e.2.1) λW C X=>cY j λq r s n=>?_;show c0 _ _ _ _ (V.tup [cW c,.lst (a8 D E b)]::hy D E A) _ _ _ _;refine oT rfl (y7 h.1 (h:=.Ox c) rfl e.1 i ⟨by exact(au 130511850884219326788) q,by exact(au 130511850884219326788) r,s,by exact(bM 4811749299256337227837776) n g⟩ e.2.1 k.1 p m λF H c2 hh al K t v=>e8 (y8 p A h.2 _ H (u+aF b) F c2 hh al ⟨by refine Q (Qr ..) (Q (Qw ..) (Q (dd ..) ?_));exact(aE 1235343937355592064144036164) q C,by exact(aE 77208224775192759092171076) r v,by exact(bM 3802176717512204018188616568) s n g,by exact(bM 19764099394524088293582434640) n g⟩ e.2.2 k.2 (lP m t) λL N c2 hh w P R S=>?_));refine f L N c2 hh ?_ (ct K P) (je t R) ‹(bU 85332807952628197925388) S v›;rw [QW,Ux]at w;exact Q (show u+((aF b+cP A:Nat):Int)=u+(aF b:Int)+(cP A:Int) by exact(bx 4861222642111520)) w
theorem JB{h:cf}{c:aP}{e:cr}{g:aP}(ag:cX c)(ah:m3 cX e)(ai:cX g)(aj:bT a2 G B wv zz Fb hn O u a)(t:fN (cS (.cond h c e M4 g)) (cs (.cond h c e M4 g)) hn O u)(L:fl ho cp (.cond h c e M4 g))(M:f7 l (.cond h c e M4 g))(n:l+5≤T)(v:fs ho cp D E ns sb O)
  (k:∀d hx,bT a2 G B wv zz Fb (hn++dy (.cond h c e M4 g) ns sb u) hx (u+cs (.cond h c e M4 g)) d→di a2 G B a d→ed cp O hx→hx.length≤O.length+cS (.cond h c e M4 g)→b .none d):
  af T (.NS (.ref 787)) [ea D E (.cond h c e M4 g),.ref a2,.ref G,.ref B] b f a:=by
 obtain⟨N,rfl⟩:∃N,T=N+2:=⟨T-2,by exact(au 160079424447448683804) n (az _ _)⟩;refine kU L λak P R S am=>cY M λw an ao ap=>?_;have i:cS (.cond h c e M4 g)=ba c+en e+ba g+3:=rfl;rw [i]at t k;have x:aF c+cP e≤cs (.cond h c e M4 g):=QU _ _;refine bE λaG V=>cY t λj y z o=>bf (d8 c ho cp P) λaH W aI=>bf (ri e ho cp R) λaJ A aK=>bf (d8 g ho cp S) λaL aq aM=>V (aZ (i:=lQ (.tup [.str (Y "if"),.lst (.tup [cW h,.lst (a8 D E c)]::hy D E e),if M4 then .lst (a8 D E g)else .none]) a2 G B "" U U|>.set 4 U) Gt rfl rfl ?_);delta xI;refine kD (f8 ?_);refine fH (h4 ?_);lk;refine(aU _ rfl ?_);refine oT rfl (y7 (H2:= "if") ag (h:=.ifs h) rfl ak aj ⟨by exact(bU 78826518808336326628241510724) j A,by exact(bU 78826518808336326628241510724) y A,z,by exact(bM 4811749277505411660116304) o x⟩ P an ‹(au 14301342793080591288021694813116) w n (az _ _)› v λar as X Z al aa p q=>e8 (y8 ‹(au 14301342793080591288021694813116) w n (az _ _)› e ah _ as (u+aF c) ar X Z al ⟨by refine Q (Qr ..) (Q (Qw ..) (Q (dd ..) ?_));exact(bU 20244575373244028709737357316420) j W,by exact(bU 1265273323714271172425795703108) y q,by exact(bx 402893075125760754552) z o,by exact(bM 19764099394502337368014713168) o x⟩ R ao (lP v p) λaN av X Z r ab C F=>?_));refine eC ?_;have s:(hn++((0,b4.ifs h)::b0 c ns sb u)++f2 e ns sb (u+aF c)).length≤hn.length+1+ba c+en e:=by
  refine Q (Qr ..) (Q (Qr ..) (Q (Qw ..) (Q (dd ..) (Q (qW ..) ?_))));exact(bU 444132828932816224569612) A W
 have aw:=lP v (je p C);clear t L M am x V;induction M4 using Qz with
 |false=>
  have H:dy (.cond h c e false g) ns sb u=(0,.ifs h)::(b0 c ns sb u++(f2 e ns sb (u+aF c)++[(0,.Ot)])):=rfl;have m:cs (.cond h c e false g)=aF c+cP e:=Nat.add_zero _;rw [H,m]at k;lk;refine db r.On ?_;lk;refine dN r (b:=(0,.Ot)) ‹(eH 12833888316795077396238695407836332275306795332) j i s› λad I K=>?_;lk;refine k ad av ?_ (ct (ct aa ab) K) (je p C) ‹(lZ 41864411181839595165561671347917834290426196) i q F›;refine Q (show u+((aF c+cP e:Nat):Int)=u+(aF c:Int)+(cP e:Int) by exact(bx 4861222642111520)) ?_;simpa [QW]using I
 |true=>
  have H:dy (.cond h c e true g) ns sb u=(0,.ifs h)::(b0 c ns sb u++(f2 e ns sb (u+aF c)++((0,.Op)::b0 g ns sb (u+aF c+cP e)++[(0,.Ot)]))):=rfl;have m:cs (.cond h c e true g)=aF c+cP e+aF g:=rfl;rw [H,m]at k;lk;refine db r.On ?_;lk;refine dN r (b:=(0,.Op)) ‹(bU 20385614590284791873563384025412) j s› λad I K=>?_;lk;refine ai.go I ⟨by refine Q (Qr ..) (Q (RQ ..) ?_);exact(eH 52691247210067936446906148616442942301127138808132) j i s,by exact(lZ 1942521247786179502910040914392618913184959012940484932) y i q F,by exact(gH 1274658209610139010286456) z m,by exact(gH 20801396058271456579339259621929296) o m⟩ S ap ‹(au 14301342793080591288021694813116) w n (az _ _)› aw λaO ax ae ay aA aB=>?_;lk;refine db ae.On ?_;lk;refine dN ae (b:=(0,.Ot)) (by refine Q (Qr ..) (Q (Qr ..) (Q (RQ ..) (Q (dd ..) ?_)));exact(lZ 496553129193443556182913161724740577790199982573001052484) j i s aq) λaC aD aE=>?_;lk;refine k aC ax ?_ (ct (ct (ct (ct aa ab) K) ay) aE) (je (je p C) aA) ‹(pE 101141030966384314244168051219521605618867326761005396) i aB F q›;refine Q (show u+((aF c+cP e+aF g:Nat):Int)=u+(aF c:Int)+(cP e:Int)+(aF g:Int) by exact(bM 15736537518806763426848)) ?_;simpa [QW]using aD
end
section
variable{e r Nx Nz:Int}{s:Nat}
abbrev y9(a b:V)(c d e:Qo)(f g h i:Int)(j:Nat)(k l m:Int)(n:List V)(o:V):aq:=[J a,J (.ref c),J (.ref d),J (.ref e),J (.int f),J (.str (Y "do")),J (.int i),J (.int j),J (.int k),J (.int l),J (.int m),J (.lst n),J o,J b,J (.int g),J (.int h),U,U,U,U,U,U]
abbrev JC:List N:=[.asg (.item (.v 2) (.v 6)) (.tup [.v 14,.v 15]),.expr (.NY (.v 1) (Y "append") [.tup [.k (.int 0),.tup [.k (.str (Y "do")),.v 14,.call (.k (.NS (.ref 752))) [.v 7],.call (.k (.NS (.ref 759))) [.v 8],.call (.k (.NS (.ref 759))) [.v 9],.call (.k (.NS (.ref 759))) [.v 10]]]]),.expr (.call (.k (.NS (.ref 780))) [.v 11,.v 1,.v 2,.v 3])]
abbrev za:List N:=[.iff (.cmp (.v 13) [.IsNot] [.k .none]) [.expr (.call (.k (.NS (.ref 794))) [.v 13,.v 1,.v 2,.v 3,.v 14])] [.expr (.NY (.v 1) (Y "append") [.tup [.v 14,.call (.k (.NS (.ref 773))) [.v 12]]])],.iff (.cmp (.v 4) [.Eq] [.k (.int 0)]) [.expr (.NY (.v 1) (Y "append") [.tup [.v 15,.tup [.k (.str (Y "continue"))]]])] []]
theorem sm{c:bF}(o:cX cn)(p:gV s e r bd)(f:bT a2 G B wv zz Fb hn O u a)(q:fN (ba cn+2) (aF cn) hn O u)(t:cD M l2 cn)(v:cT l cn)(g:l+6≤T)(w:fs M l2 h k bl cl (bC (.inl l2) (.tup [.int Nx,.int Nz]) O))
  (x:∀d hx,bT a2 G B wv zz Fb (hn++((0,.Od Nx s e r bd)::b0 cn bl cl u)) hx (u+aF cn) d→di a2 G B a d→ed l2 (bC (.inl l2) (.tup [.int Nx,.int Nz]) O) hx→hx.length≤O.length+1+ba cn→aw ab (af T) za (y9 MX Ng a2 G B lb Nx Nz l2 s e r bd (a8 h k cn) fw) c ML d):
  aw ab (af T) (JC++za) (y9 MX Ng a2 G B lb Nx Nz l2 s e r bd (a8 h k cn) fw) c ML a:=by
 obtain⟨i,rfl⟩:∃i,T=i+2:=⟨T-2,by exact(au 160079424447448646940) g (az _ _)⟩;refine cY q λb j y z=>fO p λA L N P R S V=>?_;have m:=fW (.inl l2:am) (.tup [.int Nx,.int Nz]) O;lk;refine hq f.m rfl (by unfold a4;exact(au 7271954685541860199940100420) j b) ?_;have al:=Js f (hx:=bC (.inl l2) (.tup [.int Nx,.int Nz]) O);lk;refine db al.On ?_;lk;refine jX A ?_;lk;refine lO ?_;lk;refine lO ?_;lk;refine lO ?_;lk;refine dN al (b:=(0,.Od Nx s e r bd)) ‹(ak 7957962050900292) b› λW C D=>?_;lk;refine o.go C ⟨by refine Q (Qr ..) (Q (RQ ..) ?_);exact(ak 32619056676735947076) b,by exact(au 1202736417545282523107652) j m,y,by exact(aC 509396311782715728) z⟩ t v g w λE F n H I K=>?_;refine dg (x E F ?_ (ct (ct Ju D) H) I ‹(aE 35381495388382739724) m K›);rw [QW]at n;exact n
theorem JD(y:cX cn)(z:bT a2 G B wv zz Fb hn O u a)(n:fN (cS (.loop l2 s e r bd cn ca)) (cs (.loop l2 s e r bd cn ca)) hn O u)(A:fl ho cp (.loop l2 s e r bd cn ca))(C:f7 l (.loop l2 s e r bd cn ca))(o:l+5≤T)(ae:fs ho cp D E ns sb O)
  (h:∀d hx,bT a2 G B wv zz Fb (hn++dy (.loop l2 s e r bd cn ca) ns sb u) hx (u+cs (.loop l2 s e r bd cn ca)) d→di a2 G B a d→ed cp O hx→hx.length≤O.length+cS (.loop l2 s e r bd cn ca)→b .none d):
  af T (.NS (.ref 794)) [fa l2 s e r bd (a8 l2 l2 cn) ca .none,.ref a2,.ref G,.ref B,.int 0] b f a:=by
 refine cY A λF H p I=>ar C λq K=>?_;obtain⟨i,rfl⟩:∃i,T=i+4:=⟨T-4,by exact(au 873410047276849926805394364) q o (az _ _)⟩;have L:cS (.loop l2 s e r bd cn ca)=6*(ba cn+1)+5:=rfl;have g:cs (.loop l2 s e r bd cn ca)=2+aF cn:=rfl;have M:dy (.loop l2 s e r bd cn ca) ns sb u=(0,.Od (u+1) s e r bd)::(b0 cn (u+2) (u+1) (u+2)++[(u+1,fJ ca),(u+2,.cont)]):=rfl;rw [L]at n h;rw [M,g]at h;refine cY n λj N k m=>bf (d8 cn Qp l2 p) λc P ag=>aZ (i:=[J (fa l2 s e r bd (a8 l2 l2 cn) ca .none),J (.ref a2),J (.ref G),J (.ref B),J (.int 0),U,U,U,U,U,U,U,U,U,U,U,U,U,U,U,U,U]) ry rfl rfl ?_;delta oC;lk;refine⟨_,rfl,?_⟩;lk;refine jd z ⟨k,by exact(bx 110967054511150237741392) m g⟩ λah al R=>?_;lk;refine jd al ⟨by exact(ay 38118264) k,by exact(bx 1775467212597789629608272) m g⟩ λai t S=>?_;rw [show u+1+1=u+2 by exact(ay 25609220)]at t⊢;refine sm (T:=i+3) (l:=l-2) (M:=Qp) (h:=l2) (k:=l2) (bl:=u+2) (cl:=u+1) y H t ⟨by exact(au 1260297597665108818343230378308) j c,by exact(au 1260297597665108818343230378308) N c,by exact(ay 3690308472) k,by exact(bx 315343217223785496262739226960) m g⟩ p K ‹(au 536824691915086041175369146438588) q o (az _ _)› ⟨QK _,QK _,λaj=>⟨⟨_,g3 _ _ _⟩,_,g3 _ _ _⟩⟩ λak V v W X Y=>?_;lk;refine db v.On ?_;lk;refine y5 I ?_;lk;have w:(hn++(0,b4.Od (u+1) s e r bd)::b0 cn (u+2) (u+1) (u+2)).length≤hn.length+1+ba cn:=by refine Q (Qr ..) (Q (Qw ..) (Q (dd ..) ?_));exact(au 150811929614604) P
 refine dN v (b:=(u+1,fJ ca)) ‹(aE 728458356160471078428729116922180) j w c› λam x Z=>?_;lk;refine db x.On ?_;lk;refine dN x (b:=(u+2,.cont)) (by refine Q (Qr ..) (Q (RQ ..) ?_);exact(aE 11656100158718473564714926773047620) j w c) λaa ab ad=>?_;lk;refine h aa V ?_ (ct (ct (ct (ct R S) W) Z) ad) (sl F X) ‹(aE 10476136395245678695801356) Y c›;refine Q (show u+((2+aF cn:Nat):Int)=u+2+(aF cn:Int) by exact(aC 23751332383282208)) ?_;simpa [QW]using ab
theorem JE(o:cX cn)(p:Nx≠0)(q:gV s e r bd)(t:jH ca)(v:bT a2 G B wv zz Fb hn O u a)(w:fN (ba cn+4) (1+aF cn) hn O u)(h:cD Qp l2 cn)(x:cT l cn)(i:l+7≤T)(c:D<l2)(y:∃MR,bA (.inl D) O=J (.tup [MR,.int ns]))
  (z:∀d hx,bT a2 G B wv zz Fb (hn++((0,.Od Nx s e r bd)::(b0 cn ns Nx (u+1)++[(Nx,fJ ca)]))) hx (u+1+aF cn) d→di a2 G B a d→ed D O hx→hx.length≤O.length+1+ba cn→b .none d):
  af T (.NS (.ref 794)) [fa l2 s e r bd (a8 D l2 cn) ca .none,.ref a2,.ref G,.ref B,.int Nx] b f a:=by
 obtain⟨g,rfl⟩:∃g,T=g+4:=⟨T-4,by exact(au 370199435457378006300) i (az _ _)⟩;refine cY w λj A k m=>bf (d8 cn Qp l2 h) λV C W=>aZ (i:=[J (fa l2 s e r bd (a8 D l2 cn) ca .none),J (.ref a2),J (.ref G),J (.ref B),J (.int Nx),U,U,U,U,U,U,U,U,U,U,U,U,U,U,U,U,U]) ry rfl rfl ?_;delta oC;lk;refine⟨_,rfl,?_⟩;refine kD (Hf (Hi (df rfl (d9 (b:=Qp) (by show J (decide _)=_;exact Q (QD p ..) rfl) (gz rfl ?_)))));lk;refine jd v ⟨k,by exact(aC 47033970873200976) m⟩ λX E F=>bY y λMR H=>sm (T:=g+3) (l:=l) (M:=Qp) (h:=D) (k:=l2) (bl:=ns) (cl:=Nx) o q E ⟨by exact(ak 2086655294994965729604) j,by exact(ak 2086655294994965729604) A,by exact(ay 38118264) k,by exact(aC 2086488626539679576400) m⟩ h x ‹(ak 6027614920840459548) i› ⟨by exact(ck 7153968) c,QK _,λY=>⟨⟨MR,(i9 (by intro I;have:=Sl I;exact(ck 15036975408) c this) _ _).trans H⟩,_,g3 _ _ _⟩⟩ λZ K n L M N=>?_;lk;refine db n.On ?_;lk;refine y5 t ?_;lk;refine dN n (b:=(Nx,fJ ca)) (by refine Q (Qr ..) (Q (Qw ..) (Q (dd ..) ?_));exact(au 1206159137147641711694148) j C) λP R S=>?_;lk;refine z P K ?_ (ct (ct F L) S) (sl c M) ‹(au 484788180607500) N›;simpa [QW]using R
theorem JF{c:Int}(L:cX cn)(M:cX MM)(N:bT a2 G B wv zz Fb hn O u a)(x:fN (cS (.pair l2 s e r bd cn MS g c MP MM ca)) (cs (.pair l2 s e r bd cn MS g c MP MM ca)) hn O u)(P:fl ho cp (.pair l2 s e r bd cn MS g c MP MM ca))(R:f7 l (.pair l2 s e r bd cn MS g c MP MM ca))(o:l+5≤T)(ax:fs ho cp D E ns sb O)
  (i:∀d hx,bT a2 G B wv zz Fb (hn++dy (.pair l2 s e r bd cn MS g c MP MM ca) ns sb u) hx (u+cs (.pair l2 s e r bd cn MS g c MP MM ca)) d→di a2 G B a d→ed cp O hx→hx.length≤O.length+cS (.pair l2 s e r bd cn MS g c MP MM ca)→b .none d):
  af T (.NS (.ref 794)) [fa l2 s e r bd (a8 l2 l2 cn) U (fa MS g c MP 1 (a8 l2 MS MM) ca .none),.ref a2,.ref G,.ref B,.int 0] b f a:=by
 refine fO P λS V y W X z Y=>bf R λp Z aa=>?_;obtain⟨k,rfl⟩:∃k,T=k+4:=⟨T-4,by exact(au 873410047276849926805396668) p o (az _ _)⟩;have ab:cS (.pair l2 s e r bd cn MS g c MP MM ca)=6*(ba cn+1+6*(ba MM+1)+1)+6:=rfl;have h:cs (.pair l2 s e r bd cn MS g c MP MM ca)=3+aF cn+aF MM:=rfl;have ad:dy (.pair l2 s e r bd cn MS g c MP MM ca) ns sb u=(0,.Od (u+1) s e r bd)::(b0 cn (u+2) (u+1) (u+2)++(0,.Od (u+1) g c MP 1)::(b0 MM (u+2) (u+1) (u+2+aF cn+1)++[(u+1,fJ ca),(u+2,.cont)])):=rfl;rw [ab]at x i;rw [ad,h]at i;refine bE λaA ae=>cY x λq t j m=>bf (d8 cn Qq l2 y) λaB n A=>bf (d8 MM Qp MS z) λv w C=>ae (aZ (i:=[J (fa l2 s e r bd (a8 l2 l2 cn) U (fa MS g c MP 1 (a8 l2 MS MM) ca .none)),J (.ref a2),J (.ref G),J (.ref B),J (.int 0),U,U,U,U,U,U,U,U,U,U,U,U,U,U,U,U,U]) ry rfl rfl ?_);delta oC;lk;refine⟨_,rfl,?_⟩;lk;refine jd N ⟨j,by exact(bM 28407849039362363646800208) m h⟩ λaD al ag=>?_;lk;refine jd al ⟨by exact(ay 38118264) j,by exact(bM 454519889509542047964721488) m h⟩ λaE F ah=>?_;rw [show u+1+1=u+2 by exact(ay 25609220)]at F⊢;refine sm (T:=k+3) (l:=l-3) (M:=Qq) (h:=l2) (k:=l2) (bl:=u+2) (cl:=u+1) L V F ⟨by exact(l3 1913396471813549807538947415857077271039523828396501552531682688674253542787434505786095083393348) t q h C n A w,by exact(pE 10991137118425759157164579779979259471083343164051597109109402658345284) t h C n A w,by exact(ay 3690308472) j,by exact(bM 80727863609572171551164027105616) m h⟩ y Z ‹(au 536824691968876746894306198953148) p o (az _ _)› ⟨QK _,QK _,λi=>by cases i⟩ λaG ai aj ak H I=>?_;have am:(hn++(0,b4.Od (u+1) s e r bd)::b0 cn (u+2) (u+1) (u+2)).length≤hn.length+1+ba cn:=by refine Q (Qr ..) (Q (Qw ..) (Q (dd ..) ?_));exact(au 150811929614604) n
 have an:bA (.inl l2) ai=J (.tup [.int (u+1),.int (u+2)]):=(H l2 (QK _)).trans (g3 _ _ _);lk;refine JE (T:=k+3) (l:=l-3) (D:=l2) (ns:=u+2) M ‹(ay 8184140664) j› X Y aj ⟨by exact(bU 12780214863707237214266037634869007706691146052) q am v,by exact(bU 12780214863707237214266037634869007706691146052) t I v,by exact(aC 13046999262072) j,by exact(bM 84906184646232026927947306834679034192) m h⟩ z aa ‹(au 536856419018086713222367187836092) p o (az _ _)› W ⟨_,an⟩ λaH ao K ap aq ar=>?_;lk;refine db K.On ?_;lk;refine dN K (b:=(u+2,.cont)) (by simp only [Qr,Qw,Rw,dd];exact(bU 821761219683448818138179719621832598537718665540) q w n) λas av aw=>?_;lk;refine i as ao ?_ (ct (ct (ct (ct ag ah) ak) ap) aw) (sl S (je H aq)) ‹(eH 1512026985769704039107238853717762083906060) ar I v›;refine Q (show u+((3+aF cn+aF MM:Nat):Int)=u+2+(aF cn:Int)+1+(aF MM:Int) by exact(bx 1304929716859967783949344)) ?_;simpa [QW]using av
end
theorem jg(c:av n j it i (λh g=>∃y,hO k h g=J y∧fS (λm q M d=>av n j bl m q M d) Nq Ns (gN cl size i) y [] b (λZ=>False) g) f a):av n j (.comp bl Ns Nq k it cl size) i b f a:=by
 exact c
theorem m4{c:aq→aD→aV→I→Prop}{e:V}{g:List V}(j:kc Nq Ns e i=J h)(k:c h (λs d=>fS c Nq Ns i g (m++[s]) b f d) f a):fS c Nq Ns i (e::g) m b f a:=by
 exact⟨h,j,k⟩
theorem m5(c:eW g b a):fS h Nq Ns i [] g b f a:=c
section
theorem JG:dt u (l+1)=dt u l++[u+1+(l:Int)]:=by
 unfold dt;refine Q (List.range_succ ..) (Q (Rp ..) ?_);rfl
theorem pj:∀(y:List V) (us:Nat) (a:I),bT a2 G B wv zz Fb hn O (g+us) a→0≤g→g+us+y.length<1000000→us+y.length≤1000000→(∀d,bT a2 G B wv zz Fb hn O (g+((us+y.length:Nat):Int)) d→di a2 G B a d→b (.lst ((dt g (us+y.length)).map .int)) d)→
  fS (λk m q d=>av ab (af (T+1)) (.call (.k (.NS (.ref 705))) [.v 3]) k m q d) Qp [1] [U,U,U,J (.ref B)] y ((dt g us).map .int) b M a
 |[],us,a,f,h,c,e,i=>by
  refine m5 (cK (by refine Q (QL ..) (Q (q7 ..) ?_);unfold a4;simpa using e) ?_);exact i a (by simpa using f) ph
 |o::y,us,a,f,h,c,e,i=>by
  rw [Qw]at c e;refine m4 rfl ?_;lk;refine jd f ⟨by exact(aC 12700459896) h,by exact(bx 49321783588503181792080) c⟩ λj al l=>?_;have n:(dt g us).map V.int++[.int (g+(us:Int)+1)]=(dt g (us+1)).map .int:=by
   refine Q (JG ..) (Q (Rp ..) (Q (show g+(us:Int)+1=g+1+(us:Int) by exact(aC 361809396164)) ?_));rfl
  refine Q (n ..) (pj y (us+1) j (by refine Q (show g+((us+1:Nat):Int)=g+(us:Int)+1 by exact(aC 361243087904)) ?_;exact al) h ‹(bx 3234394013889368739410809680) c› ‹(ak 752867121427108140) e› λp r s=>?_);have:=i p;rw [Qw,show us+(y.length+1)=us+1+y.length by exact(ak 3285777439)]at this;exact this r (ct l s)
abbrev pk(a:V)(b c d:Qo)(e:List V)(f:List Int)(g:Int)(rt:Option V):aq:=[J a,J (.ref b),J (.ref c),J (.ref d),J (.lst e),J (.lst (f.map .int)),J (.int g),rt,U,U,U,U,U]
theorem zb{j:List V}{k:List Int}{s:bF}(t:l+6≤T+1):∀(v2:bu),hA cX v2→∀(z:Nat) (b2:Int) (hn:List aW) (O:List (am×V)) (u:Int) (a:I) (rt:Option V),(∀us,us<aQ v2→bW j ((z+us:Nat):Int)=J (.lst (a8 D E (e3 v2 us)))∧bW (k.map V.int) ((z+us:Nat):Int)=J (.int (b2+(us:Int))))→bT a2 G B wv zz Fb hn O u a→fN (c9 v2) (cQ v2) hn O u→gW ho cp v2→il l v2→fs ho cp D E ns sb O→
  (∀d hx rt,bT a2 G B wv zz Fb (hn++ey v2 ns sb b2 Nz u) hx (u+cQ v2) d→di a2 G B a d→ed cp O hx→hx.length≤O.length+c9 v2→s .NX (pk MX a2 G B j k Nz rt) d)→
  c0 ab (af (T+1)) (.name 7) (λM bl cl d=>aw ab (af (T+1)) y2 M bl cl d) (eT (SQ z (aQ v2))) (pk MX a2 G B j k Nz rt) s ML a
 |.nil,m,z,b2,hn,O,u,a,rt,n,f,o,g,p,q,e=>by
  refine gA (e a O _ ?_ ph (λK K=>rfl) (QU _ _));exact sk f
 |.cons b c,m,z,b2,hn,O,u,a,rt,n,f,o,g,p,q,e=>by
  have v:c9 (.cons b c)=ba b+c9 c+2:=rfl;have h:cQ (.cons b c)=aF b+cQ c:=rfl;have L:ey (.cons b c) ns sb b2 Nz u=(b2,.cont)::(b0 b ns sb u++(0,.goto Nz)::ey c ns sb (b2+1) Nz (u+aF b)):=rfl;rw [v]at o e;rw [L,h]at e;refine bE λao N=>bf (d8 b ho cp g.1) λap w aq=>cY o λi x y r=>ar (n 0 (Up _)) λP A=>N ?_;rw [show b2+((0:Nat):Int)=b2 by exact(ay 316448)]at A;have R:aQ (.cons b c)=aQ c+1:=rfl;refine Q (R ..) (Q (S5 ..) ?_);refine iu ?_;lk;refine db f.On ?_;lk;refine cc A ?_;lk;refine dN f (b:=(b2,.cont)) ‹(aE 19687165308611647903709466948) i v› λas al S=>?_;lk;refine cc P ?_;lk;refine m.1.go al ⟨by refine Q (Qr ..) (Q (RQ ..) ?_);exact(au 8350478509244781367620) i,by exact(au 521899424484319236420) x,y,by exact(bM 4811749299256337227837776) r h⟩ g.1 p.1 t q λav W C X F H=>?_;lk;refine db C.On ?_;lk;refine dN C (b:=(0,.goto Nz)) (by simp only [Qr,Qw,Rw,dd];exact(aE 79346600684481548370477257028) i w) λY Z aa=>?_;lk;refine e8 (zb t c m.2 (z+1) (b2+1) _ W (u+aF b) Y (J (.int (z:Int))) (λus ad=>?_) Z ⟨by simp only [Qr,Qw,Rw,dd];exact(aE 82893057375496250666494952225575236) i w,by exact(aE 4941326385612336547999715652) x H,by exact(bM 3802176717512204018188616568) y r h,by exact(bM 19764099394524088293582434640) r h⟩ g.2 p.2 (lP q F) λae ag rt ah ai aj an=>?_)
  ·have:=n (us+1) (TA ad);rw [show z+(us+1)=z+1+us by exact(ak 3285777439)]at this;exact Q (show b2+1+(us:Int)=b2+((us+1:Nat):Int) by exact(aC 280272126944)) this
  ·refine e ae ag rt ?_ (ct (ct (ct S X) aa) ai) (je F aj) ‹(bU 659117845616641307877900) an H›;refine Q (show u+((aF b+cQ c:Nat):Int)=u+(aF b:Int)+(cQ c:Int) by exact(bx 4861222642111520)) ?_;simpa [QW]using ah
theorem m6(a:z<l):bW ((dt u l).map V.int) (z:Int)=J (.int (u+1+(z:Int))):=by
 unfold bW;refine Q (Qt ‹(aN 1418)› ..) (Q (RE ..) (Q (Rb ..) ?_));unfold dt;refine Q (Rb ..) (Q (VV a ..) ?_);rfl
abbrev MG:List N:=[.asg (.name 4) (.Oe (.cmp (.sub (.v 0) (.k (.int 0))) [.Eq] [.k (.str (Y "way"))]) (.sub (.v 0) (.k (.int 3))) (.sub (.v 0) (.k (.int 2)))),.asg (.name 5) (.comp (.call (.k (.NS (.ref 705))) [.v 3]) [1] Qp Qq (.v 4) [(3,3)] 4),.asg (.name 6) (.call (.k (.NS (.ref 705))) [.v 3])]
abbrev zc:List N:=[.fr (.name 7) (.range (.call (.k (.NS (.builtin "len"))) [.v 4])) y2,.expr (.NY (.v 1) (Y "append") [.tup [.v 6,.tup [.k (.str (Y "continue"))]]])]
theorem JH{c:aP→Prop}:∀(v2:bu),hA c v2→∀z,z<aQ v2→c (e3 v2 z)
 |.nil,a,z,b=>(Ss z b).elim
 |.cons e d,a,0,b=>a.1
 |.cons e d,a,z+1,b=>JH d a.2 z (S2 b)
theorem sn{c:bu}(q:hA cX c)(r:bT a2 G B wv zz Fb hn O u a)(s:fN (c9 c+1) (cQ c) hn O u)(e:gW ho cp c)(t:il l c)(v:l+6≤T+1)(w:fs ho cp D E ns sb O)
  (x:∀d hx,bT a2 G B wv zz Fb (hn++(ey c ns sb (g+1) (g+1+aQ c) u++[(g+1+(aQ c:Int),.cont)])) hx (u+cQ c) d→di a2 G B a d→ed cp O hx→hx.length≤O.length+c9 c→b .none d):
  aw ab (af (T+1)) zc (pk MX a2 G B (cU D E c) (dt g (aQ c)) (g+1+aQ c) rt) (λa1 Z h=>b (fC a1) h) (λZ h=>f h) a:=by
 refine cY s λi j k m=>bf (jK c ho cp e) λK n y=>fH (kp ?_);lk;refine(aU (b9 ((cU D E c).length:Int)) (by show(if _ then _ else _)=_;rw [Qt ⟨by exact(aN 1418),by rw [gb];unfold a4;exact(lY 5994434423533462005614540936019201091221111672) k y m j n⟩]) ?_);refine Q (sd ..) (Q (gb ..) ?_);refine zb v c q 0 (g+1) hn O u a rt (λL o=>?_) r ⟨by exact(ak 31854212920627524) i,by exact(ak 31854212920627524) j,k,by exact(aC 509396311782715728) m⟩ e t w λM z rt al A C F=>?_
 ·exact Q (RJ ..) ⟨pe o,m6 o⟩
 ·refine eC ?_;lk;refine db al.On ?_;lk;refine dN al (b:=(g+1+aQ c,.cont)) (by refine Q (Qr ..) (Q (mw ..) ?_);exact(au 1177556833845013893444) i n) λH p I=>?_;lk;refine x H z ?_ (ct A I) C F;rw [QW]at p;exact p
theorem JI{e:Bool}{c:bu}(H:hA cX c)(I:bT a2 G B wv zz Fb hn O u a)(r:fN (cS (.way z e c)) (cs (.way z e c)) hn O u)(n:fl ho cp (.way z e c))(s:f7 l (.way z e c))(A:l+5≤T)(K:fs ho cp D E ns sb O)
  (o:∀d hx,bT a2 G B wv zz Fb (hn++dy (.way z e c) ns sb u) hx (u+cs (.way z e c)) d→di a2 G B a d→ed cp O hx→hx.length≤O.length+cS (.way z e c)→b .none d):
  af T (.NS (.ref 799)) [ea D E (.way z e c),.ref a2,.ref G,.ref B] b f a:=by
 obtain⟨i,rfl⟩:∃i,T=i+2:=⟨T-2,by exact(au 160079424447448683804) A (az _ _)⟩;have t:cS (.way z e c)=c9 c+5:=rfl;have h:cs (.way z e c)=aQ c+1+cQ c:=rfl;have C:dy (.way z e c) ns sb u=(0,.OS (u+1+z))::(0,.OP (if e then dt u (aQ c)else []))::(ey c ns sb (u+1) (u+1+aQ c) (u+1+aQ c)++[(u+1+aQ c,.cont)]):=rfl;rw [t]at r o;rw [C,h]at o;refine cY r λp L q j=>bf (jK c ho cp n.2) λai M aj=>?_;have N:=s.1;refine aZ (i:=[J (.tup [.str (Y "way"),.int z,.int (if e then 1 else 0),.lst (cU D E c)]),J (.ref a2),J (.ref G),J (.ref B),U,U,U,U,U,U,U,U,U]) rz rfl rfl ?_;delta oD;lk;refine jg ?_;lk;refine(aU _ rfl ?_);refine pj (T:=i) (g:=u) (cU D E c) 0 a (by simpa using I) q (by refine Q (gb ..) ?_;exact(bM 465759735838337839117938979152) j h) (by refine Q (gb ..) ?_;exact(bM 261976726415952336246156362616) q j h) λam al P=>?_;rw [gb,RJ]at al⊢;lk;refine jd al ⟨by exact(aC 12700459896) q,by exact(bM 113709110559996826629697872) j h⟩ λan v R=>?_;rw [show u+(aQ c:Int)+1=u+1+(aQ c:Int) by exact(aC 361809396164)]at v⊢;lk;refine db v.On ?_;lk;refine cc (m6 n.1) ?_;lk;refine dN v (b:=(0,.OS (u+1+z))) ‹(au 293362609223309857092) p M› λS w V=>?_;have F:∀x,x=pk (.tup [.str (Y "way"),.int z,.int (if e then 1 else 0),.lst (cU D E c)]) a2 G B (cU D E c) (dt u (aQ c)) (u+1+aQ c) U→∀g,bT a2 G B wv zz Fb (hn++[(0,.OS (u+1+z))]++[(0,.OP (if e then dt u (aQ c)else []))]) O (u+1+aQ c) g→di a2 G B S g→aw ab (af (i+1)) zc x (λa1 W y=>b (fC a1) y) (λW y=>f y) g:=by
  intro x X g k m;subst X;refine sn (T:=i) (l:=l-2) H k ⟨by simp only [Qr,Qw,Rw];exact(ak 547418722566753949396635972) p,by exact(ak 32627962720986992964) L,by exact(aC 203520320376) q,by exact(bM 5059609458387745894111538049360) j h⟩ n.2 s.2 ‹(au 14301342793080591288021694813116) N A (az _ _)› K λZ aa ad ae ag ah=>o Z aa ?_ (ct (ct (ct (ct P R) V) m) ae) ag ‹(au 1102619451105804) ah›;refine Q (show u+((aQ c+1+cQ c:Nat):Int)=u+1+(aQ c:Int)+(cQ c:Int) by exact(bx 1244475473677636640)) ?_;simpa [QW]using ad
 lk;refine db w.On ?_;lk;clear r n s o h C j;induction e using Qz with
 |true=>
  refine gz (by rfl) ?_;lk;exact dN w (b:=(0,.OP (dt u (aQ c)))) (by simp only [Qr,Qw,Rw];exact(au 1237402028037417139122868548) p t) λg k m=>dg (F _ rfl g k m)
 |false=>
  refine dK (by rfl) (cJ (cH (cK (by unfold a4;simp) ?_)));lk;exact dN w (b:=(0,.OP [])) (by simp only [Qr,Qw,Rw];exact(au 1237402028037417139122868548) p t) λg k m=>dg (F _ rfl g k m)
theorem JJ{e:Nat}{c:bu}{g:aP}(v:hA cX c)(w:bT a2 G B wv zz Fb hn O u a)(q:fN (cS (.sign e c g)) (cs (.sign e c g)) hn O u)(i:fl ho cp (.sign e c g))(r:f7 l (.sign e c g))(s:l+5≤T)(x:fs ho cp D E ns sb O)
  (m:∀d hx,bT a2 G B wv zz Fb (hn++dy (.sign e c g) ns sb u) hx (u+cs (.sign e c g)) d→di a2 G B a d→ed cp O hx→hx.length≤O.length+cS (.sign e c g)→b .none d):
  af T (.NS (.ref 799)) [ea D E (.sign e c g),.ref a2,.ref G,.ref B] b f a:=by
 obtain⟨j,rfl⟩:∃j,T=j+2:=⟨T-2,by exact(au 160079424447448683804) s (az _ _)⟩;have y:cS (.sign e c g)=c9 c+5:=rfl;have k:cs (.sign e c g)=aQ c+1+cQ c:=rfl;have z:dy (.sign e c g) ns sb u=(0,.OT e (u+1) (u+2) (u+3))::(ey c ns sb (u+1) (u+1+aQ c) (u+1+aQ c)++[(u+1+aQ c,.cont)]):=rfl;rw [y]at q m;rw [z,k]at m;refine cY q λt A n o=>bf (jK c ho cp i.2.2.1) λab C F=>?_;have H:=r.1;have h:=i.2.1;have I:=m6 (u:=u) (l:=aQ c) (z:=0) ‹(aN 177064788) h›;have K:=m6 (u:=u) (l:=aQ c) (z:=1) ‹(aN 318622548) h›;have L:=m6 (u:=u) (l:=aQ c) (z:=2) ‹(aN 998099796) h›;refine aZ (i:=[J (.tup [.str (Y "sign"),.int e,.lst (cU D E c),.lst (a8 D E g)]),J (.ref a2),J (.ref G),J (.ref B),U,U,U,U,U,U,U,U,U]) rz rfl rfl ?_;delta oD;lk;refine jg ?_;lk;refine(aU _ rfl ?_);refine pj (T:=j) (g:=u) (cU D E c) 0 a (by simpa using w) n (by refine Q (gb ..) ?_;exact(bM 1098865081723740493072868496356143440) o k h) (by refine Q (gb ..) ?_;exact(aN 11483224591188) h) λad al M=>?_;rw [gb,RJ]at al⊢;lk;refine jd al ⟨by exact(aC 29964146470503288) n h,by exact(bM 268273449001140866351674269364560) o k h⟩ λae p N=>?_;rw [show u+(aQ c:Int)+1=u+1+(aQ c:Int) by exact(aC 361809396164)]at p⊢;lk;refine db p.On ?_;lk;refine jX i.1 ?_;lk;refine cc I ?_;lk;refine cc K ?_;lk;refine cc L (Q (show u+1+((0:Nat):Int)=u+1 by exact(ay 67978208)) (Q (show u+1+((1:Nat):Int)=u+2 by exact(ay 6564692960)) (Q (show u+1+((2:Nat):Int)=u+3 by exact(ay 625750918112)) ?_)));lk;refine dN p (b:=(0,.OT e (u+1) (u+2) (u+3))) ‹(bU 6738772628301546359698346532196491564) F t h C› λag P R=>dg (dg ?_);refine sn (T:=j) (l:=l-2) (g:=u) (rt:=U) v P ⟨by simp only [Qr,Qw,Rw];exact(ak 133647137323920192835908) t,by exact(ak 32627962720986992964) A,by exact(aC 480164680021525368) n h,by exact(bM 11937116356735668719587046808301597008) o k h⟩ i.2.2.1 r.2.1 ‹(au 14301342793080591288021694813116) H s (az _ _)› x λS V W X Z aa=>m S V ?_ (ct (ct (ct M N) R) X) Z ‹(au 1102619451105804) aa›;refine Q (show u+((aQ c+1+cQ c:Nat):Int)=u+1+(aQ c:Int)+(cQ c:Int) by exact(bx 1244475473677636640)) ?_;simpa [QW]using W
theorem JK{g:Nat}{c:bu}{e:aP}(F:hA cX c)(H:cX e)(I:bT a2 G B wv zz Fb hn O u a)(v:fN (cS (.sw g c e)) (cs (.sw g c e)) hn O u)(i:fl ho cp (.sw g c e))(o:f7 l (.sw g c e))(p:l+5≤T)(w:fs ho cp D E ns sb O)
  (q:∀d hx,bT a2 G B wv zz Fb (hn++dy (.sw g c e) ns sb u) hx (u+cs (.sw g c e)) d→di a2 G B a d→ed cp O hx→hx.length≤O.length+cS (.sw g c e)→b .none d):
  af T (.NS (.ref 799)) [ea D E (.sw g c e),.ref a2,.ref G,.ref B] b f a:=by
 obtain⟨m,rfl⟩:∃m,T=m+2:=⟨T-2,by exact(au 160079424447448683804) p (az _ _)⟩;have K:cS (.sw g c e)=c9 c+ba e+5:=rfl;have h:cs (.sw g c e)=aQ c+1+aF e+cQ c:=rfl;have L:dy (.sw g c e) ns sb u=(0,.OU (dt u (aQ c)) g)::(b0 e ns sb (u+1+aQ c)++(0,.goto (u+1+aQ c))::(ey c ns sb (u+1) (u+1+aQ c) (u+1+aQ c+aF e)++[(u+1+aQ c,.cont)])):=rfl;rw [K]at v q;rw [L,h]at q;refine bE λak M=>cY v λn x j k=>bf (jK c ho cp i.2.1) λr N P=>bf (d8 e ho cp i.2.2) λam s R=>M ?_;have y:=o.1;refine aZ (i:=[J (.tup [.str (Y "switch"),.int g,.lst (cU D E c),.lst (a8 D E e)]),J (.ref a2),J (.ref G),J (.ref B),U,U,U,U,U,U,U,U,U]) rz rfl rfl ?_;delta oD;lk;refine jg ?_;lk;refine(aU _ rfl ?_);refine pj (T:=m) (g:=u) (cU D E c) 0 a (by simpa using I) j (by refine Q (gb ..) ?_;exact(gH 119234492374711903812794862268752) k h) (by refine Q (gb ..) ?_;exact(gH 67066045553664034560971674289016) j k h) λan al S=>?_;rw [gb,RJ]at al⊢;lk;refine jd al ⟨by exact(aC 12700459896) j,by exact(gH 29109532400776186219686261072) k h⟩ λao t V=>?_;rw [show u+(aQ c:Int)+1=u+1+(aQ c:Int) by exact(aC 361809396164)]at t⊢;lk;refine db t.On ?_;lk;refine jX i.1 ?_;lk;refine dN t (b:=(0,.OU (dt u (aQ c)) g)) ‹(l3 10310318545655503926195387365086227403903248342866352176800044) P n h R N s› λap W X=>?_;lk;refine H.go W ⟨by simp only [Qr,Qw,Rw];exact(aE 79052831710315193497935089988) n r,by exact(aE 19293091256914609753755972) x r,by exact(aC 203520320376) j,by exact(gH 1295260021347360365891156224242000) k h⟩ i.2.2 o.2.2 ‹(au 14301342793080591288021694813116) y p (az _ _)› w λaq ar z Z A C=>?_;lk;refine db z.On ?_;lk;refine dN z (b:=(0,.goto (u+1+aQ c))) (by simp only [Qr,Qw,Rw,dd];exact(bU 2925033087636090979617144989749572) n s r) λas aa ab=>dg (dg ?_);refine sn (T:=m) (l:=l-2) (g:=u) (rt:=U) F aa ⟨by simp only [Qr,Qw,Rw,dd];exact(aE 1322519388871830128821334892026990916) n s,by exact(aE 78828813808831866177103270212) x C,by exact(bx 2734443181745016) j,by exact(gH 5325157390972558228608664609622323536) k h⟩ i.2.1 o.2.1 ‹(au 14301342793080591288021694813116) y p (az _ _)› (lP w A) λad ae ag ah ai aj=>q ad ae ?_ (ct (ct (ct (ct (ct S V) X) Z) ab) ah) (je A ai) ‹(bU 2801780956754300566282764) aj C›;refine Q (show u+((aQ c+1+aF e+cQ c:Nat):Int)=u+1+(aQ c:Int)+(aF e:Int)+(cQ c:Int) by exact(bM 4028553614946138802738208)) ?_;simpa [QW]using ag
end
theorem JL{g:cf}{a:aP}{b:cr}{c:aP}(h:cX a)(i:m3 cX b)(j:cX c):gd (.cond g a b M4 c):=by
 constructor;intro T H I K d e L M k l m N P Q R O S n o p q r s t u v w x y f;have z:=λ(A:aD) (B:aV) f=>JB (b:=A) (f:=B) h i j t u v w x y f;show aw ab (af T) gE (gc q (.tup [.str (Y "if"),.lst (.tup [cW g,.lst (a8 d e a)]::hy d e b),if M4 then .lst (a8 d e c)else .none]) k l m r s) o p n;lk;refine z _ _ λC D al E F G=>?_;lk;exact f C D _ _ al E F G
theorem JM{c:Bool}{a:bu}(d:hA cX a):gd (.way z c a):=by
 constructor;intro T E F G e f H I g h i K L M N O P j k l m n o p q r s t u b;have v:=λ(w:aD) (x:aV) b=>JI (b:=w) (f:=x) d p q r s t u b;show aw ab (af T) gE (gc m (.tup [.str (Y "way"),.int z,.int (if c then 1 else 0),.lst (cU e f a)]) g h i n o) k l j;lk;refine v _ _ λy A al B C D=>?_;lk;exact b y A _ _ al B C D
theorem JN{c:Nat}{a:bu}{d:aP}(g:hA cX a):gd (.sign c a d):=by
 constructor;intro T E F G e f H I h i j K L M N O P k l m n o p q r s t u v b;have w:=λ(x:aD) (y:aV) b=>JJ (b:=x) (f:=y) g q r s t u v b;show aw ab (af T) gE (gc n (.tup [.str (Y "sign"),.int c,.lst (cU e f a),.lst (a8 e f d)]) h i j o p) l m k;lk;refine w _ _ λz A al B C D=>?_;lk;exact b z A _ _ al B C D
theorem JO{d:Nat}{a:bu}{b:aP}(g:hA cX a)(h:cX b):gd (.sw d a b):=by
 constructor;intro T F G H e f I K i j k L M N P O Q l m n o p q r s t u v w c;have x:=λ(y:aD) (z:aV) c=>JK (b:=y) (f:=z) g h r s t u v w c;show aw ab (af T) gE (gc o (.tup [.str (Y "switch"),.int d,.lst (cU e f a),.lst (a8 e f b)]) i j k p q) m n l;lk;refine x _ _ λA B al C D E=>?_;lk;exact c A B _ _ al C D E
theorem JP{b:Nat}{c d:Int}(e:cX cn):gd (.loop l2 b c d bd cn ca):=by
 constructor;intro T C D E F G H I f g h K L M N O P i j k l m n o p q r s t a;have u:=λ(v:aD) (w:aV) a=>JD (b:=v) (f:=w) e o p q r s t a;show aw ab (af T) gE (gc l (fa l2 b c d bd (a8 l2 l2 cn) ca .none) f g h m n) j k i;lk;refine u _ _ λx y al z A B=>?_;lk;exact a x y _ _ al z A B
theorem JQ{b:Nat}{c d:Int}{e:Int}(f:cX cn)(g:cX MM):gd (.pair l2 b c d bd cn MS h e MP MM ca):=by
 constructor;intro T F G H I K L M i j k N P Q R O S l m n o p q r s t u v w a;have x:=λ(y:aD) (z:aV) a=>JF (b:=y) (f:=z) f g r s t u v w a;show aw ab (af T) gE (gc o (fa l2 b c d bd (a8 l2 l2 cn) U (fa MS h e MP 1 (a8 l2 MS MM) ca .none)) i j k p q) m n l;lk;refine x _ _ λA B al C D E=>?_;lk;exact a A B _ _ al C D E
mutual
theorem JR:∀v:c7,gd v
 |.plain v=>Jx v
 |.exit a=>Jy a
 |.N0 a=>Jz a
 |.fin a=>JA a
 |.cond _ e f _ c=>JL (jf _ (iz e)) (zd f) (jf _ (iz c))
 |.way _ _ b=>JM (pm b)
 |.sign _ b _=>JN (pm b)
 |.sw _ b c=>JO (pm b) (jf _ (iz c))
 |.loop _ _ _ _ _ d _=>JP (jf _ (iz d))
 |.pair _ _ _ _ _ d _ _ _ _ g _=>JQ (jf _ (iz d)) (jf _ (iz g))
theorem iz:∀r:aP,kQ gd r
 |.nil=>trivial
 |.cons a b=>⟨JR a,iz b⟩
theorem zd:∀A:cr,m3 cX A
 |.nil=>trivial
 |.cons _ a A=>⟨jf _ (iz a),zd A⟩
theorem pm:∀A:bu,hA cX A
 |.nil=>trivial
 |.cons a A=>⟨jf _ (iz a),pm A⟩
end
theorem JS(a:aP):cX a:=jf a (iz a)
def cy(a:Qo)(b:List Int)(c d e:Int)(f:I):Prop:=f a=J (.list [.lst (b.map .int),.int c,.int d,.int e])
def ai(a:Qo)(b c:I):Prop:=∀o,o≠a→c o=b o
theorem pn:ai B a a:=λb b=>rfl
theorem so:ai B a (a.set B as):=λc b=>a0 b
theorem bP(d:ai B a M8)(e:ai B M8 Nl):ai B a Nl:=λb c=>(e b c).trans (d b c)
section
variable{e MW ao:Int}
theorem dq{h:Int}(j:cy B F0 e MW ao a)(g:0≤e∧e<1000000)(i:0<h∧h≤100)(m:∀A d,0≤A→A<h→cy B F0 (e+1) MW ao d→ai B a d→b (.int A) d):af (T+2) (.NS (.ref 698)) [.ref B,.int h] b f a:=by
 refine aZ (i:=[J (.ref B),J (.int h),U,U]) Gi rfl rfl ?_;delta xw;obtain⟨c,n⟩:∃c:Nat,e=(c:Int):=⟨e.toNat,by exact(aC 3475462492461199490914762275629544) g (cz _)⟩;subst n;have t:cA ((c:Int)*c):=by
  have o:(0:Int)≤(c:Int)*c:=Ts ‹(aN 31574079842754024) g› ‹(aN 31574079842754024) g›;have p:(c:Int)*c≤1000000*1000000:=Int.mul_le_mul ‹(aN 6773360467435003368) g› ‹(aN 6773360467435003368) g› ‹(aN 31574079842754024) g› ‹(aH 19082)›;unfold cA;exact(ay 229161927067781775231910776) o p
 lk;refine c6 j rfl ?_;lk;refine ip (M6:=[.lst (F0.map .int),.int ((c:Int)+1),.int MW,.int ao]) j rfl ?_;have al:cy B F0 ((c:Int)+1) MW ao (a.set B (.list [.lst (F0.map .int),.int ((c:Int)+1),.int MW,.int ao])):=bJ;generalize q:a.set B (.list [.lst (F0.map .int),.int ((c:Int)+1),.int MW,.int ao])=M8 at al;have r:ai B a M8:=by refine Q (Rj (q ..)) ?_;exact so
 have k:∀l:Int,b (.int (l%h)) M8:=λl=>m _ M8 (Int.emod_nonneg _ ‹(ay 1211461984430856) i›) (Int.emod_lt_of_pos _ i.1) al r;have u:((F0.map V.int).length:Int)=(F0.length:Int):=by exact Q (QL ..) rfl
 have v:0≤(c:Int)*c/3:=UI (Ts ‹(aN 31574079842754024) g› ‹(aN 31574079842754024) g›) ‹(aH 9866)›;have w:(c:Int)*c/3≤(c:Int)*c:=Int.ediv_le_self _ (Ts ‹(aN 31574079842754024) g› ‹(aN 31574079842754024) g›);by_cases s:c<F0.length
 ·lk;refine c6 al rfl ?_;lk;refine c6 al rfl ?_;lk;refine cc (yy s) ?_;lk;exact x7 i.1 (k _)
 ·lk;refine c6 al rfl ?_;lk;refine x6 (by unfold cA;exact(aH 10543090644845334)) ?_;lk;refine x6 (by unfold cA;exact(aN 14666681788703887068965838312) g) ?_;lk;exact x7 i.1 (k _)
theorem ze(c:cy B F0 e MW ao a)(h:0≤ao∧ao<1000000)(g:∀d,cy B F0 e MW (ao+1) d→ai B a d→b (.int (ao+1)) d):af (T+1) (.NS (.ref 705)) [.ref B] b f a:=by
 refine aZ (i:=[J (.ref B)]) xx rfl rfl ?_;delta rv;lk;refine c6 c rfl ?_;lk;refine ip (M6:=[.lst (F0.map .int),.int e,.int MW,.int (ao+1)]) c rfl ?_;have al:cy B F0 e MW (ao+1) (a.set B (.list [.lst (F0.map .int),.int e,.int MW,.int (ao+1)])):=bJ;lk;exact c6 al rfl (g _ al so)
theorem g5(r:cy B F0 e MW ao a)(c:0≤e∧e+4<1000000)(s:∀kw d,iZ kw→cy B F0 (e+4) MW ao d→ai B a d→b (iw kw) d):af (T+3) (.NS (.ref 712)) [.ref B] b f a:=by
 refine aZ (i:=[J (.ref B),U]) Gj rfl rfl ?_;delta xy;lk;refine dq r ‹(ay 62418835556901170981352) c› ‹(aH 4726986493590)› λg H l m al t=>?_;lk;refine dq al ‹(ay 15979202623236680466049512) c› ‹(aH 4726533471894)› λh I u v w x=>?_;lk;refine dq w ‹(ay 4090675606034950553521629672) c› ‹(aH 4729251602070)› λi K n bq y z=>?_;lk;refine dq y ‹(ay 1047212950939684748032040249832) c› ‹(aH 4735140884118)› λk A o p q C=>?_;lk;have D:e+1+1+1+1=e+4:=by exact(ay 16219635716)
 rw [D]at q;have:=s ⟨g.toNat,decide (h=1),i.toNat,k-4⟩ A ⟨by show g.toNat<6;exact(aC 64646577632392308544607947036754808) l m (cz _),by show i.toNat<6;exact(aC 64646577632392308544607953831527288) n bq (cz _),by show-4≤k-4;exact(ay 363590298427615544184) o p,by show k-4≤4;exact(ay 22730467129026085752) o p⟩ q (bP (bP (bP t x) z) C);unfold iw at this;have E:((g.toNat:Nat):Int)=g:=by exact(aC 237399850092036049010232805491576) l m (cz _)
 have F:((i.toNat:Nat):Int)=i:=by exact(aC 237399850092036049010239600264056) n bq (cz _)
 have G:(if decide (h=1)=Qp then(1:Int)else 0)=h:=by
  by_cases j:h=1
  ·exact Q (QD j ..) (Q (Qt rfl ..) (Q (j ..) rfl))
  ·refine Q (Qx j ..) (Q (Qs (by simp) ..) ?_);exact(ay 3104489410625471352) u v j
 simp only [E,G,F]at this;exact this
theorem JT{a:Int}(h:0≤a∧a<6):∃as:fZ,bW [.str (Y "lt"),.str (Y "le"),.str (Y "eq"),.str (Y "ne"),.str (Y "gt"),.str (Y "ge")] a=J (.str (Y (bR as))):=by
 have:a=0∨a=1∨a=2∨a=3∨a=4∨a=5:=by exact(ay 43820768604077497426499016317133513678334440) h
 rcases this with h|h|h|h|h|h<;>subst h
 ·exact⟨.lt,rfl⟩
 ·exact⟨.le,rfl⟩
 ·exact⟨.eq,rfl⟩
 ·exact⟨.ne,rfl⟩
 ·exact⟨.gt,rfl⟩
 ·exact⟨.ge,rfl⟩
theorem kR(n:cy B F0 e MW ao a)(g:0≤e∧e+3<1000000)(o:∀j d,eQ j→cy B F0 (e+3) MW ao d→ai B a d→b (cW j) d):af (T+3) (.NS (.ref 719)) [.ref B] b f a:=by
 refine aZ (i:=[J (.ref B),U]) Gk rfl rfl ?_;delta xz;lk;refine cJ ?_;lk;refine cK (by show(6:Nat)≤1000000;exact(aH 1218085)) ?_;lk;refine dq n ‹(ay 62418835556898453072360) g› ‹(aH 4729251602070)› λA C p q al r=>bY (JT ⟨p,q⟩) λs t=>cc t ?_;lk;refine dq al ‹(ay 15979202623236677748140520) g› ‹(aH 4729251602070)› λc D i k u v=>?_;lk;refine dq u ‹(ay 4090675606034950550803720680) g› ‹(aH 4730610667158)› λh w l bq m x=>?_;lk;have y:e+1+1+1=e+3:=by exact(ay 611074052)
 rw [y]at m;have:=o ⟨s,c.toNat,h-3⟩ w ⟨by show c.toNat<6;exact(aC 64646577632392308544607953831527288) i k (cz _),by show-3≤h-3;exact(ay 223509801241642992504) l bq,by show h-3≤3;exact(ay 13966919637410710392) l bq⟩ m (bP (bP r v) x);unfold cW at this;have z:((c.toNat:Nat):Int)=c:=by exact(aC 237399850092036049010239600264056) i k (cz _)
 simp only [z]at this;exact this
theorem zf(o:cy B F0 e MW ao a)(c:0≤e∧e+8<1000000)(g:∀ca h d,jH ca→e≤h→h≤e+8→cy B F0 h MW ao d→ai B a d→b (jU ca) d):af (T+4) (.NS (.ref 726)) [.ref B] b f a:=by
 refine aZ (i:=[J (.ref B),U,U,U,U]) Gl rfl rfl ?_;delta xA;lk;refine dq o ‹(ay 62418835556903888890344) c› ‹(aH 4726986493590)› λm p v w al i=>?_;by_cases x:m=0
 ·lk;exact g U _ p trivial ‹(ay 962)› ‹(ay 5532734)› al i
 ·by_cases y:m=1
  ·lk;exact g5 al ‹(ay 16372225831512087256299219432) c› λj n bm k l=>g (J (.set j)) _ n bm ‹(ay 3949250)› ‹(ay 5665702958)› k (bP i l)
  ·lk;refine kR al ‹(ay 16367061923763069299258042856) c› λq n r k l=>?_;lk;refine g5 k ‹(ay 17167591858180018171063744458926568) c› λj s bm t u=>?_;lk;exact g (J (.OC q j)) _ s ⟨r,bm⟩ ‹(ay 4064555714)› ‹(ay 5801681109806)› t (bP (bP i l) u)
end
noncomputable def hB:aP→aP→aP
 |.nil,j=>j
 |.cons v A,j=>.cons v (hB A j)
theorem zg:∀e r:aP,a8 D E (hB e r)=a8 D E e++a8 D E r
 |.nil,r=>rfl
 |.cons b a,r=>by
  show ea D E b::a8 D E (hB a r)=ea D E b::(a8 D E a++a8 D E r);rw [zg a r]
theorem zh:∀e r:aP,cD ho cp e→cD ho cp r→cD ho cp (hB e r)
 |.nil,r,_,a=>a
 |.cons d c,r,b,a=>⟨b.1,zh c r b.2 a⟩
theorem zi:∀e r:aP,cT l e→cT l r→cT l (hB e r)
 |.nil,r,_,a=>a
 |.cons d c,r,b,a=>⟨b.1,zi c r b.2 a⟩
theorem zj:∀e r:aP,ba (hB e r)=ba e+ba r
 |.nil,r=>by show ba r=0+ba r;exact(aN 18823)
 |.cons b a,r=>by
  show cS b+ba (hB a r)=cS b+ba a+ba r;rw [zj a r];exact(au 3350505510943)
def cO:Nat→Nat
 |0=>3455
 |1=>287
 |2=>23
 |_=>1
def cd:Nat→Nat
 |0=>16964
 |1=>1412
 |2=>116
 |_=>8
def bO:Nat→Nat
 |0=>314
 |1=>26
 |2=>2
 |_=>0
def jY(ho:Bool)(D E:Int):V:=.lst (if ho=Qp then [.tup [.int D,.int E]]else [])
structure sp(C:Nat):Prop where
 go:∀{T:Nat}{ho:Bool}{cp D E:Int}{F0:List Int}{e MW ao:Int}{B:Addr}{a:I}{b:aD}{f:aV},cy B F0 e MW ao a→0≤e→e+cd C<900000→0≤ao→ao+bO C<900000→0≤MW∧MW≤9→cp≤ao→3*(3-C)+7≤T→
  (∀v a' lf' fr' d,fl ho cp v→f7 (2*(3-C)) v→cS v≤cO C→cy B F0 a' lf' fr' d→e≤a'→a'≤e+cd C→0≤lf'∧lf'≤9→ao≤fr'→fr'≤ao+bO C→ai B a d→b (ea D E v) d)→af T (.NS (.ref 738)) [.ref B,.int C,jY ho D E] b f a
structure gF(C:Nat):Prop where
 go:∀{T cA:Nat}{ho:Bool}{cp D E:Int}{F0:List Int}{e MW ao:Int}{B:Addr}{a:I}{b:aD}{f:aV},cy B F0 e MW ao a→1≤cA→cA≤4→0≤e→e+(1+4*cd C)<900000→0≤ao→ao+4*bO C<900000→0≤MW∧MW≤9→cp≤ao→3*(3-C)+8≤T→
  (∀r a' lf' fr' d,cD ho cp r→cT (2*(3-C)) r→ba r≤cA*cO C→cy B F0 a' lf' fr' d→e≤a'→a'≤e+(1+cA*cd C:Nat)→0≤lf'∧lf'≤9→ao≤fr'→fr'≤ao+(cA*bO C:Nat)→ai B a d→b (.lst (a8 D E r)) d)→af T (.NS (.ref 745)) [.ref B,.int C,jY ho D E,.int cA] b f a
abbrev JU:List N:=[.iff (.cmp (.sub (.v 0) (.k (.int 2))) [.Gt] [.k (.int 0)]) [.asg (.item (.v 0) (.k (.int 2))) (.bin .sub (.sub (.v 0) (.k (.int 2))) (.k (.int 1))),.expr (.NY (.v 4) (Y "append") [.call (.k (.NS (.ref 738))) [.v 0,.v 1,.v 2]])] []]
def JV(a b:Qo)(c d:I):Prop:=∀o,o≠a→o≠b→d o=c o
theorem JW{Z:bF}{aa:V}(as:sp C)(z:B≠q)(av:3*(3-C)+7≤T+1):∀(y:List V) (g:aP) (e MW ao:Int) (a:I) (c2:Option V),cy B F0 e MW ao a→a q=J (.list (a8 D E g))→0≤e→e+(y.length*cd C:Nat)<900000→0≤ao→ao+(y.length*bO C:Nat)<900000→0≤MW∧MW≤9→cp≤ao→cD ho cp g→cT (2*(3-C)) g→(a8 D E g).length+y.length≤10→
  (∀r h k m d c2,cD ho cp r→cT (2*(3-C)) r→ba r≤ba g+y.length*cO C→cy B F0 h k m d→d q=J (.list (a8 D E r))→e≤h→h≤e+(y.length*cd C:Nat)→0≤k∧k≤9→ao≤m→m≤ao+(y.length*bO C:Nat)→JV B q a d→Z .NX [J (.ref B),J (.int C),J (jY ho D E),J aa,J (.ref q),c2,U,U,U] d)→
  c0 ab (af (T+1)) (.name 5) (λbl cl fw d=>aw ab (af (T+1)) JU bl cl fw d) y [J (.ref B),J (.int C),J (jY ho D E),J aa,J (.ref q),c2,U,U,U] Z ML a:=by
 intro y;induction y with
 |nil=>
  intro g e MW ao a c2 b p s l t n u v w x o c;exact gA (c g e MW ao a c2 w x (QU _ _) b p (QK _) ‹(aC 344450)› u (QK _) ‹(aC 344450)› (λad ad ad=>rfl))
 |cons A y ae=>
  intro g e MW ao a c2 b p s l t n u v w x o c;have i:(A::y).length*cd C=y.length*cd C+cd C:=R0 _ _;have j:(A::y).length*bO C=y.length*bO C+bO C:=R0 _ _;have ax:(A::y).length*cO C=y.length*cO C+cO C:=R0 _ _;rw [i]at l c;rw [j]at n c;rw [ax]at c;rw [Qw]at o;refine iu ?_;by_cases az:MW>0
  ·lk;refine c6 b rfl ?_;lk;refine c6 b rfl ?_;lk;refine ip (M6:=[.lst (F0.map .int),.int e,.int (MW-1),.int ao]) b rfl ?_;have al:cy B F0 e (MW-1) ao (a.set B (.list [.lst (F0.map .int),.int e,.int (MW-1),.int ao])):=bJ;have F:(a.set B (.list [.lst (F0.map .int),.int e,.int (MW-1),.int ao])) q=J (.list (a8 D E g)):=by rw [a0 z.symm];exact p
   generalize aA:a.set B (.list [.lst (F0.map .int),.int e,.int (MW-1),.int ao])=M8 at al F;have aB:ai B a M8:=by rw [←aA];exact so
   lk;refine db F ?_;lk;refine as.go (T:=T+1) al s ‹(bM 1231807816142350567223980368) l i› t ‹(bM 1231807816142350567223980368) n j› ‹(ay 505190622825471030704906021352) u az› v av λf h k m ag aD aF aG ah aj am aH G an ap=>?_;have sq:ag q=J (.list (a8 D E g)):=(ap q z.symm).trans F;have aO:cy B F0 h k m ag:=ah;lk;refine kE sq (by unfold a4;exact(ak 183718295359788) o) ?_;lk;refine e8 ?_;have aq:a8 D E g++[ea D E f]=a8 D E (hB g (.cons f .nil)):=by rw [zg];rfl
   have aI:ba (hB g (.cons f .nil))=ba g+cS f:=by rw [zj];show ba g+(cS f+0)=_;exact(ak 12986428447)
   have aJ:(a8 D E (hB g (.cons f .nil))).length=(a8 D E g).length+1:=by rw [←aq];simp
   rw [aq];refine ae (hB g (.cons f .nil)) h k m _ _ (show cy B F0 h k m _ by unfold cy;rw [a0 z];exact ah) bJ ‹(ck 361567716216) s aj› ‹(dk 185824157164010885091029168659231056) l i am› ‹(ck 361567716216) t G› ‹(dk 185824157164010885091029168659231056) n j an› aH ‹(b6 328889108760) G v› (zh _ _ w ⟨aD,trivial⟩) (zi _ _ x ⟨aF,trivial⟩) ‹(au 63618333224219988185388) o aJ› λr aK aL aM aN c2 H K L M N O P Q R S W=>c r aK aL aM aN c2 H K ‹(eH 61972243554140544453375730260) aI L aG› M N ‹(b6 328889108760) O aj› ‹(gG 176394544957850912348192802906708) i P am› Q ‹(b6 328889108760) R G› ‹(gG 176394544957850912348192802906708) j S an› λX Y ar=>?_;rw [W X Y ar,a0 ar,ap X Y,aB X Y]
  ·lk;refine c6 b rfl ?_;lk;exact e8 (ae g e MW ao a _ b p s ‹(bM 1230660281087013243437052240) l i› t ‹(bM 1230660281087013243437052240) n j› u v w x ‹(ak 107852438815101228) o› λr h k m d c2 H K L M N O P Q R S W=>c r h k m d c2 H K ‹(aE 980625200030220) L› M N O ‹(dk 1168201777516301905076820) i P› Q R ‹(dk 1168201777516301905076820) j S› W)
theorem po(A:sp C):gF C:=by
 constructor;intro T cA d B l m D n o ao i E aj am e j c p q F G H I r K;obtain⟨s,rfl⟩:∃s,T=s+3:=⟨T-3,by exact(aE 9574025429428206201496810512156) r (az _ _) (az _ _)⟩;have L:cA*cd C≤4*cd C:=QY _ c;have M:cA*bO C≤4*bO C:=QY _ c;refine aZ (i:=[J (.ref i),J (.int C),J (jY d l m),J (.int cA),U,U,U,U,U]) Go rfl rfl ?_;delta xD;refine kD (cJ (cH (jM (by unfold a4;simp) λf t=>?_)));have g:i≠f:=λb=>by unfold cy at e;rw [b,t]at e;exact ag e
 have N:cy i D n o ao (E.set f (.list [])):=by unfold cy;rw [a0 g];exact e
 refine fH (kp ?_);lk;refine dq N ‹(aC 65450892909994860426005644152) p q› ‹(aN 25691576360832366724668) j c› λa O u v al w=>?_;lk;refine(aU (b9 (1+a)) (by show(if _ then _ else _)=_;rw [Qt ⟨by exact(ay 1262592888) u,by unfold a4;exact(aC 4011719655968786059298364) j v c⟩]) ?_);have x:(b9 (1+a)).length=(1+a).toNat:=by simp [b9]
 have h:(b9 (1+a)).length≤cA:=by rw [x];exact(bx 144235833288146350739373115525626004344) u v (cz _)
 have y:(b9 (1+a)).length*cd C≤cA*cd C:=QY _ h;have z:(b9 (1+a)).length*bO C≤cA*bO C:=QY _ h;have P:(b9 (1+a)).length*cO C≤cA*cO C:=QY _ h;refine JW (cp:=B) (D:=l) (E:=m) A g ‹(ak 2718802350713534903181084) r› (b9 (1+a)) .nil (n+1) o ao O U al ((w f g.symm).trans bJ) ‹(ay 38118264) p› ‹(bM 2984266991405724233432301738406453584) q L y› F ‹(bM 728580344709771436986672634700112) G M z› H I trivial trivial (by show 0+_≤10;exact(au 1319235141705053515362092604) j x c h) ?_;intro Q R S V an ap W X Y Z aa ab ad ae af ah ai;refine eC (qx (rP rfl aa ?_));refine K Q R S V _ W X (by have:ba aP.nil=0:=rfl;exact(aE 19872082916925765204) this Y P) (by unfold cy;rw [iv g];exact Z) ‹(ck 114463464) ab› ‹(ff 30428302398179705086488) ad y› ae af ‹(ff 6311903117046686232) ah z› λk d=>?_;by_cases b:k=f
 ·rw [b,t];exact Qt rfl
 ·rw [iv b,ai k d b,w k d,a0 b]
theorem JX{a:Int}(b:0≤a∧a<9):∃x:Int,bW [V.int 1,.int 1,.int 2,.int (-1),.int 1,.int (-2),.int 3,.int 1,.int 0] a=J (.int x)∧-2≤x∧x≤3:=by
 refine(Vh b.1).elim λT c=>?_;have d:T<9:=TN.mp (c▸b.2);refine⟨([1,1,2,-1,1,-2,3,1,0]:List Int).getD T 0,?_,(by decide:∀T,T<9→(-2:Int)≤([1,1,2,-1,1,-2,3,1,0]:List Int).getD T 0∧([1,1,2,-1,1,-2,3,1,0]:List Int).getD T 0≤3) T d⟩;rw [c,bW,Qt (T9 T)];exact(Rb (f:=V.int) (l:=([1,1,2,-1,1,-2,3,1,0]:List Int)) (i:=T)).trans (by rw [RN,Rh d];rfl)
theorem lR(h:C<3):6*(2*cO (C+1)+1)+5≤cO C∧20+12*cd (C+1)≤cd C∧2+12*bO (C+1)≤bO C∧8≤cd (C+1)∧1≤cO (C+1)∧cd (C+1)≤2000∧bO (C+1)≤2000:=by
 have:C=0∨C=1∨C=2:=by exact(aN 21570157777906158372) h
 rcases this with h|h|h<;>subst h<;>decide
theorem zk(h:C<2):132≤cO C∧60≤cd C∧2≤bO C:=by
 have:C=0∨C=1:=by exact(aN 184328809691940) h
 rcases this with h|h<;>subst h<;>decide
abbrev sr:List N:=[.asg (.name 7) (.and [.cmp (.v 1) [.Lt] [.k (.int 2)],.cmp (.call (.k (.NS (.ref 698))) [.v 0,.k (.int 3)]) [.Eq] [.k (.int 1)]]),.iff (.not (.v 7)) [.asg (.name 8) (.call (.k (.NS (.ref 745))) [.v 0,.bin .add (.v 1) (.k (.int 1)),.lst [.tup [.v 3,.v 3]],.k (.int 2)]),.ret (J (.tup [.k (.str (Y "do")),.v 3,.bin .add (.k (.int 3)) (.v 1),.v 4,.v 5,.v 6,.v 8,.call (.k (.NS (.ref 726))) [.v 0],.k .none]))] [],.asg (.name 8) (.call (.k (.NS (.ref 745))) [.v 0,.k (.int 3),.lst [],.k (.int 1)]),.asg (.name 9) (.call (.k (.NS (.ref 705))) [.v 0]),.asg (.name 10) (.lst [.call (.k (.NS (.ref 698))) [.v 0,.k (.int 3)],.call (.k (.NS (.ref 698))) [.v 0,.k (.int 4)]]),.asg (.name 11) (.call (.k (.NS (.ref 745))) [.v 0,.k (.int 3),.lst [.tup [.v 3,.v 9]],.k (.int 2)]),.asg (.name 12) (.tup [.k (.str (Y "do")),.v 9,.bin .add (.k (.int 4)) (.v 1),.sub (.v 10) (.k (.int 0)),.sub (.v 10) (.k (.int 1)),.k (.int 1),.v 11,.call (.k (.NS (.ref 726))) [.v 0],.k .none]),.ret (J (.tup [.k (.str (Y "do")),.v 3,.bin .add (.k (.int 3)) (.v 1),.v 4,.v 5,.v 6,.v 8,.k .none,.v 12]))]
mutual
theorem JY:∀(v:c7) {l g:Nat},l≤g→f7 l v→f7 g v
 |.plain _,l,g,a,b=>trivial
 |.exit _,l,g,a,b=>trivial
 |.N0 _,l,g,a,b=>trivial
 |.fin _,l,g,a,b=>trivial
 |.cond _ f h _ c,l,g,a,b=>⟨by have:=b.1;exact(ak 1105346436273084) this a,g6 f ‹(aE 83261828246347706648844) a (az _ _) (az _ _)› b.2.1,zl h ‹(aE 83261828246347706648844) a (az _ _) (az _ _)› b.2.2.1,g6 c ‹(aE 83261828246347706648844) a (az _ _) (az _ _)› b.2.2.2⟩
 |.way _ _ d,l,g,a,b=>⟨by have:=b.1;exact(ak 1105346436273084) this a,pp d ‹(aE 83261828246347706648844) a (az _ _) (az _ _)› b.2⟩
 |.sign _ d c,l,g,a,b=>⟨by have:=b.1;exact(ak 1105346436273084) this a,pp d ‹(aE 83261828246347706648844) a (az _ _) (az _ _)› b.2.1,g6 c ‹(aE 83261828246347706648844) a (az _ _) (az _ _)› b.2.2⟩
 |.sw _ d c,l,g,a,b=>⟨by have:=b.1;exact(ak 1105346436273084) this a,pp d ‹(aE 83261828246347706648844) a (az _ _) (az _ _)› b.2.1,g6 c ‹(aE 83261828246347706648844) a (az _ _) (az _ _)› b.2.2⟩
 |.loop _ _ _ _ _ e _,l,g,a,b=>⟨by have:=b.1;exact(ak 1105346436273084) this a,g6 e ‹(aE 83261828246347706648844) a (az _ _) (az _ _)› b.2⟩
 |.pair _ _ _ _ _ e _ _ _ _ i _,l,g,a,b=>⟨by have:=b.1;exact(ak 1122045269122236) this a,g6 e ‹(aE 83262649027401538193676) a (az _ _) (az _ _)› b.2.1,g6 i ‹(aE 83262649027401538193676) a (az _ _) (az _ _)› b.2.2⟩
theorem g6:∀(v:aP) {l g:Nat},l≤g→cT l v→cT g v
 |.nil,l,g,a,b=>trivial
 |.cons v c,l,g,a,b=>⟨JY v a b.1,g6 c a b.2⟩
theorem zl:∀(v:cr) {l g:Nat},l≤g→kA l v→kA g v
 |.nil,l,g,a,b=>trivial
 |.cons _ c d,l,g,a,b=>⟨g6 c a b.1,zl d a b.2⟩
theorem pp:∀(v:bu) {l g:Nat},l≤g→il l v→il g v
 |.nil,l,g,a,b=>trivial
 |.cons c d,l,g,a,b=>⟨g6 c a b.1,pp d a b.2⟩
end
section
variable{e MW ao:Int}
theorem JZ{z:Int}(c:C<3)(aR:gF (C+1))(aS:C<2→gF 3)(aB:cy B F0 e MW ao a)(j:0≤e)(l:e+(15+8*cd (C+1))<900000)(p:mark≤ao)(N:0≤mark)(O:ao+(1+7*bO (C+1))<900000)(aD:0≤MW∧MW≤9)(aF:cp<mark)(aG:3*(3-C)+5≤T)(P: -1≤o∧o≤4)(R: -1≤t∧t≤4)(S: -2≤z∧z≤3)(aT:C<2→60≤cd C)
  (aI:∀v k bl cl d,fl ho cp v→f7 (2*(3-C)) v→cS v≤cO C→cy B F0 k bl cl d→e≤k→(k≤e+(10+2*cd (C+1))∨(k≤e+46∧C<2))→0≤bl∧bl≤9→ao≤cl→cl≤ao+(1+7*bO (C+1))→ai B a d→b (ea D E v) d):
  aw ab (af T) sr [J (.ref B),J (.int C),J fw,J (.int mark),J (.int o),J (.int t),J (.int z),U,U,U,U,U,U,U,U,U,U] (λa1 Z q=>b (fC a1) q) (λZ q=>f q) a:=by
 obtain⟨r,rfl⟩:∃r,T=r+8:=⟨T-8,by exact(bU 276811871395098926655883633057941507949043388210972) aG aT c (az _ _) (az _ _)⟩;refine fO (lR c) λaU br bs s bt u F=>?_;have aJ:∀(X:V) (w:I) (k:Int),cy B F0 k MW ao w→e≤k→k≤e+1→ai B a w→X=.bool Qq→aw ab (af (r+8)) (sr.drop 1) [J (.ref B),J (.int C),J fw,J (.int mark),J (.int o),J (.int t),J (.int z),J X,U,U,U,U,U,U,U,U,U] (λa1 Z q=>b (fC a1) q) (λZ q=>f q) w:=by
  intro X w k al G H W aV;subst aV;show aw ab (af (r+8)) ((.iff (.not (.v 7)) _ _)::_) _ _ _ w;lk;refine cJ ?_;lk;refine cK (by show(1:Nat)≤1000000;exact(aH 19141)) ?_;lk;refine aR.go (T:=r+8) (cA:=2) (ho:=Qp) (cp:=mark) (D:=mark) (E:=mark) al ‹(aH 6853)› ‹(aH 1020325)› ‹(ck 213261316556489592) j H G› ‹(iF 271354531813114149253192297430579660827716008533835964) s l u H G› ‹(ck 361567716216) N p› ‹(aC 322856692917999348514018075877712) O F› aD p ‹(aE 778918443124828963042876936664719889459717037852) aG c (az _ _) (az _ _)› λA aW aK K aX Y aa ad ae g h ag i m ah=>?_;lk;refine zf ae ‹(k0 136217345885068414123827220552606721493433287725696368848470904) j l H h G g› λaj aY aL am L M an ap=>?_;lk;have aq:(3:Int)+(C:Int)=((3+C:Nat):Int):=by exact(aN 659094316640)
  refine Q (aq ..) (aI (.loop mark (3+C) o t z A aj) aY aK K aL ⟨by exact(ck 7227696) aF,⟨by exact(aN 972266322905892) c,P.1,P.2,R.1,R.2,S.1,S.2⟩,Y,am⟩ ⟨by exact(ak 588811088408381344548) c (az _ _),?_⟩ (by show 6*(ba A+1)+5≤_;exact(au 87994799165136111666841572421404) aU ad) an ‹(pC 872560434420739677661177625880) H M G g L› (.inl ‹(iG 8018900707812656271588851690757334606838515678488) H M h G L›) ag i ‹(iF 3240258558803781629991952920) m i› (bP (bP W ah) ap));refine Q (show 2*(3-C)-2=2*(3-(C+1)) by exact(aE 233981652135125623280280377165670894372) c (az _ _) (az _ _) (az _ _)) ?_;exact aa
 by_cases x:C<2
 ·refine bf (zk x) λaZ bu bv=>?_;have bq:=aS x;have n:cd 3=8:=rfl;have y:bO 3=0:=rfl;have a0:cO 3=1:=rfl;lk;refine dq aB ‹(aC 23316341774882222919113617359344330588406648) j s l u› ‹(aH 4726986493590)› λa2 w bw bz al W=>?_;by_cases a3:a2=1
  ·lk;refine cJ ?_;lk;refine cK (by show(0:Nat)≤1000000;exact(aH 19081)) ?_;lk;refine bq.go (T:=r+8) (cA:=1) (ho:=Qq) (cp:=mark) (D:=mark) (E:=mark) al ‹(aH 2245)› ‹(aH 16069)› ‹(ay 38118264) j› ‹(bx 471108476250204304461693265034915449112003661021372) s l n u› ‹(ck 361567716216) N p› ‹(bx 11901962399720546709198846845182550352) O y F› aD p ‹(ak 883821936391062670140) (az _ _)› λA aW aK K aX Y aa ad ae g h ag i m ah=>?_;lk;refine ze ae ‹(nk 1199136236801048112843451667772136307173465244373389304202104) N O y F m p i› λaL an ap=>?_;lk;refine cJ ?_;lk;refine dq an ‹(ff 20561890980780010027155828403148652281861299496909589238064635712226168) j s l g n h u› ‹(aH 4726986493590)› λa4 bA aM aO a5 a6=>?_;lk;refine dq a5 ‹(ff 5263821530344028475929831224380496010483023043944129904714188265110487928) j s l g n h u› ‹(aH 4727892536982)› λa7 bB aP aQ a8 a9=>?_;lk;refine cK (by show(2:Nat)≤1000000;exact(aH 1216933)) ?_;lk;refine cJ ?_;lk;refine cK (by show(1:Nat)≤1000000;exact(aH 19141)) ?_;lk;refine bq.go (T:=r+8) (cA:=2) (ho:=Qp) (cp:=K+1) (D:=mark) (E:=K+1) a8 ‹(aH 6853)› ‹(aH 1020325)› ‹(iF 2129491136748415449707064439989240696) j g n h› ‹(ff 2815695267558583996209410450457485772595712027368637080296233384200388796) s l g n h u› ‹(k0 1172463872428758827994259758465912) N y m p i› ‹(ff 1085433891455025024613468002545413508512008335800934736) O y F m i› ag ‹(ay 15422)› ‹(ak 883821936391062670140) (az _ _)› λar bC bb bc bD bd be bg bh as av bi ax aA bj=>?_;lk;try((refine cc rfl ?_);(lk))
   try((refine cc rfl ?_);(lk))
   refine zf bh ‹(nk 2014033313613431953737693383316805809783571329703618260750918276043183695628495875999196345085928) as j s l g n av h u› λaj bk bm am L M bn bo=>?_;lk;have aq:(3:Int)+(C:Int)=((3+C:Nat):Int):=by exact(aN 659094316640)
   have bp:(4:Int)+(C:Int)=((4+C:Nat):Int):=by exact(aN 1071411183200)
   refine Q (aq ..) (Q (bp ..) ?_);refine aI (.pair mark (3+C) o t z A (K+1) (4+C) a4 a7 ar aj) bk bb bc bm ⟨by exact(ck 7227696) aF,⟨by exact(aN 2293864046566579452708) x c,P.1,P.2,R.1,R.2,S.1,S.2⟩,Y,by exact(iG 11980834136415684591873791147581985084348338920) ax y aA m p i,⟨by exact(aN 2293898245776249797412) x c,by exact(ay 198476919669624) aM aO,by exact(ay 1386181405901688) aM aO,by exact(ay 198479637578616) aP aQ,by exact(ay 1386184123810680) aP aQ,by exact(aH 2169578),by exact(aH 9926)⟩,bd,am⟩ ⟨by exact(ak 1389219988666829675456183076) x c (az _ _),?_,?_⟩ (by show 6*(ba A+1+6*(ba ar+1)+1)+6≤_;exact(aE 3402060711744041765792489968724248448049084) aZ a0 bg ad) bn ‹(iG 186062174845436042994272932999489535817170951236406675706420473832) as g n av h M L› (.inr ⟨by exact(iG 226468916073789952589780839384970764644823433594409830909409931898856) as g n av h M L,x⟩) bi ‹(k0 74202175040968231454670462893922754794216) ax y aA m i› ‹(nk 413545483342837534433392618381967161290696367309300470504) ax y aA F m i› (bP (bP (bP (bP (bP (bP W ah) ap) a6) a9) bj) bo)
   ·exact g6 A ‹(aE 715175290799158509236112763767612) (az _ _) (az _ _) (az _ _)› aa
   ·exact g6 ar ‹(aE 715175290799158509236112763767612) (az _ _) (az _ _) (az _ _)› be
  ·refine kB (f8 (Hs a3 ?_));exact aJ _ w (e+1) al ‹(ay 962)› ‹(ay 15422)› W rfl
 ·refine kD (Hg (Hj (Hc (df rfl (kB (f8 (yb ‹(aN 86253147681513917220) c x› (d9 rfl (dK rfl ?_)))))))));exact aJ _ a e aB ‹(ay 2)› ‹(ay 962)› pn rfl
theorem zm(t:C<3)(O:gF (C+1))(P:C<2→gF 3)(Q:cy B F0 e MW ao a)(i:0≤e)(j:e+cd C≤900000)(u:0≤ao)(w:ao+bO C<900000)(R:0≤MW∧MW≤9)(S:cp≤ao)(x:3*(3-C)+6≤T)
  (V:∀v g h k d,fl ho cp v→f7 (2*(3-C)) v→cS v≤cO C→cy B F0 g h k d→e≤g→g+1≤e+cd C→0≤h∧h≤9→ao≤k→k≤ao+bO C→ai B a d→b (ea D E v) d):
  af T (.NS (.ref 733)) [.ref B,.int C,M] b f a:=by
 obtain⟨n,rfl⟩:∃n,T=n+4:=⟨T-4,by exact(aE 14309950214584539255167233253148) x (az _ _) (az _ _)⟩;refine fO (lR t) λaK o y p aL q W=>?_;have z:C<2→60≤cd C:=λX=>(zk X).2.1;refine aZ (i:=[J (.ref B),J (.int C),J M,U,U,U,U,U,U,U,U,U,U,U,U,U,U]) Gm rfl rfl ?_;delta xB;lk;refine ze Q ‹(aC 249675342216454276449144) u w› λaM al Y=>?_;lk;refine dq al ‹(aC 249675342216454275564408) i j› ‹(aH 4727892536982)› λaN aO A F Z aa=>?_;lk;refine dq Z ‹(aC 63916810492935571455837048) i j› ‹(aH 4729704623766)› λaP aQ G I ad ae=>?_;lk;refine cJ ?_;lk;refine cK (by show(9:Nat)≤1000000;exact(aH 1220581)) ?_;lk;refine dq ad ‹(aC 16362702424139791063678157688) i j› ‹(aH 4735140884118)› λaR ag ah aj am an=>bk (JX ⟨ah,aj⟩) λH ap aq ar=>cc ap ?_;have K:∀l m:Int,-1≤l∧l≤4→-1≤m∧m≤4→aw ab (af (n+3)) sr [J (.ref B),J (.int C),J M,J (.int (ao+1)),J (.int l),J (.int m),J (.int H),U,U,U,U,U,U,U,U,U,U] (λa1 as r=>b (fC a1) r) (λas r=>f r) ag:=λl m au av=>by
  refine JZ (ho:=ho) (cp:=cp) (D:=D) (E:=E) t O P am ‹(ay 9664045944) i› ‹(bx 120658196458159643628727155007842725439544478265281580) o p j q› (QK _) ‹(ay 38118264) u› ‹(bx 3124343263290473769087620864957514571660332) y w W› R ‹(ck 148785432) S› ‹(ak 6320538354478598699310876) x› au av ⟨aq,ar⟩ z λv g h k d ax aA aB aD s c aF L aG aI=>V v g h k d ax aA aB aD ‹(ck 29302652904) s› ?_ aF ‹(ck 114463464) L› ‹(ff 261269713767570216639408423860011875372) y L aG› (bP (bP (bP (bP Y aa) ae) an) aI);rcases c with c|⟨c,aJ⟩
  ·exact(ff 97596553155855663192679377768888920965619695925432002215912) s o p c q
  ·have:=z aJ;exact(ff 1454301970539346107332777700595443418441608613527528) s o p c q
 by_cases N:H<0
 ·refine mm (mK (df rfl (kB (f8 (Hr N (gz rfl (oK (Hm ?_))))))));lk;refine⟨_,rfl,dg ?_⟩;exact K _ _ ‹(ay 817602887794291311480) G I› ‹(ay 54021715411674167530685304) A F›
 ·refine mm (mK (df rfl (kB (f8 (yb N (dK rfl (dg ?_)))))));exact K _ _ ‹(ay 54021715411674167530685304) A F› ‹(ay 817602887794291311480) G I›
end
noncomputable def pq:cr→Nat
 |.nil=>0
 |.cons _ _ A=>pq A+1
section
theorem J0(L:C<3)(M:gF (C+1))(z:3*(3-(C+1))+8≤T):∀(y:List V) (g:List V) (e MW ao:Int) (a:I),cy B F0 e MW ao a→0≤e→e+(y.length*(4+2*cd (C+1))+4*cd (C+1):Nat)<900000→0≤ao→ao+(y.length*(2*bO (C+1))+4*bO (C+1):Nat)<900000→0≤MW∧MW≤9→cp≤ao→g.length+y.length≤10→
  (∀(A:cr) h k m d,ia ho cp A→kA (2*(3-(C+1))) A→pq A=y.length→en A≤y.length*(2*cO (C+1)+1)→cy B F0 h k m d→e≤h→h≤e+(y.length*(4+2*cd (C+1)):Nat)→0≤k∧k≤9→ao≤m→m≤ao+(y.length*(2*bO (C+1)):Nat)→ai B a d→b (.lst (g++hy D E A)) d)→
  fS (λbl cl fw d=>av ab (af T) (.tup [.call (.k (.NS (.ref 719))) [.v 6],.call (.k (.NS (.ref 745))) [.v 6,.bin .add (.v 4) (.k (.int 1)),.v 5,.k (.int 2)]]) bl cl fw d) Qp [1] [U,U,U,U,J (.int C),J (jY ho D E),J (.ref B)] y g b f a:=by
 intro y;induction y with
 |nil=>
  intro g e MW ao a q n i r o s t j c;refine m5 (cK (by simp at j;unfold a4;exact(aN 44848380684) j) ?_);have:=c .nil e MW ao a trivial trivial rfl (RO _) q (QK _) (by simp) s (QK _) (by simp) pn;rw [show g++hy D E .nil=g from RI g]at this;exact this
 |cons u y N=>
  intro g e MW ao a q n i r o s t j c;have l:(u::y).length*(4+2*cd (C+1))=y.length*(4+2*cd (C+1))+(4+2*cd (C+1)):=R0 _ _;have p:(u::y).length*(2*bO (C+1))=y.length*(2*bO (C+1))+2*bO (C+1):=R0 _ _;have O:(u::y).length*(2*cO (C+1)+1)=y.length*(2*cO (C+1)+1)+(2*cO (C+1)+1):=R0 _ _;rw [l]at i c;rw [p]at o c;rw [O]at c;rw [Qw]at j;obtain⟨v,rfl⟩:∃v,T=v+3:=⟨T-3,by exact(aE 153184406870851687047235043548956) z (az _ _) (az _ _)⟩;refine m4 rfl ?_;lk;refine kR q ‹(bM 45588348282633559855584594345657191907371337322610885496) n i l› λF aB P al R=>?_;have aC:cA (C:Int):=by
   unfold cA;exact(aN 1554137525421130500900) L
  lk;refine M.go (T:=v+3) (cA:=2) (ho:=ho) (cp:=cp) (D:=D) (E:=E) al ‹(aH 6853)› ‹(aH 1020325)› ‹(ay 5502247800) n› ‹(bM 24394718103483110071598247020561182922772641008395350352) i l› r ‹(bM 346669781255414255064736945791498752225616) o p› s t z λw h k m S W X Y Z G H aa x K ad=>?_;lk;refine N (g++[.tup [cW F,.lst (a8 D E w)]]) h k m S Z ‹(ck 370248560051064) n G› ‹(dk 965604000448415122690939657612551837072121316279363882118833392447824) i l H› ‹(ck 361567716216) r x› ‹(dk 13722058162790277742531008335137291731586652627384267088) o p K› aa ‹(b6 328889108760) x t› (by refine Q (Qr ..) (Q (RQ ..) ?_);exact(ak 1725644642147094828) j) λA ae ag ah aj am an ap aq ar as au bq aw ax aA=>?_;have:=c (.cons F w A) ae ag ah aj ⟨P,W,am⟩ ⟨X,an⟩ (by show pq A+1=_;refine Q (ap ..) ?_;rfl) (by show ba w+en A+1≤_;exact(aE 2413159982286314203703820) Y aq) ar ‹(b6 1071862677615912) G as› ‹(gG 1873293671029925810410854437490892330189110199630078548) l H au› bq ‹(b6 328889108760) aw x› ‹(gG 26620688936442078662910309609012870160980) p K ax› (bP (bP R ad) aA);exact Q (QW ..) this
theorem ss(au:C<3)(L:gF (C+1))(G:3*(3-(C+1))+8≤T):∀(y:List V) (g:List V) (e MW ao:Int) (a:I),cy B F0 e MW ao a→0≤e→e+(y.length*(1+cd (C+1))+4*cd (C+1):Nat)<900000→0≤ao→ao+(y.length*bO (C+1)+4*bO (C+1):Nat)<900000→0≤MW∧MW≤9→cp≤ao→g.length+y.length≤10→
  (∀(A:bu) h k m d,gW ho cp A→il (2*(3-(C+1))) A→aQ A=y.length→c9 A≤y.length*(cO (C+1)+2)→cy B F0 h k m d→e≤h→h≤e+(y.length*(1+cd (C+1)):Nat)→0≤k∧k≤9→ao≤m→m≤ao+(y.length*bO (C+1):Nat)→ai B a d→b (.lst (g++cU D E A)) d)→
  fS (λM bl cl d=>av ab (af T) (.call (.k (.NS (.ref 745))) [.v 5,.bin .add (.v 3) (.k (.int 1)),.v 4,.k (.int 1)]) M bl cl d) Qp [1] [U,U,U,J (.int C),J (jY ho D E),J (.ref B)] y g b f a:=by
 intro y;induction y with
 |nil=>
  intro g e MW ao a p q j r l s t i c;refine m5 (cK (by simp at i;unfold a4;exact(aN 44848380684) i) ?_);have:=c .nil e MW ao a trivial trivial rfl (RO _) p (QK _) (by simp) s (QK _) (by simp) pn;rw [show g++cU D E .nil=g from RI g]at this;exact this
 |cons u y N=>
  intro g e MW ao a p q j r l s t i c;have n:(u::y).length*(1+cd (C+1))=y.length*(1+cd (C+1))+(1+cd (C+1)):=R0 _ _;have o:(u::y).length*bO (C+1)=y.length*bO (C+1)+bO (C+1):=R0 _ _;have O:(u::y).length*(cO (C+1)+2)=y.length*(cO (C+1)+2)+(cO (C+1)+2):=R0 _ _;rw [n]at j c;rw [o]at l c;rw [O]at c;rw [Qw]at i;obtain⟨v,rfl⟩:∃v,T=v+3:=⟨T-3,by exact(aE 153184406870851687047235043548956) G (az _ _) (az _ _)⟩;refine m4 rfl ?_;lk;refine L.go (T:=v+3) (cA:=1) (ho:=ho) (cp:=cp) (D:=D) (E:=E) p ‹(aH 2245)› ‹(aH 16069)› ‹(ay 2728824) q› ‹(bM 5546716716543334119880367983473257709171024) j n› r ‹(bM 330610066657646366363092974533210448) l o› s t G λw h k m P R S H W K x X z F Y=>?_;rw [Nat.one_mul]at x F H;refine N (g++[.lst (a8 D E w)]) h k m P W ‹(ck 361567716216) q K› ‹(dk 214407158793599224633228149158842539818243277939142992) j n x› ‹(ck 361567716216) r z› ‹(dk 12779662537193237164230821911677699987969798480) l o F› X ‹(b6 328889108760) z t› (by refine Q (Qr ..) (Q (RQ ..) ?_);exact(ak 1725644642147094828) i) λA Z aa ad ae ag ah aj al am an ap bq aq ar as=>?_;have:=c (.cons w A) Z aa ad ae ⟨R,ag⟩ ⟨S,ah⟩ (by show aQ A+1=_;refine Q (aj ..) ?_;rfl) (by show ba w+c9 A+2≤_;exact(aE 11365220309307736377612) al H) am ‹(b6 328889108760) an K› ‹(gG 3412548255888442792089780853389377315412) n x ap› bq ‹(b6 328889108760) aq z› ‹(gG 176394544957850912348192802906708) o ar F› (bP Y as);exact Q (QW ..) this
end
theorem J1(C:Nat):8≤cd C∧1≤cO C:=by
 match C with
 |0=>decide
 |1=>decide
 |2=>decide
 |C+3=>exact⟨Qu 8,Qu 1⟩
theorem lS{b:Int}(c:0≤b∧b≤100):hO Qp (.int b) a=J (b9 b):=by
 show(if _ then _ else _)=_;rw [Qt ⟨c.1,by unfold a4;exact(ay 26568030850755048) c⟩]
theorem pr{a:Int}:(b9 a).length=a.toNat:=by simp [b9]
theorem J2{a:Int→Prop}{b:Int}(c:0≤b)(d:b<10)(e:a 0)(f:a 1)(g:a 2)(h:a 3)(i:a 4)(j:a 5)(k:a 6)(l:a 7)(m:a 8)(n:a 9):a b:=by
 obtain⟨T,rfl⟩:=Vh c;have o:=TN.mp d;rcases T with _|_|_|_|_|_|_|_|_|_|T
 ·exact e
 ·exact f
 ·exact g
 ·exact h
 ·exact i
 ·exact j
 ·exact k
 ·exact l
 ·exact m
 ·exact n
 ·exact(Ss T (US (n:=10) o)).elim
theorem J3{a:Int}(b:0≤a)(c:a<10):a=0∨a=1∨a=2∨a=3∨a=4∨a=5∨a=6∨a=7∨a=8∨a=9:=
 J2 (a:=λa=>a=0∨a=1∨a=2∨a=3∨a=4∨a=5∨a=6∨a=7∨a=8∨a=9) b c (by decide) (by decide) (by decide) (by decide) (by decide) (by decide) (by decide) (by decide) (by decide) (by decide)
theorem J4{a:Int}{b:bu}{c:aP}(d:(T:Int)=a):ea D E (.sw T b c)=.tup [.str (Y "switch"),.int a,.lst (cU D E b),.lst (a8 D E c)]:=by subst d;rfl
theorem J5{a:Int}{b:bu}{c:aP}(d:(T:Int)=a):ea D E (.sign T b c)=.tup [.str (Y "sign"),.int a,.lst (cU D E b),.lst (a8 D E c)]:=by subst d;rfl
theorem J6{a:Int}{b:Bool}{c:bu}(d:(T:Int)=a)(e:(if b=Qp then(1:Int)else 0)=t):ea D E (.way T b c)=.tup [.str (Y "way"),.int a,.int t,.lst (cU D E c)]:=by subst d e;rfl
theorem ps(H:C<3→gF (C+1))(bn:C<2→gF 3):sp C:=by
 constructor;intro T x I t u bv aj K ao aV bI bw bJ bz b e L M F N G A;obtain⟨g,rfl⟩:∃g,T=g+7:=⟨T-7,by exact(aE 30554204573995048240350695743260) G (az _ _) (az _ _)⟩;refine ar (J1 C) λc ax=>aZ (i:=[J (.ref aV),J (.int C),J (jY x t u),U,U,U,U,U,U,U,U,U,U,U]) Gn rfl rfl ?_;delta xC;refine kD (Hd (oJ (df rfl (oJ (f8 (cH ?_))))));refine dq (T:=g+4) bz ‹(aC 589058036189911708607875498872) b c e› ‹(aH 4731969732246)› λbo aW bA bB al B=>?_;have plain:∀(aX:a3) O P,mz aX→aj+1≤O→O≤aj+8→cy aV bv O K ao P→ai aV aW P→bw (jT aX) P:=λaX O P bm am an f d=>
  A (.plain aX) O K ao P bm trivial ax f ‹(ck 4321879005893352) am an› ‹(iF 18094589830568882296864956) c am an› F (QK _) ‹(aC 344450)› (bP B d)
 have y:=J3 bA bB;rcases y with y|y|y|y|y|y|y|y|y|y<;>subst y
 ·lk;exact g5 al ‹(aC 154507707661532539328989726979507064) b c e› λg h bm f d=>plain (.set g) _ h bm ‹(ay 63188030)› ‹(ay 5665702958)› f d
 ·by_cases a:C<3
  ·refine fO (lR a) λQ l cF aA aB aD a6=>?_;lk;refine jg ?_;lk;refine dq al ‹(aC 150798675328740921995556393960312) b c e› ‹(aH 4726986493590)› λo h j k f d=>?_;lk;refine(aU (b9 (1+o)) (lS ‹(ay 6577668639733124631823224) j k›) ?_);have v:(b9 (1+o)).length=(1+o).toNat:=pr;have m:(b9 (1+o)).length≤3:=by exact(bx 15565738087084369046737871177056503947158291320) j k v (cz _)
   have n:=QY (4+2*cd (C+1)) m;have s:=QY (2*bO (C+1)) m;have R:=QY (2*cO (C+1)+1) m;refine J0 (T:=g+6) (ho:=x) (cp:=I) (D:=t) (E:=u) a (H a) ‹(gH 77289054943846585925550571028638372775163581805411650199324) G j k a (az _ _) (az _ _)› (b9 (1+o)) [] (aj+1+1) K ao h f ‹(ay 604349304) b› ‹(bM 1165461587457944407773659940445644298155299811487663758777551916) l b c e n› L ‹(bM 3194869848663320031684045701415593202909002796) cF M s› F N (by simp;exact(ak 3790726361434452) v m) λbo a7 aF aG ab ap aY aq S D p q bq r E z=>?_;induction bo using cr.casesOn with
   |nil=>exfalso;have:pq .nil=0:=rfl;exact(bM 24608269855625713552288651002276652282663954404803448) j k this v aq (cz _)
   |cons w as av=>
    have bp:en (.cons w as av)=ba as+en av+1:=rfl;have i:2*(3-C)-2=2*(3-(C+1)):=by exact(gH 20350106761634365778018514348151308720847245214584) j k a (az _ _) (az _ _) (az _ _)
    lk;refine dq D ‹(dk 84221505430711984479699585103770005535059046929089824082854696714314484780) l p b c e q n› ‹(aH 4726533471894)› λbC a0 br bs V W=>?_;by_cases a1:bC=0
    ·refine d9 (b:=false) (by show J (decide _)=_;rw [Qx ‹(ay 6162089568) a1›]) (dK rfl ?_);lk;exact A (.cond w as av false .nil) _ aF aG a0 ⟨ap.1,ap.2.1,ap.2.2,trivial,λbK=>rfl⟩ ⟨by exact(gH 54527348470250712550056844295892330288272219335363394726484) i j k a (az _ _) (az _ _) (az _ _),by rw [i];exact aY.1,by rw [i];exact aY.2,trivial⟩ (by show ba as+en av+0+3≤_;exact(eH 30127691915154061137005304074046834067865755145023260) Q bp R S) V ‹(ck 38070202344) p› ‹(dk 1281686394040339645502930299838339214769170760008825771487534705989043774065708) l b aA c e q n aD› bq r ‹(dk 150898535844980750323360550895838246288428) cF s E r› (bP (bP (bP B d) z) W)
    ·refine d9 (b:=true) (by show J (decide _)=_;rw [QD a1]) (gz rfl ?_);lk;refine(H a).go (T:=g+6) (cA:=1) (ho:=x) (cp:=I) (D:=t) (E:=u) V ‹(aH 2245)› ‹(aH 16069)› ‹(ck 1428454373928936) p b› ‹(dk 76379510522613343813989380889008056582506571329938818355604302629932) l c e q n› ‹(ck 361567716216) L r› ‹(dk 1884406404065851340074479567211010091923550711135276) cF M s E› bq ‹(b6 328889108760) r N› ‹(zO 4339017222661736891243965157576202564094048710370546816427451518888580838703688717856069607196) G i j br k bs a a1 (az _ _) (az _ _) (az _ _)› λad bt aI aJ ae aK aL a2 af aw aM aN X aO ag=>?_;lk;exact A (.cond w as av true ad) _ aI aJ ae ⟨ap.1,ap.2.1,ap.2.2,aK,λbD=>by cases bD⟩ ⟨by exact(pD 2097891250989810379980056651376697731294704050251259940978100600653961423444) i j br k bs a a1 (az _ _) (az _ _) (az _ _),by rw [i];exact aY.1,by rw [i];exact aY.2,by rw [i];exact aL⟩ (by show ba as+en av+ba ad+3≤_;exact(lZ 73221508080904835919704755341719211187184263035847538739326748) Q bp R a2 S) af ‹(b6 4287454098567144) p aw› ‹(gG 35989194500196530643870488376318631896146161188269938347814854316372901530668) l aA aw q n aM aD› aN ‹(b6 328889108760) X r› ‹(gG 23521378438130384080303939038031522324437787105377324) cF s aO E X› (bP (bP (bP (bP B d) z) W) ag)
  ·lk;exact g5 al ‹(aC 154507707661532539328989726979507064) b c e› λg h bm f d=>plain (.set g) _ h bm ‹(ay 63188030)› ‹(ay 5665702958)› f d
 ·by_cases a:C<3
  ·lk;exact zm (T:=g+6) (ho:=x) (cp:=I) (D:=t) (E:=u) a (H a) bn al ‹(ay 38118264) b› ‹(aC 8150346178093117776) e› L M F N ‹(ak 16520725441958245786410780) G› λa8 O a9 bb P am an bc bd be bf bg bh bi bj=>A a8 O a9 bb P am an bc bd ‹(ck 114463464) be› ‹(iF 13433361691189992) bf› bg bh bi (bP B bj)
  ·lk;exact g5 al ‹(aC 154507707661532539328989726979507064) b c e› λg h bm f d=>plain (.set g) _ h bm ‹(ay 63188030)› ‹(ay 5665702958)› f d
 ·by_cases a:C<3
  ·lk;exact zm (T:=g+6) (ho:=x) (cp:=I) (D:=t) (E:=u) a (H a) bn al ‹(ay 38118264) b› ‹(aC 8150346178093117776) e› L M F N ‹(ak 16520725441958245786410780) G› λa8 O a9 bb P am an bc bd be bf bg bh bi bj=>A a8 O a9 bb P am an bc bd ‹(ck 114463464) be› ‹(iF 13433361691189992) bf› bg bh bi (bP B bj)
  ·lk;exact g5 al ‹(aC 154507707661532539328989726979507064) b c e› λg h bm f d=>plain (.set g) _ h bm ‹(ay 63188030)› ‹(ay 5665702958)› f d
 ·induction x using Qz with
  |true=>
   lk;try((refine cc (y:=[.tup [.int t,.int u]]) (s:=.tup [.int t,.int u]) rfl ?_);(lk))
   refine kR al ‹(aC 154458974913946031049088048055305080) b c e› λw h bm f d=>?_;lk;exact A (.exit w) _ K ao h ⟨rfl,bm⟩ trivial ax f ‹(ay 2376386)› ‹(aC 13314886473367740) c› F (QK _) ‹(aC 344450)› (bP B d)
  |false=>
   lk;exact g5 al ‹(aC 154507707661532539328989726979507064) b c e› λg h bm f d=>plain (.set g) _ h bm ‹(ay 63188030)› ‹(ay 5665702958)› f d
 ·induction x using Qz with
  |true=>
   lk;try((refine cc (y:=[.tup [.int t,.int u]]) (s:=.tup [.int t,.int u]) rfl ?_);(lk))
   refine kR al ‹(aC 154458974913946031049088048055305080) b c e› λw h bm f d=>?_;lk;exact A (.N0 w) _ K ao h ⟨rfl,bm⟩ trivial ax f ‹(ay 2376386)› ‹(aC 13314886473367740) c› F (QK _) ‹(aC 344450)› (bP B d)
  |false=>
   lk;exact g5 al ‹(aC 154507707661532539328989726979507064) b c e› λg h bm f d=>plain (.set g) _ h bm ‹(ay 63188030)› ‹(ay 5665702958)› f d
 ·by_cases a:C<3
  ·refine fO (lR a) λQ l cF aA aB aD a6=>?_;have i:2*(3-C)-2=2*(3-(C+1)):=by exact(aE 233981652135125623280280377165670894372) a (az _ _) (az _ _) (az _ _)
   lk;refine dq al ‹(aC 150798675328740921995556393960312) b c e› ‹(aH 4726533471894)› λo h j k f d=>?_;lk;refine jg ?_;lk;refine(aU (b9 (1+o)) (lS ‹(ay 6577668639733123272868728) j k›) ?_);have v:(b9 (1+o)).length=((1+o):Int).toNat:=pr;have m:(b9 (1+o)).length≤3:=by exact(bx 15565738087084369046737871177056503945799336824) j k v (cz _)
   have n:=QY (1+cd (C+1)) m;have s:=QY (bO (C+1)) m;have R:=QY (cO (C+1)+2) m;refine ss (T:=g+6) (ho:=x) (cp:=I) (D:=t) (E:=u) a (H a) ‹(lY 112777582730690893753930687109824944029004933317549712949595214094040563408668) G i j k a (az _ _) (az _ _) (az _ _)› (b9 (1+o)) [] (aj+1+1) K ao h f ‹(ay 604349304) b› ‹(bM 17783532523467169308991874009586585112747658253420710628396) l b c e n› L ‹(bM 3119990086585273497207472561966430953225260) cF M s› F N (by simp;exact(ak 3790726361434452) v m) λZ a7 aF aG ab aP aQ aq S D p q bq r E z=>?_;lk;refine cJ ?_;lk;refine cK (by show(2:Nat)≤1000000;exact(aH 1216933)) ?_;lk;try((refine cc (s:=.str (Y "switch")) rfl ?_);(lk))
   refine dq D ‹(dk 1285118185893768758993947278589914079444152936066704354148845156863020) l p b c e q n› ‹(aH 4729251602070)› λah a0 aR aS V W=>?_;lk;refine(H a).go (T:=g+6) (cA:=1) (ho:=x) (cp:=I) (D:=t) (E:=u) V ‹(aH 2245)› ‹(aH 16069)› ‹(ck 1428454373928936) p b› ‹(dk 1165458839761556150472357549448212201706704860617760242918263852) l c e q n› ‹(ck 361567716216) L r› ‹(dk 1840240628970557949291512718376183720659808500780) cF M s E› bq ‹(b6 328889108760) r N› ‹(lY 112777582730690893753930687109824944029004933317549712949595214094040563408668) G i j k a (az _ _) (az _ _) (az _ _)› λad bt aI aJ ae aK aL a2 af aw aM aN X aO ag=>?_;lk;have aa:=A (.sw ah.toNat Z ad) _ aI aJ ae ⟨by exact(aC 64646577632392308544607953831527288) aR aS (cz _),aP,aK⟩ ⟨by exact(gH 54527348470250712550056844295892330288272168036548889209428) i j k a (az _ _) (az _ _) (az _ _),by rw [i];exact aQ,by rw [i];exact aL⟩ (by show c9 Z+ba ad+5≤_;exact(bU 72637537804865607901161813654348967059218654637852) Q ax R a2 S) af ‹(b6 4287454098567144) p aw› ‹(gG 165921717332639283839902755737478439906075581067856940) l q n aM› aN ‹(b6 328889108760) X r› ‹(gG 22970096130986703203421815466827661496680329067564) cF s aO E X› (bP (bP (bP (bP B d) z) W) ag);have aT:((ah.toNat:Nat):Int)=ah:=by exact(aC 237399850092036049010239600264056) aR aS (cz _)
   rw [J4 aT]at aa;exact aa
  ·lk;exact g5 al ‹(aC 154507707661532539328989726979507064) b c e› λg h bm f d=>plain (.set g) _ h bm ‹(ay 63188030)› ‹(ay 5665702958)› f d
 ·by_cases a:C<3
  ·refine fO (lR a) λQ l cF aA aB aD a6=>?_;have i:2*(3-C)-2=2*(3-(C+1)):=by exact(aE 233981652135125623280280377165670894372) a (az _ _) (az _ _) (az _ _)
   lk;have f:=al;have d:ai aV aW aW:=pn;refine jg ?_;lk;refine(aU (b9 3) (lS ‹(aH 4726986493566)›) ?_);have v:(b9 3).length=(3:Int).toNat:=pr;have m:(b9 3).length≤3:=by exact(ak 2796435816213232416287944234600788) v (cz _)
   have n:=QY (1+cd (C+1)) m;have s:=QY (bO (C+1)) m;have R:=QY (cO (C+1)+2) m;refine ss (T:=g+6) (ho:=x) (cp:=I) (D:=t) (E:=u) a (H a) ‹(bU 1296695169230335446717685377223267047827039297052270457166394777372) G i a (az _ _) (az _ _) (az _ _)› (b9 3) [] (aj+1) K ao aW f ‹(ay 38118264) b› ‹(bM 1111470782716528768271929143813301225003559282670826458156) l b c e n› L ‹(bM 3119990086585273497207472561966430953225260) cF M s› F N (by simp;exact(ak 3790726361434452) v m) λZ a7 aF aG ab aP aQ aq S D p q bq r E z=>?_;lk;refine cJ ?_;lk;refine cK (by show(2:Nat)≤1000000;exact(aH 1216933)) ?_;lk;try((refine cc (s:=.str (Y "sign")) rfl ?_);(lk))
   refine dq D ‹(dk 5019992915292931345300066809056315744420769577465279379752566688812) l b c p e n q› ‹(aH 4729251602070)› λah a0 aR aS V W=>?_;lk;refine(H a).go (T:=g+6) (cA:=1) (ho:=x) (cp:=I) (D:=t) (E:=u) V ‹(aH 2245)› ‹(aH 16069)› ‹(ck 89279260951416) b p› ‹(dk 72841177485097335078373794915427872572381970870989772626627628) l c e n q› ‹(ck 361567716216) L r› ‹(dk 1840240628970557949291512718376183720659808500780) cF M s E› bq ‹(b6 328889108760) r N› ‹(bU 1296695169230335446717685377223267047827039297052270457166394777372) G i a (az _ _) (az _ _) (az _ _)› λad bt aI aJ ae aK aL a2 af aw aM aN X aO ag=>?_;lk;have aa:=A (.sign ah.toNat Z ad) _ aI aJ ae ⟨by exact(aC 64646577632392308544607953831527288) aR aS (cz _),by exact(au 244555725739288871917927172178118032443525460) v aq m (cz _),aP,aK⟩ ⟨by exact(aE 626945068694682315245556384047842070463448803924) i a (az _ _) (az _ _) (az _ _),by rw [i];exact aQ,by rw [i];exact aL⟩ (by show c9 Z+0+5≤_;exact(aE 7642166757771691856739841453431268935806748) Q aB R S) af ‹(b6 84195823620840) aw p› ‹(gG 10453948476629619186505933104419028614135766576041004) l n aM q› aN ‹(b6 328889108760) X r› ‹(gG 22970096130986703203421815466827661496680329067564) cF s aO E X› (bP (bP (bP (bP B d) z) W) ag);have aT:((ah.toNat:Nat):Int)=ah:=by exact(aC 237399850092036049010239600264056) aR aS (cz _)
   rw [J5 aT]at aa;exact aa
  ·lk;exact g5 al ‹(aC 154507707661532539328989726979507064) b c e› λg h bm f d=>plain (.set g) _ h bm ‹(ay 63188030)› ‹(ay 5665702958)› f d
 ·by_cases a:C<3
  ·refine fO (lR a) λQ l cF aA aB aD a6=>?_;have i:2*(3-C)-2=2*(3-(C+1)):=by exact(aE 233981652135125623280280377165670894372) a (az _ _) (az _ _) (az _ _)
   lk;refine dq al ‹(aC 150798675328740921995556393960312) b c e› ‹(aH 4726533471894)› λo h j k f d=>?_;lk;refine jg ?_;lk;refine(aU (b9 (1+o)) (lS ‹(ay 6577668639733123272868728) j k›) ?_);have v:(b9 (1+o)).length=((1+o):Int).toNat:=pr;have m:(b9 (1+o)).length≤3:=by exact(bx 15565738087084369046737871177056503945799336824) j k v (cz _)
   have n:=QY (1+cd (C+1)) m;have s:=QY (bO (C+1)) m;have R:=QY (cO (C+1)+2) m;refine ss (T:=g+6) (ho:=x) (cp:=I) (D:=t) (E:=u) a (H a) ‹(lY 112777582730690893753930687109824944029004933317549712949595214094040563408668) G i j k a (az _ _) (az _ _) (az _ _)› (b9 (1+o)) [] (aj+1+1) K ao h f ‹(ay 604349304) b› ‹(bM 17783532523467169308991874009586585112747658253420710628396) l b c e n› L ‹(bM 3119990086585273497207472561966430953225260) cF M s› F N (by simp;exact(ak 3790726361434452) v m) λZ a7 aF aG ab aP aQ aq S D p q bq r E z=>?_;lk;refine dq D ‹(dk 1285118185893768758993947278589914079444152936066704354148845156863020) l p b c e q n› ‹(ay 6577668639735210626974584) j k› λbk a0 bu bE V W=>?_;lk;refine dq V ‹(dk 328988845646096797877911159527174123967016761964017974071406571994254380) l p b c e q n› ‹(aH 4726533471894)› λa4 ae bF bG af ag=>?_;lk;have aa:=A (.way bk.toNat (decide (a4=1)) Z) _ aF aG ae ⟨by exact(pD 522441843748601341994310172048747521610615841993424087564204880170804350468457336) bu j bE k v aq (cz _) (cz _),aP⟩ ⟨by exact(gH 54527348470250712550056844295892330288272168036548889209428) i j k a (az _ _) (az _ _) (az _ _),by rw [i];exact aQ⟩ (by show c9 Z+5≤_;exact(aE 7515334065186962626218867465047343181596) Q aB R S) af ‹(ck 617890787304) p› ‹(dk 56215619617907768702427595374375053466968166608862533185997868) l b c e q n› bq r ‹(dk 147361851411114013987659764705769634860) cF s E r› (bP (bP (bP (bP B d) z) W) ag);have aT:((bk.toNat:Nat):Int)=bk:=by exact(aC 100623173222874980083139448) bu (cz _)
   have bH:(if decide (a4=1)=true then(1:Int)else 0)=a4:=by
    by_cases a5:a4=1
    ·rw [QD a5,Qt rfl,a5]
    ·rw [Qx a5,Qs (by simp)];exact(ay 3104489410625471352) bF bG a5
   rw [J6 aT bH]at aa;exact aa
  ·lk;refine kR al ‹(aC 154458974913946031049088048055305080) b c e› λw h bl f d=>?_;lk;refine g5 f ‹(aC 162013723202546736603645699426704608052088) b c e› λg ab bm D z=>?_;lk;exact plain (.OC w g) _ ab ⟨bl,bm⟩ ‹(ay 65032891454)› ‹(ay 5801681109806)› D (bP d z)
 ·by_cases a:0<C
  ·lk;refine kR al ‹(aC 154458974913946031049088048055305080) b c e› λw h bm f d=>?_;lk;exact A (.fin w) _ K ao h bm trivial ax f ‹(ay 2376386)› ‹(aC 13314886473367740) c› F (QK _) ‹(aC 344450)› (bP B d)
  ·lk;refine kR al ‹(aC 154458974913946031049088048055305080) b c e› λw h bl f d=>?_;lk;refine g5 f ‹(aC 162013723202546736603645699426704608052088) b c e› λg ab bm D z=>?_;lk;exact plain (.OC w g) _ ab ⟨bl,bm⟩ ‹(ay 65032891454)› ‹(ay 5801681109806)› D (bP d z)
theorem su:gF 3:=po (ps (λa=>(Vb _ a).elim) (λa=>Rz a (by decide)))
theorem J7:gF 2:=po (ps (λb=>su) (λa=>Rz a (by decide)))
theorem J8:gF 1:=po (ps (λa=>J7) (λa=>su))
theorem J9:gF 0:=po (ps (λa=>J8) (λa=>su))
theorem kS(e:aT b2 a hc)(f:aT k d a):aT (b2++k) d hc:=by
 refine⟨?_,λc b=>?_,λc b=>?_,λh g=>?_⟩
 ·rw [Rp];refine Sh.mpr (bw e.O1 f.O1 (λh g r j=>?_));refine ae (RH.mp g) λc b l=>ae (RH.mp j) λm n o=>?_;intro p;have i:=e.at' c b;have q:=f.fr m n;rw [l,p,←o,q]at i;exact ag i
 ·rcases Ro.mp b with b|b
  ·exact e.fr c b
  ·exact yN e (f.fr c b)
 ·rcases Ro.mp b with b|b
  ·have:=e.at' c b;rw [f.Om _ (by rw [this];simp)];exact this
  ·exact f.at' c b
 ·have:=e.Om h g;rw [f.Om h (by rw [this];exact g)];exact this
theorem MH{f:List (Qo×aK)}(b:aT b2 a hc)(c:f.Sublist b2):aT f a hc:=⟨b.O1.sublist (c.map _),λd e=>b.fr d (c.subset e),λd e=>b.at' d (c.subset e),b.Om⟩
theorem Ka{e:Qo}(c:aT ((e,as)::b2) a hc):aT b2 (a.del e) hc:=by
 have h:∀b∈b2,b.1≠e:=λb d f=>by
  have:=c.O1;rw [Rv,QZ]at this;exact this.1 (RH.mpr (aU b d f))
 refine⟨by have:=c.O1;rw [Rv,QZ]at this;exact this.2,λb d=>c.fr b (.tail _ d),λb d=>?_,λi g=>?_⟩
 ·refine Q (iv (h b d) ..) ?_;exact c.at' b (.tail _ d)
 ·refine Q (iv (λf=>by rw [f]at g;exact g (c.fr _ (.head _))) ..) ?_;exact c.Om i g
section
theorem Kb:(lA.map (·.1)).Nodup:=by decide+kernel
theorem Kc(c:∀e d,aT [(e,.dict lA)] d a→b (.ref e) d):af (T+1) (.NS (.ref 647)) [] b f a:=by
 refine aZ (i:=[U,U,U,U,U,U,U,U,U,U,U,U]) Gg rfl rfl ?_;delta xu;lk;refine dL ?_;lk;exact⟨lA,by kernel_rfl!,by show(16:Nat)≤16;decide,Kb,.inl λe g=>c e _ (cC jc g)⟩
def eF:List (am×V):=[(.inr (Y "assign"),.NS (.ref 521)),(.inr (Y "setlabel"),.NS (.ref 535))]
theorem Kd:(eF.map (·.1)).Nodup:=by decide+kernel
theorem Ke(c:∀e d,aT [(e,.dict eF)] d a→b (.ref e) d):af (T+1) (.NS (.ref 549)) [] b f a:=by
 refine aZ (i:=[U,U]) F6 rfl rfl ?_;delta xh;lk;refine dL ?_;lk;exact⟨eF,by kernel_rfl!,by show(2:Nat)≤16;decide,Kd,.inl λe g=>c e _ (cC jc g)⟩
theorem zn{b:V}{i:bF}:∀(M6:List String) (O:List (am×V)) (a:I) (g:Option V),a e=J (.dict O)→O.length+M6.length<a4→(∀g,i .NX [J (.ref e),g,k,M5,MQ,c2] (a.set e (.dict (M6.foldl (λA H2=>bC (.inr (Y H2)) b A) O))))→
  c0 ab j (.name 1) (λm q M d=>aw ab j [.asg (.item (.v 0) (.v 1)) (.k b)] m q M d) (M6.map λH2=>V.str (Y H2)) [J (.ref e),g,k,M5,MQ,c2] i ML a:=by
 intro M6;induction M6 with
 |nil=>
  intro O a g f c h;have:=h g;rw [show V4 (λA H2=>bC (.inr (Y H2)) b A) O ([]:List String)=O from rfl,yI f]at this;exact gA this
 |cons H2 M6 l=>
  intro O a g f c h;rw [Qw]at c;have n:=fW (.inr (Y H2):am) b O;refine iu ?_;lk;refine hq f rfl ‹(au 116455625028) c› ?_;lk;exact e8 (l _ _ _ bJ ‹(aE 17922792414448963908) c n› λg=>Q (yH ..) (h g))
def jZ:List (am×V):=[(.inr (Y "const"),.NS (.ref 374)),(.inr (Y "var"),.NS (.ref 381)),(.inr (Y "elem"),.NS (.ref 381))]
theorem Kf:(jZ.map (·.1)).Nodup:=by decide+kernel
def m7:List String:=["add", "sub", "mul", "div", "pow", "powi", "and", "or", "eqv", "neqv"]
def sv:List String:=["eq", "ne", "lt", "le", "gt", "ge"]
theorem Kg:sv.foldl (λA H2=>bC (.inr (Y H2)) (.NS (.ref 402)) A) (m7.foldl (λA H2=>bC (.inr (Y H2)) (.NS (.ref 395)) A) jZ)=fp:=by kernel_rfl
theorem zo{a:V}:∀(M6:List String) (O:List (am×V)),(M6.foldl (λA H2=>bC (.inr (Y H2):am) a A) O).length≤O.length+M6.length
 |[],O=>by simp
 |H2::M6,O=>by
  refine Q (Tc ..) (Q (Qw ..) ?_);exact Qv (zo (a:=a) M6 (bC (.inr (Y H2)) a O)) (Qv (Ta (fW (.inr (Y H2):am) a O) _) (RT ‹Q (S8 ..) (Q (Uq 1 ..) rfl)›))
theorem Kh(h:∀e d,aT [(e,.dict fp)] d a→b (.ref e) d):af (T+1) (.NS (.ref 409)) [] b f a:=by
 refine aZ (i:=[U,U,U,U,U,U]) FP rfl rfl ?_;delta wZ;lk;refine dL ?_;lk;refine⟨jZ,by kernel_rfl!,by show(3:Nat)≤16;decide,Kf,.inl λe i=>?_⟩;have c:=cC (as:=.dict jZ) (jc (a:=a)) i;refine fH (h4 ?_);lk;refine(aU _ rfl ?_);refine zn (b:=.NS (.ref 395)) m7 jZ _ U (bb c 0 rfl) (by decide) λj=>eC ?_;have g:=bK (g:=.dict (m7.foldl (λk l=>bC (.inr (Y l)) (.NS (.ref 395)) k) jZ)) c 0 rfl;refine fH (h4 ?_);lk;refine(aU _ rfl ?_);have m:=zo (a:=.NS (.ref 395)) m7 jZ;have o:jZ.length=3:=rfl;have p:m7.length=10:=rfl;have q:sv.length=6:=rfl;refine zn (b:=.NS (.ref 402)) sv _ _ _ (bb g 0 rfl) (Tr (Ta m _) (by show(19:Nat)<1000000;exact(aH 1225575))) λj=>Q (Kg ..) ?_;have n:=bK (g:=.dict fp) g 0 rfl;refine eC ?_;lk;exact h e _ n
set_option tactic.hygienic true in
theorem zp{b:QA}:∀{If:List (QA×V)},fi b If=U→fh b s If=If++[(b,s)]
 |[],a=>rfl
 |l0::d,a=>by
  rw [tf]at a;by_cases c:l0.1=b
  ·rw [Qt c]at a;exact ag a.symm
  ·rw [Qs c]at a;refine Q (pK ..) (Q (Qs c ..) (Q (zp a ..) ?_));rfl
theorem cq{c:bF}{d e:Qo}{b:List (QA×V)}(f:(i[0]?).join=J (.inst d hi e))(k:a hi=J (.ns b))(l:fi g b=U)(m:ab.fld d g=Qp)(n:b.length≤100)(o:aw ab j A i c ML (a.set hi (.ns (b++[(g,s)])))):av ab j (.v 0) i (λq h=>hN ab q g s (λM=>aw ab j A i c ML M) h) (λh=>ML i h) a:=by
 refine df f (i7 k m n ?_);refine Q (zp l ..) ?_;exact o
theorem Ki(g:∀MK M3 MN d,aT [(MK,.ns (dh MN)),(MN,.list [.none,.none,.none,.none,.none,.none,.none])] d a→b (.inst 141 MK M3) d):af (T+1) (.NS (.ref 141)) [.int 7,.int 0] b f a:=by
 refine mL (c:=117) tb_g% tb_g% Fp λM3 MK h i h=>mX (i:=[J (.inst 141 MK M3),J (.int 7),J (.int 0)]) rfl rfl ?_;delta wA;have j:=cC (as:=.ns []) (jc (a:=a)) i;refine b8 (x5 (cJ (oJ (f8 (cH (cK (by show(1:Nat)≤1000000;exact(aH 19141)) (df rfl ?_)))))));refine⟨by decide,by decide,by show(7:Nat)≤1000000;exact(aH 1218661),.inl λMN k=>?_⟩;have c:=cC (as:=.list [.none,.none,.none,.none,.none,.none,.none]) j k;refine cq rfl (bb c 0 rfl) tb_g% tb_g% (by show(0:Nat)≤100;exact(aH 31369)) ?_;have e:=bK (g:=.ns [(Y "numeric",.ref MN)]) c 0 rfl;refine b8 (x5 (cJ (oJ (f8 (cH (cK (by show(1:Nat)≤1000000;exact(aH 19141)) (df rfl ?_)))))));refine⟨by decide,by decide,by show(0:Nat)≤1000000;exact(aH 19081),.inr ?_⟩;refine cq rfl (bb e 0 rfl) tb_g% tb_g% (by show(1:Nat)≤100;exact(aH 31429)) ?_;have l:=bK (g:=.ns [(Y "numeric",.ref MN),(Y "characters",.lst [])]) e 0 rfl;exact kC ⟨rfl,g MK M3 MN _ l⟩
theorem Kj(m:∀(hi o:Qo) (d:I),aT [(hi,.ns [(Y "width",.int 32),(Y "real_digits",.int 7),(Y "double_digits",.int 15),(Y "top_exponent",.int 38),(Y "steps",.int 1000000),(Y "continuations",.int 19),(Y "columns",.int 72),(Y "depth",.int 40)])] d a→b (.inst 665 hi o) d):af (T+1) (.NS (.ref 665)) [] b f a:=by
 refine mL (c:=662) tb_g% tb_g% Gx λo hi n p n=>mX (i:=[J (.inst 665 hi o),J (.int 32),J (.int 7),J (.int 15),J (.int 38),J (.int 1000000),J (.int 19),J (.int 72),J (.int 40)]) rfl rfl ?_;delta xN;have c:aT [(hi,.ns [])] _ a:=cC jc p;refine b8 (df rfl ?_);refine cq rfl (bb c 0 rfl) tb_g% tb_g% (by show(0:Nat)≤100;exact(aH 31369)) ?_;have e:aT [(hi,.ns [(Y "width",.int 32)])] _ a:=bK c 0 rfl;refine b8 (df rfl ?_);refine cq rfl (bb e 0 rfl) tb_g% tb_g% (by show(1:Nat)≤100;exact(aH 31429)) ?_;have g:aT [(hi,.ns [(Y "width",.int 32),(Y "real_digits",.int 7)])] _ a:=bK e 0 rfl;refine b8 (df rfl ?_);refine cq rfl (bb g 0 rfl) tb_g% tb_g% (by show(2:Nat)≤100;exact(aH 2003365)) ?_;have h:aT [(hi,.ns [(Y "width",.int 32),(Y "real_digits",.int 7),(Y "double_digits",.int 15)])] _ a:=bK g 0 rfl;refine b8 (df rfl ?_);refine cq rfl (bb h 0 rfl) tb_g% tb_g% (by show(3:Nat)≤100;exact(aH 2003557)) ?_;have i:aT [(hi,.ns [(Y "width",.int 32),(Y "real_digits",.int 7),(Y "double_digits",.int 15),(Y "top_exponent",.int 38)])] _ a:=bK h 0 rfl;refine b8 (df rfl ?_);refine cq rfl (bb i 0 rfl) tb_g% tb_g% (by show(4:Nat)≤100;exact(aH 2003941)) ?_;have j:aT [(hi,.ns [(Y "width",.int 32),(Y "real_digits",.int 7),(Y "double_digits",.int 15),(Y "top_exponent",.int 38),(Y "steps",.int 1000000)])] _ a:=bK i 0 rfl;refine b8 (df rfl ?_);refine cq rfl (bb j 0 rfl) tb_g% tb_g% (by show(5:Nat)≤100;exact(aH 2004709)) ?_;have k:aT [(hi,.ns [(Y "width",.int 32),(Y "real_digits",.int 7),(Y "double_digits",.int 15),(Y "top_exponent",.int 38),(Y "steps",.int 1000000),(Y "continuations",.int 19)])] _ a:=bK j 0 rfl;refine b8 (df rfl ?_);refine cq rfl (bb k 0 rfl) tb_g% tb_g% (by show(6:Nat)≤100;exact(aH 2004517)) ?_;have l:aT [(hi,.ns [(Y "width",.int 32),(Y "real_digits",.int 7),(Y "double_digits",.int 15),(Y "top_exponent",.int 38),(Y "steps",.int 1000000),(Y "continuations",.int 19),(Y "columns",.int 72)])] _ a:=bK k 0 rfl;refine b8 (df rfl ?_);refine cq rfl (bb l 0 rfl) tb_g% tb_g% (by show(7:Nat)≤100;exact(aH 2005093)) ?_;have q:aT [(hi,.ns [(Y "width",.int 32),(Y "real_digits",.int 7),(Y "double_digits",.int 15),(Y "top_exponent",.int 38),(Y "steps",.int 1000000),(Y "continuations",.int 19),(Y "columns",.int 72),(Y "depth",.int 40)])] _ a:=bK l 0 rfl;exact kC ⟨rfl,m hi o _ q⟩
theorem Kk(y:∀(hi o g h k m q:Qo) (d:I),aT [(hi,.ns [(Y "kind",.str (Y "program")),(Y "name",.str (Y "P")),(Y "dummies",.lst []),(Y "entries",.ref g),(Y "symbols",.ref h),(Y "statements",.lst []),(Y "formats",.ref k),(Y "labels",.ref m),(Y "result",.none),(Y "commons",.lst []),(Y "equivs",.lst []),(Y "datas",.lst []),(Y "saves",.lst []),(Y "constants",.ref q)]),(g,.dict []),(h,.dict []),(k,.dict []),(m,.dict []),(q,.dict [])] d a→b (.inst 686 hi o) d):af (T+1) (.NS (.ref 686)) [.str (Y "program"),.str (Y "P")] b f a:=by
 refine mL (c:=683) tb_g% tb_g% Gh λo hi z A z=>mX (i:=[J (.inst 686 hi o),J (.str (Y "program")),J (.str (Y "P"))]) rfl rfl ?_;delta xv;have c:aT [(hi,.ns [])] _ a:=cC jc A;refine b8 (df rfl ?_);refine cq rfl (bb c 0 rfl) tb_g% tb_g% (by show(0:Nat)≤100;exact(aH 31369)) ?_;have e:aT [(hi,.ns [(Y "kind",.str (Y "program"))])] _ a:=bK c 0 rfl;refine b8 (df rfl ?_);refine cq rfl (bb e 0 rfl) tb_g% tb_g% (by show(1:Nat)≤100;exact(aH 31429)) ?_;have i:aT [(hi,.ns [(Y "kind",.str (Y "program")),(Y "name",.str (Y "P"))])] _ a:=bK e 0 rfl;refine b8 (cJ (cH (cK (by unfold a4;simp) ?_)));refine cq rfl (bb i 0 rfl) tb_g% tb_g% (by show(2:Nat)≤100;exact(aH 2003365)) ?_;have B:aT [(hi,.ns [(Y "kind",.str (Y "program")),(Y "name",.str (Y "P")),(Y "dummies",.lst [])])] _ a:=bK i 0 rfl;refine b8 (dL (cH (fq λg C=>?_)));have j:aT [(hi,.ns [(Y "kind",.str (Y "program")),(Y "name",.str (Y "P")),(Y "dummies",.lst [])]),(g,.dict [])] _ a:=cC B C;refine cq rfl (bb j 0 rfl) tb_g% tb_g% (by show(3:Nat)≤100;exact(aH 2003557)) ?_;have D:aT [(hi,.ns [(Y "kind",.str (Y "program")),(Y "name",.str (Y "P")),(Y "dummies",.lst []),(Y "entries",.ref g)]),(g,.dict [])] _ a:=bK j 0 rfl;refine b8 (dL (cH (fq λh E=>?_)));have l:aT [(hi,.ns [(Y "kind",.str (Y "program")),(Y "name",.str (Y "P")),(Y "dummies",.lst []),(Y "entries",.ref g)]),(g,.dict []),(h,.dict [])] _ a:=cC D E;refine cq rfl (bb l 0 rfl) tb_g% tb_g% (by show(4:Nat)≤100;exact(aH 2003941)) ?_;have n:aT [(hi,.ns [(Y "kind",.str (Y "program")),(Y "name",.str (Y "P")),(Y "dummies",.lst []),(Y "entries",.ref g),(Y "symbols",.ref h)]),(g,.dict []),(h,.dict [])] _ a:=bK l 0 rfl;refine b8 (cJ (cH (cK (by unfold a4;simp) ?_)));refine cq rfl (bb n 0 rfl) tb_g% tb_g% (by show(5:Nat)≤100;exact(aH 2004709)) ?_;have F:aT [(hi,.ns [(Y "kind",.str (Y "program")),(Y "name",.str (Y "P")),(Y "dummies",.lst []),(Y "entries",.ref g),(Y "symbols",.ref h),(Y "statements",.lst [])]),(g,.dict []),(h,.dict [])] _ a:=bK n 0 rfl;refine b8 (dL (cH (fq λk G=>?_)));have p:aT [(hi,.ns [(Y "kind",.str (Y "program")),(Y "name",.str (Y "P")),(Y "dummies",.lst []),(Y "entries",.ref g),(Y "symbols",.ref h),(Y "statements",.lst [])]),(g,.dict []),(h,.dict []),(k,.dict [])] _ a:=cC F G;refine cq rfl (bb p 0 rfl) tb_g% tb_g% (by show(6:Nat)≤100;exact(aH 2004517)) ?_;have H:aT [(hi,.ns [(Y "kind",.str (Y "program")),(Y "name",.str (Y "P")),(Y "dummies",.lst []),(Y "entries",.ref g),(Y "symbols",.ref h),(Y "statements",.lst []),(Y "formats",.ref k)]),(g,.dict []),(h,.dict []),(k,.dict [])] _ a:=bK p 0 rfl;refine b8 (dL (cH (fq λm K=>?_)));have r:aT [(hi,.ns [(Y "kind",.str (Y "program")),(Y "name",.str (Y "P")),(Y "dummies",.lst []),(Y "entries",.ref g),(Y "symbols",.ref h),(Y "statements",.lst []),(Y "formats",.ref k)]),(g,.dict []),(h,.dict []),(k,.dict []),(m,.dict [])] _ a:=cC H K;refine cq rfl (bb r 0 rfl) tb_g% tb_g% (by show(7:Nat)≤100;exact(aH 2005093)) ?_;have s:aT [(hi,.ns [(Y "kind",.str (Y "program")),(Y "name",.str (Y "P")),(Y "dummies",.lst []),(Y "entries",.ref g),(Y "symbols",.ref h),(Y "statements",.lst []),(Y "formats",.ref k),(Y "labels",.ref m)]),(g,.dict []),(h,.dict []),(k,.dict []),(m,.dict [])] _ a:=bK r 0 rfl;refine b8 (f8 ?_);refine cq rfl (bb s 0 rfl) tb_g% tb_g% (by show(8:Nat)≤100;exact(aH 2004325)) ?_;have t:aT [(hi,.ns [(Y "kind",.str (Y "program")),(Y "name",.str (Y "P")),(Y "dummies",.lst []),(Y "entries",.ref g),(Y "symbols",.ref h),(Y "statements",.lst []),(Y "formats",.ref k),(Y "labels",.ref m),(Y "result",.none)]),(g,.dict []),(h,.dict []),(k,.dict []),(m,.dict [])] _ a:=bK s 0 rfl;refine b8 (cJ (cH (cK (by unfold a4;simp) ?_)));refine cq rfl (bb t 0 rfl) tb_g% tb_g% (by show(9:Nat)≤100;exact(aH 2007013)) ?_;have u:aT [(hi,.ns [(Y "kind",.str (Y "program")),(Y "name",.str (Y "P")),(Y "dummies",.lst []),(Y "entries",.ref g),(Y "symbols",.ref h),(Y "statements",.lst []),(Y "formats",.ref k),(Y "labels",.ref m),(Y "result",.none),(Y "commons",.lst [])]),(g,.dict []),(h,.dict []),(k,.dict []),(m,.dict [])] _ a:=bK t 0 rfl;refine b8 (cJ (cH (cK (by unfold a4;simp) ?_)));refine cq rfl (bb u 0 rfl) tb_g% tb_g% (by show(10:Nat)≤100;exact(aH 2005669)) ?_;have v:aT [(hi,.ns [(Y "kind",.str (Y "program")),(Y "name",.str (Y "P")),(Y "dummies",.lst []),(Y "entries",.ref g),(Y "symbols",.ref h),(Y "statements",.lst []),(Y "formats",.ref k),(Y "labels",.ref m),(Y "result",.none),(Y "commons",.lst []),(Y "equivs",.lst [])]),(g,.dict []),(h,.dict []),(k,.dict []),(m,.dict [])] _ a:=bK u 0 rfl;refine b8 (cJ (cH (cK (by unfold a4;simp) ?_)));refine cq rfl (bb v 0 rfl) tb_g% tb_g% (by show(11:Nat)≤100;exact(aH 2010661)) ?_;have w:aT [(hi,.ns [(Y "kind",.str (Y "program")),(Y "name",.str (Y "P")),(Y "dummies",.lst []),(Y "entries",.ref g),(Y "symbols",.ref h),(Y "statements",.lst []),(Y "formats",.ref k),(Y "labels",.ref m),(Y "result",.none),(Y "commons",.lst []),(Y "equivs",.lst []),(Y "datas",.lst [])]),(g,.dict []),(h,.dict []),(k,.dict []),(m,.dict [])] _ a:=bK v 0 rfl;refine b8 (cJ (cH (cK (by unfold a4;simp) ?_)));refine cq rfl (bb w 0 rfl) tb_g% tb_g% (by show(12:Nat)≤100;exact(aH 2005285)) ?_;have L:aT [(hi,.ns [(Y "kind",.str (Y "program")),(Y "name",.str (Y "P")),(Y "dummies",.lst []),(Y "entries",.ref g),(Y "symbols",.ref h),(Y "statements",.lst []),(Y "formats",.ref k),(Y "labels",.ref m),(Y "result",.none),(Y "commons",.lst []),(Y "equivs",.lst []),(Y "datas",.lst []),(Y "saves",.lst [])]),(g,.dict []),(h,.dict []),(k,.dict []),(m,.dict [])] _ a:=bK w 0 rfl;refine b8 (dL (cH (fq λq M=>?_)));have x:aT [(hi,.ns [(Y "kind",.str (Y "program")),(Y "name",.str (Y "P")),(Y "dummies",.lst []),(Y "entries",.ref g),(Y "symbols",.ref h),(Y "statements",.lst []),(Y "formats",.ref k),(Y "labels",.ref m),(Y "result",.none),(Y "commons",.lst []),(Y "equivs",.lst []),(Y "datas",.lst []),(Y "saves",.lst [])]),(g,.dict []),(h,.dict []),(k,.dict []),(m,.dict []),(q,.dict [])] _ a:=cC L M;refine cq rfl (bb x 0 rfl) tb_g% tb_g% (by show(13:Nat)≤100;exact(aH 2010853)) ?_;have N:aT [(hi,.ns [(Y "kind",.str (Y "program")),(Y "name",.str (Y "P")),(Y "dummies",.lst []),(Y "entries",.ref g),(Y "symbols",.ref h),(Y "statements",.lst []),(Y "formats",.ref k),(Y "labels",.ref m),(Y "result",.none),(Y "commons",.lst []),(Y "equivs",.lst []),(Y "datas",.lst []),(Y "saves",.lst []),(Y "constants",.ref q)]),(g,.dict []),(h,.dict []),(k,.dict []),(m,.dict []),(q,.dict [])] _ a:=bK x 0 rfl;exact kC ⟨rfl,y hi o g h k m q _ N⟩
theorem Kl(y:∀(hi o ao g h k m Nb:Qo) (d:I),aT [(hi,.ns [(Y "memory",MU),(Y "limits",MY),(Y "units",.ref MZ),(Y "world",.none),(Y "expressions",.ref M0),(Y "statements",.ref M1),(Y "frame",.ref ao),(Y "depth",.int 0),(Y "steps",.int 0),(Y "places",.ref g),(Y "flows",.ref h),(Y "clears",.ref k),(Y "active",.lst []),(Y "loops",.ref m),(Y "operations",.ref Nb)]),(ao,.dict []),(g,.dict []),(h,.dict []),(k,.dict []),(m,.N5 []),(Nb,.dict [])] d a→b (.inst 330 hi o) d):af (T+1) (.NS (.ref 330)) [MU,MY,.ref MZ,.none,.ref M0,.ref M1] b f a:=by
 refine mL (c:=327) tb_g% tb_g% FG λo hi z A z=>mX (i:=[J (.inst 330 hi o),J (MU),J (MY),J (.ref MZ),J (.none),J (.ref M0),J (.ref M1)]) rfl rfl ?_;delta wQ;have c:aT [(hi,.ns [])] _ a:=cC jc A;refine b8 (df rfl ?_);refine cq rfl (bb c 0 rfl) tb_g% tb_g% (by show(0:Nat)≤100;exact(aH 31369)) ?_;have e:aT [(hi,.ns [(Y "memory",MU)])] _ a:=bK c 0 rfl;refine b8 (df rfl ?_);refine cq rfl (bb e 0 rfl) tb_g% tb_g% (by show(1:Nat)≤100;exact(aH 31429)) ?_;have i:aT [(hi,.ns [(Y "memory",MU),(Y "limits",MY)])] _ a:=bK e 0 rfl;refine b8 (df rfl ?_);refine cq rfl (bb i 0 rfl) tb_g% tb_g% (by show(2:Nat)≤100;exact(aH 2003365)) ?_;have j:aT [(hi,.ns [(Y "memory",MU),(Y "limits",MY),(Y "units",.ref MZ)])] _ a:=bK i 0 rfl;refine b8 (df rfl ?_);refine cq rfl (bb j 0 rfl) tb_g% tb_g% (by show(3:Nat)≤100;exact(aH 2003557)) ?_;have l:aT [(hi,.ns [(Y "memory",MU),(Y "limits",MY),(Y "units",.ref MZ),(Y "world",.none)])] _ a:=bK j 0 rfl;refine b8 (df rfl ?_);refine cq rfl (bb l 0 rfl) tb_g% tb_g% (by show(4:Nat)≤100;exact(aH 2003941)) ?_;have n:aT [(hi,.ns [(Y "memory",MU),(Y "limits",MY),(Y "units",.ref MZ),(Y "world",.none),(Y "expressions",.ref M0)])] _ a:=bK l 0 rfl;refine b8 (df rfl ?_);refine cq rfl (bb n 0 rfl) tb_g% tb_g% (by show(5:Nat)≤100;exact(aH 2004709)) ?_;have B:aT [(hi,.ns [(Y "memory",MU),(Y "limits",MY),(Y "units",.ref MZ),(Y "world",.none),(Y "expressions",.ref M0),(Y "statements",.ref M1)])] _ a:=bK n 0 rfl;refine b8 (dL (cH (fq λao C=>?_)));have p:aT [(hi,.ns [(Y "memory",MU),(Y "limits",MY),(Y "units",.ref MZ),(Y "world",.none),(Y "expressions",.ref M0),(Y "statements",.ref M1)]),(ao,.dict [])] _ a:=cC B C;refine cq rfl (bb p 0 rfl) tb_g% tb_g% (by show(6:Nat)≤100;exact(aH 2004517)) ?_;have q:aT [(hi,.ns [(Y "memory",MU),(Y "limits",MY),(Y "units",.ref MZ),(Y "world",.none),(Y "expressions",.ref M0),(Y "statements",.ref M1),(Y "frame",.ref ao)]),(ao,.dict [])] _ a:=bK p 0 rfl;refine b8 (f8 ?_);refine cq rfl (bb q 0 rfl) tb_g% tb_g% (by show(7:Nat)≤100;exact(aH 2005093)) ?_;have r:aT [(hi,.ns [(Y "memory",MU),(Y "limits",MY),(Y "units",.ref MZ),(Y "world",.none),(Y "expressions",.ref M0),(Y "statements",.ref M1),(Y "frame",.ref ao),(Y "depth",.int 0)]),(ao,.dict [])] _ a:=bK q 0 rfl;refine b8 (f8 ?_);refine cq rfl (bb r 0 rfl) tb_g% tb_g% (by show(8:Nat)≤100;exact(aH 2004325)) ?_;have D:aT [(hi,.ns [(Y "memory",MU),(Y "limits",MY),(Y "units",.ref MZ),(Y "world",.none),(Y "expressions",.ref M0),(Y "statements",.ref M1),(Y "frame",.ref ao),(Y "depth",.int 0),(Y "steps",.int 0)]),(ao,.dict [])] _ a:=bK r 0 rfl;refine b8 (dL (cH (fq λg E=>?_)));have s:aT [(hi,.ns [(Y "memory",MU),(Y "limits",MY),(Y "units",.ref MZ),(Y "world",.none),(Y "expressions",.ref M0),(Y "statements",.ref M1),(Y "frame",.ref ao),(Y "depth",.int 0),(Y "steps",.int 0)]),(ao,.dict []),(g,.dict [])] _ a:=cC D E;refine cq rfl (bb s 0 rfl) tb_g% tb_g% (by show(9:Nat)≤100;exact(aH 2007013)) ?_;have F:aT [(hi,.ns [(Y "memory",MU),(Y "limits",MY),(Y "units",.ref MZ),(Y "world",.none),(Y "expressions",.ref M0),(Y "statements",.ref M1),(Y "frame",.ref ao),(Y "depth",.int 0),(Y "steps",.int 0),(Y "places",.ref g)]),(ao,.dict []),(g,.dict [])] _ a:=bK s 0 rfl;refine b8 (dL (cH (fq λh G=>?_)));have t:aT [(hi,.ns [(Y "memory",MU),(Y "limits",MY),(Y "units",.ref MZ),(Y "world",.none),(Y "expressions",.ref M0),(Y "statements",.ref M1),(Y "frame",.ref ao),(Y "depth",.int 0),(Y "steps",.int 0),(Y "places",.ref g)]),(ao,.dict []),(g,.dict []),(h,.dict [])] _ a:=cC F G;refine cq rfl (bb t 0 rfl) tb_g% tb_g% (by show(10:Nat)≤100;exact(aH 2005669)) ?_;have H:aT [(hi,.ns [(Y "memory",MU),(Y "limits",MY),(Y "units",.ref MZ),(Y "world",.none),(Y "expressions",.ref M0),(Y "statements",.ref M1),(Y "frame",.ref ao),(Y "depth",.int 0),(Y "steps",.int 0),(Y "places",.ref g),(Y "flows",.ref h)]),(ao,.dict []),(g,.dict []),(h,.dict [])] _ a:=bK t 0 rfl;refine b8 (dL (cH (fq λk K=>?_)));have u:aT [(hi,.ns [(Y "memory",MU),(Y "limits",MY),(Y "units",.ref MZ),(Y "world",.none),(Y "expressions",.ref M0),(Y "statements",.ref M1),(Y "frame",.ref ao),(Y "depth",.int 0),(Y "steps",.int 0),(Y "places",.ref g),(Y "flows",.ref h)]),(ao,.dict []),(g,.dict []),(h,.dict []),(k,.dict [])] _ a:=cC H K;refine cq rfl (bb u 0 rfl) tb_g% tb_g% (by show(11:Nat)≤100;exact(aH 2010661)) ?_;have v:aT [(hi,.ns [(Y "memory",MU),(Y "limits",MY),(Y "units",.ref MZ),(Y "world",.none),(Y "expressions",.ref M0),(Y "statements",.ref M1),(Y "frame",.ref ao),(Y "depth",.int 0),(Y "steps",.int 0),(Y "places",.ref g),(Y "flows",.ref h),(Y "clears",.ref k)]),(ao,.dict []),(g,.dict []),(h,.dict []),(k,.dict [])] _ a:=bK u 0 rfl;refine b8 (cJ (cH (cK (by unfold a4;simp) ?_)));refine cq rfl (bb v 0 rfl) tb_g% tb_g% (by show(12:Nat)≤100;exact(aH 2005285)) ?_;have L:aT [(hi,.ns [(Y "memory",MU),(Y "limits",MY),(Y "units",.ref MZ),(Y "world",.none),(Y "expressions",.ref M0),(Y "statements",.ref M1),(Y "frame",.ref ao),(Y "depth",.int 0),(Y "steps",.int 0),(Y "places",.ref g),(Y "flows",.ref h),(Y "clears",.ref k),(Y "active",.lst [])]),(ao,.dict []),(g,.dict []),(h,.dict []),(k,.dict [])] _ a:=bK v 0 rfl;refine b8 (dL (cH (IN λm M=>?_)));have w:aT [(hi,.ns [(Y "memory",MU),(Y "limits",MY),(Y "units",.ref MZ),(Y "world",.none),(Y "expressions",.ref M0),(Y "statements",.ref M1),(Y "frame",.ref ao),(Y "depth",.int 0),(Y "steps",.int 0),(Y "places",.ref g),(Y "flows",.ref h),(Y "clears",.ref k),(Y "active",.lst [])]),(ao,.dict []),(g,.dict []),(h,.dict []),(k,.dict []),(m,.N5 [])] _ a:=cC L M;refine cq rfl (bb w 0 rfl) tb_g% tb_g% (by show(13:Nat)≤100;exact(aH 2010853)) ?_;have N:aT [(hi,.ns [(Y "memory",MU),(Y "limits",MY),(Y "units",.ref MZ),(Y "world",.none),(Y "expressions",.ref M0),(Y "statements",.ref M1),(Y "frame",.ref ao),(Y "depth",.int 0),(Y "steps",.int 0),(Y "places",.ref g),(Y "flows",.ref h),(Y "clears",.ref k),(Y "active",.lst []),(Y "loops",.ref m)]),(ao,.dict []),(g,.dict []),(h,.dict []),(k,.dict []),(m,.N5 [])] _ a:=bK w 0 rfl;refine b8 (dL (cH (fq λNb O=>?_)));have x:aT [(hi,.ns [(Y "memory",MU),(Y "limits",MY),(Y "units",.ref MZ),(Y "world",.none),(Y "expressions",.ref M0),(Y "statements",.ref M1),(Y "frame",.ref ao),(Y "depth",.int 0),(Y "steps",.int 0),(Y "places",.ref g),(Y "flows",.ref h),(Y "clears",.ref k),(Y "active",.lst []),(Y "loops",.ref m)]),(ao,.dict []),(g,.dict []),(h,.dict []),(k,.dict []),(m,.N5 []),(Nb,.dict [])] _ a:=cC N O;refine cq rfl (bb x 0 rfl) tb_g% tb_g% (by show(14:Nat)≤100;exact(aH 2011045)) ?_;have P:aT [(hi,.ns [(Y "memory",MU),(Y "limits",MY),(Y "units",.ref MZ),(Y "world",.none),(Y "expressions",.ref M0),(Y "statements",.ref M1),(Y "frame",.ref ao),(Y "depth",.int 0),(Y "steps",.int 0),(Y "places",.ref g),(Y "flows",.ref h),(Y "clears",.ref k),(Y "active",.lst []),(Y "loops",.ref m),(Y "operations",.ref Nb)]),(ao,.dict []),(g,.dict []),(h,.dict []),(k,.dict []),(m,.N5 []),(Nb,.dict [])] _ a:=bK x 0 rfl;exact kC ⟨rfl,y hi o ao g h k m Nb _ P⟩
end
theorem Km{c:List Int}(e:c.length≤63)(d:b (.lst ((c.take 40).map .int)) a):nx (.lst (c.map .int)) U (J (.int 40)) b a:=by
 refine⟨(c.map V.int).take 40,(Qt (by decide):(if 0≤(40:Int)∧(40:Int)≤a4 then J ((c.map V.int).take 40)else U)=_),?_⟩;refine Q (Rj (List.map_take ..)) (cK ?_ d);refine Q (QL ..) (Q (Wy ..) ?_);exact Qv (Nat.min_le_left _ _) (by decide)
theorem Kn:∀(ap:List aW) (g:List V),eW (g++ap.map cL) b a→fS (λh k m d=>av ab j (.tup [.v 1,.v 2,.k (.int 1)]) h k m d) Qq [1,2] (gN [] 3 i) (ap.map jW) g b (λZ=>False) a:=by
 intro ap;induction ap with
 |nil=>
  intro g c;rw [List.map_nil,RI]at c;exact m5 c
 |cons f ap e=>
  intro g c;rw [Rv]at c;refine m4 rfl ?_;lk;refine e _ (Q (QW ..) ?_);exact c
def sw(a b c d e:Qo):List (QA×V):=[(Y "kind",.str (Y "program")),(Y "name",.str (Y "P")),(Y "dummies",.lst []),(Y "entries",.ref a),(Y "symbols",.ref b),(Y "statements",.lst []),(Y "formats",.ref c),(Y "labels",.ref d),(Y "result",.none),(Y "commons",.lst []),(Y "equivs",.lst []),(Y "datas",.lst []),(Y "saves",.lst []),(Y "constants",.ref e)]
def fb(a b c d e:Qo)(ns:List V):List (QA×V):=[(Y "kind",.str (Y "program")),(Y "name",.str (Y "P")),(Y "dummies",.lst []),(Y "entries",.ref a),(Y "symbols",.ref b),(Y "statements",.lst ns),(Y "formats",.ref c),(Y "labels",.ref d),(Y "result",.none),(Y "commons",.lst []),(Y "equivs",.lst []),(Y "datas",.lst []),(Y "saves",.lst []),(Y "constants",.ref e)]
theorem Ko(a b c d e:Qo)(f:List V):fh (Y "statements") (.lst f) (sw a b c d e)=fb a b c d e f:=by kernel_rfl
theorem Kp{b:Qo}{c:List V}{d:I→Prop}(e:a ud=J (.ns (sw b u2 u3 u4 u5)))(f:g=c)(h:d (a.set ud (.ns (fb b u2 u3 u4 u5 c)))):hN ab (.inst 686 ud ua) (Y "statements") (.lst g) d a:=by
 subst f;refine i7 e tb_g% (by show(14:Nat)≤100;exact(aH 2011045)) (Q (Ko ..) ?_);exact h
theorem Kq{c:List V}(d:eW (c++Nc) b a):fA .add (.lst c) (.lst Nc) b a:=d
theorem Kr{b:V→List V→Prop}(c:a e=J (.dict O))(d:b (.NS (.builtin "dict.update")) [.ref e]):gl n (.ref e) (Y "update") a b:=by
 refine im (c:=[.ref e]) ?_ d;show pP _ _ (a e)=_;refine Q (c ..) ?_;kernel_rfl
theorem Ks{c:Qo}(d:a e=J (.dict O))(f:a c=J (.dict hx))(g:e≠c)(h:O.length+hx.length<a4)(i:b .none (a.set e (.dict (hx.foldl (λA l0=>bC l0.1 l0.2 A) O)))):et "dict.update" [.ref e,.ref c] b a:=by
 exact⟨_,d,_,f,O,hx,rfl,rfl,g,h,i⟩
theorem Kt:eF.foldl (λA l0=>bC l0.1 l0.2 A) lA=e6:=by kernel_rfl
def ge(a b:V)(c d e f g h i j k:Qo):List (QA×V):=[(Y "memory",a),(Y "limits",b),(Y "units",.ref c),(Y "world",.none),(Y "expressions",.ref d),(Y "statements",.ref e),(Y "frame",.ref f),(Y "depth",.int 0),(Y "steps",.int 0),(Y "places",.ref g),(Y "flows",.ref h),(Y "clears",.ref i),(Y "active",.lst []),(Y "loops",.ref j),(Y "operations",.ref k)]
theorem Ku(a b:V)(c d e f g h i j l k:Qo):fh (Y "operations") (.ref k) (ge a b c d e f g h i j l)=ge a b c d e f g h i j k:=by kernel_rfl
theorem Kv{b c:Qo}{d:I→Prop}(e:a Nm=J (.ns (ge MU MY MZ M0 M1 b pl fw cl lpd Nb)))(f:d (a.set Nm (.ns (ge MU MY MZ M0 M1 b pl fw cl lpd c)))):hN ab (.inst 330 Nm Nt) (Y "operations") (.ref c) d a:=by
 refine i7 e tb_g% (by show(15:Nat)≤100;exact(aH 2006629)) (Q (Ku ..) ?_);exact f
theorem zq{a:Nu}:[a].Nodup:=QZ.mpr ⟨(λb=>by exact fu b),Rq⟩
def Kw:List V:=[.str (Y "A"),.str (Y "B"),.str (Y "C"),.str (Y "I"),.str (Y "J"),.str (Y "K")]
def jh(b:List V)(a:Nat):List V:=(b.take a).map (λs=>V.tup [.int 0,s])++Q6 (7-a) .none
theorem Kx(a b c d e f:Int):∀z:Nat,z<6→∃H2:QA,∃t:V,bW Kw (SF z)=J (.str H2)∧bC (.inr H2:am) (fo z) (e7.take z)=e7.take (z+1)∧bW (bS [a,b,c,d,e,f]) (SF z)=J t∧gk (jh (bS [a,b,c,d,e,f]) z) (z:Int) (.tup [.int 0,t])=J (jh (bS [a,b,c,d,e,f]) (z+1))
 |0,_=>(ji (Y "A") (.int a) rfl tb_g% rfl tb_g%)
 |1,_=>(ji (Y "B") (.int b) rfl tb_g% rfl tb_g%)
 |2,_=>(ji (Y "C") (.int c) rfl tb_g% rfl tb_g%)
 |3,_=>(ji (Y "I") (.int d) rfl tb_g% rfl tb_g%)
 |4,_=>(ji (Y "J") (.int e) rfl tb_g% rfl tb_g%)
 |5,_=>(ji (Y "K") (.int f) rfl tb_g% rfl tb_g%)
 |T+6,g=>Rz g ‹(aN 747398468060874036) g›
theorem Ky{b:V→List V→Prop}(c:a MK=J (.ns (dh MN)))(d:b (.NS (.ref 131)) [.inst 141 MK M3]):gl ab (.inst 141 MK M3) (Y "store") a b:=by
 refine im (c:=[.inst 141 MK M3]) ?_ d;show nz _ _ _ _ (a MK)=_;refine Q (c ..) ?_;kernel_rfl
theorem Kz{b:V→List V→Prop}(c:a MK=J (.ns (dh MN)))(d:b (.NS (.ref 124)) [.inst 141 MK M3]):gl ab (.inst 141 MK M3) (Y "load") a b:=by
 refine im (c:=[.inst 141 MK M3]) ?_ d;show nz _ _ _ _ (a MK)=_;refine Q (c ..) ?_;kernel_rfl
abbrev KA:List N:=[.asg (.item (.attr (.v 7) (Y "frame")) (.sub (.k (.lst [.str (Y "A"),.str (Y "B"),.str (Y "C"),.str (Y "I"),.str (Y "J"),.str (Y "K")])) (.v 9))) (.tup [.k (.int 0),.v 9,.k (.int 0),.tup []]),.expr (.NY (.v 5) (Y "store") [.tup [.k (.int 0),.v 9,.k (.int 0),.tup []],.sub (.v 8) (.v 9)])]
abbrev h5(a b c M5 MQ c2 hh rt MV:V)(d e f g:Option V):aq:=[J a,J b,J c,J M5,J MQ,J c2,J hh,J rt,J MV,d,e,f,g,U,U,U,U,U,U,U,U,U,U,U,U,U,U,U,U,U]
theorem KC{y A B:V}{b e K:Qo}{C:bF}:∀(kw z:Nat) (a:I) (bl:Option V),z+kw=6→a Nm=J (.ns (ge MU MY MZ M0 M1 b pl fw cl lpd K))→a MK=J (.ns (dh MN))→a e=J (.list (bS [g,h,k,m,q,M]))→a b=J (.dict (e7.take z))→a MN=J (.list (jh (bS [g,h,k,m,q,M]) z))→
  b≠Nm→b≠MK→b≠e→b≠MN→MN≠Nm→MN≠MK→MN≠e→(∀d ht,d b=J (.dict (e7.take 6))→d MN=J (.list (jh (bS [g,h,k,m,q,M]) 6))→(∀o,o≠b→o≠MN→d o=a o)→C .NX (h5 hv it lb y A (.inst 141 MK M3) B (.inst 330 Nm Nt) (.ref e) ht U U U) d)→
  c0 ab (af 20) (.name 9) (λno t0 ua d=>aw ab (af 20) KA no t0 ua d) ((SQ z kw).map λ(us:Nat)=>V.int (SF us)) (h5 hv it lb y A (.inst 141 MK M3) B (.inst 330 Nm Nt) (.ref e) bl U U U) C ML a:=by
 intro kw;induction kw with
 |zero=>
  intro z a bl c i D E j l n p r f s t u v;obtain rfl:z=6:=by exact(aN 60782417843556) c
  exact gA (v a bl j l λF F F=>rfl)
 |succ kw L=>
  intro z a bl c i D E j l n p r f s t u v;refine hC (Kx g h k m q M z ‹(ak 243091017290100) c›) λaa ad N O bq P=>Q (S5 ..) (Q (Rv ..) ?_);refine iu ?_;lk;refine c3 (s:=.ref b) i tb_g% tb_g% rfl ?_;lk;refine cc N ?_;lk;have w:z≤6:=c▸QU _ _;have R:(e7.take z).length≤6:=Qv (RT Wy) (Qv (Nat.min_le_left _ _) w);refine hq j rfl (by unfold a4;exact(aN 44852878092) R) (Q (show V.tup [.int 0,.int (SF z),.int 0,.tup []]=fo z from rfl) (Q (O ..) ?_));lk;have x:(a.set b (.dict (e7.take (z+1)))) MK=J (.ns (dh MN)):=by refine Q (a0 (RY p) ..) ?_;exact D
  have S:(a.set b (.dict (e7.take (z+1)))) e=J (.list (bS [g,h,k,m,q,M])):=by refine Q (a0 (RY r) ..) ?_;exact E
  have T:(a.set b (.dict (e7.take (z+1)))) MN=J (.list (jh (bS [g,h,k,m,q,M]) z)):=by refine Q (a0 (RY f) ..) ?_;exact l
  refine Ky x ?_;lk;have W:(jh (bS [g,h,k,m,q,M]) z).length=7:=by unfold jh bS;simp;exact Q (Nat.min_eq_left w ..) (Q (Nat.add_sub_cancel' (RW w) ..) rfl)
  refine oO (T:=16) (l:=z) x T ‹(au 17582385604593439092) c W› ‹(ak 183717389390196) c› P ?_;lk;refine e8 (L (z+1) _ _ ‹(ak 996061559589163380) c› ?_ ?_ ?_ ?_ bJ n p r f s t u λd ht X Y Z=>v d ht X Y λo G H=>?_)
  ·refine Q (a0 (RY s) ..) (Q (a0 (RY n) ..) ?_);exact i
  ·refine Q (a0 (RY t) ..) ?_;exact x
  ·refine Q (a0 (RY u) ..) ?_;exact S
  ·refine Q (a0 f ..) ?_;exact bJ
  ·exact Q (Z o G H ..) (Q (a0 H ..) (Q (a0 G ..) rfl))
theorem sq{b:Qo}{h i:aK}(k:d e=J h)(l:d b=J i)(c:∀o,o≠e→o≠b→d o=a o)(j:e≠b):d=(a.set e h).set b i:=by
 funext o;by_cases f:o=b
 ·clear c j;subst f;refine Q (bJ ..) ?_;exact l
 ·refine Q (a0 f ..) ?_;by_cases g:o=e
  ·clear c j;subst g;refine Q (bJ ..) ?_;exact k
  ·refine Q (a0 g ..) ?_;exact c o g f
theorem KD:bC (.inr (Y "L"):am) (V.tup [.int 0,.int 6,.int 0,.tup []]) (e7.take 6)=e7:=by kernel_rfl
theorem KE{a:aP}{g:cb}(h:cD Qq 0 a)(c:ba a≤13820)(i:eN (cw a u) (br a+1) 0 gx=J ⟨g,[],[]⟩)(k:(cw a u).length=br a+1):∀s0 t,oV ⟨s0,cw a u,g,t⟩ (br a+1):=by
 intro s0 t;have cA:=d8 a Qq 0 h;have l:=wr (ca:=br a+1) _ _ _ _ i (Fk _) ‹(aN 3948697)›;have j:=wt (ca:=br a+1) _ _ _ _ i (Fn _) ‹(aN 3948697)›;refine⟨?_,?_,by exact(aE 36043901714375388110122200) cA c,?_,λd e f=>?_,λd e f=>?_⟩
 ·intro m b;rcases Ro.mp b with b|b
  ·exact ij a Qq 0 0 0 u h m b
  ·refine Q (Rk.mp b ..) ?_;trivial
 ·show(cw a u).length<_;exact(bU 1335374165725052442289403194584) cA k c
 ·exact l.le
 ·have:=j.Pq d e f;exact(bU 1335374165725050037657473248472) cA this c
 ·have:=j.bn d e f;exact(bU 1335374165725050037657473248472) cA this c
def kT(a:aJ):Bool:=by cases a with
 |fault=>exact Qp
 |_=>exact Qq
theorem KG(b c:Int)(a:aJ):decide (gZ b c a=[.inr (Y "fault")])=kT a:=by
 induction a using aJ.casesOn with
 |fault=>exact QD rfl
 |_=>exact Qx (lM (by decide))
theorem KH{b c:Bool}(d:L (!(b==c)) a):co .NotEq (.bool b) (.bool c) L a:=⟨!(b==c),rfl,d⟩
theorem KI{b:List Int}(c:a e=J (.list (b.map .int)))(d:L Qp a):co .Eq (.lst (b.map .int)) (.ref e) L a:=by
 refine⟨Qp,?_,d⟩;show pM (b.map .int) (k5 (.ref e) (a e))=_;refine Q (c ..) ?_;show(cZ _).bind _=_;rw [r2];exact QP J (QD rfl)
theorem KJ{a:List Int}(d:a.length=6):∀z:Nat,z<6→∃o,a[z]? =J o∧bW (da a bi) (z:Int)=J (.tup [.int 0,.int o]):=by
 intro z c;have b:z<a.length:=by refine Q (d ..) ?_;exact c
 refine aU (a[z]) (Rh b) ?_;unfold bW da;rw [Qt ‹(aN 3345783588) c›,RE,SD (by rw [QL];exact b),Rb,Rh b];rfl
theorem KL{e:List Int}(i:j=af 20)(f:e.length=6)(h:a MK=J (.ns (dh MN)))(k:a MN=J (.list (da e bi))):∀(kw z:Nat),z+kw=6→(eW (e.map .int) b a)→fS (λm q M d=>av ab j (.NY (.v 3) (Y "load") [.tup [.k (.int 0),.v 1,.k (.int 0),.tup []]]) m q M d) Qp [1] [U,U,U,J (.inst 141 MK M3)] ((SQ z kw).map λ(us:Nat)=>V.int (SF us)) ((e.take z).map .int) b (λZ=>False) a:=by
 subst i;intro kw;induction kw with
 |zero=>
  intro z c g;refine m5 ?_;rw [List.take_of_length_le ‹(ak 74828021125387620) c f›];exact g
 |succ kw l=>
  intro z c g;refine ae (KJ (bi:=bi) f z ‹(ak 243091017290100) c›) λp n o=>?_;rw [S5,Rv];refine m4 rfl ?_;lk;refine Kz h ?_;lk;refine rW (T:=16) (l:=z) h k (by unfold da;simp;exact(au 302118741336559178100) c f) ‹(ak 183717389390196) c› o ?_;have:=l (z+1) ‹(ak 996061559589163380) c› g;rw [List.take_succ,n,Rp]at this;exact this
theorem KN{j k l m:V}{c:Qo}{b:aP}(d:cD Qq 0 b)(n:cT (2*(3-0)) b)(o:ba b≤13820)(q:bs 4 p)(e:a MK=J (.ns (dh MN)))(f:a MN=J (.list (da (bv b p).2 bi)))(r:a c=J (.list (bS p)))(s:MK≠c)(t:MN≠c):
  aw ab (af 20) mI (h5 M bl (.lst (a8 0 0 b)) j k (.inst 141 MK M3) l m (.ref c) cl (J (.bool (kT (bv b p).1))) (J (.int 0)) U) (λa1 Z Z=>a1=.N9 (.bool Qp)) (λZ Z=>False) a:=by
 have cA:=d8 b Qq 0 d;unfold mI;lk;refine(Jp b).go (T:=20) (l:=2*(3-0)) (h1:=4) (ho:=Qq) (cp:=0) (D:=0) (E:=0) r q ‹(aH 1020901)› ‹(aE 80374764614322582128376867843288) cA o› d n ‹(aN 1847829834959014716) (az _ _)› λg h u i=>?_;have v:g MK=J (.ns (dh MN)):=by rw [h MK s (by rw [e];simp)];exact e
 have w:g MN=J (.list (da (bv b p).2 bi)):=by rw [h MN t (by rw [f];simp)];exact f
 refine Q (lL ..) ?_;lk;refine mY (kN _ _ _) rfl (KG _ _ _) ?_;lk;refine KH ?_;lk;refine Q (show(!(kT (bv b p).1==kT (bv b p).1))=Qq by simp) ⟨λx=>‹bG x.symm›,λZ=>?_⟩;lk;refine jg ?_;lk;refine(aU _ (lS ‹(aH 4729251602046)›) ?_);refine Q (show b9 6=(SQ 0 6).map λ(y:Nat)=>V.int (SF y)from rfl) (KL (MK:=MK) (M3:=M3) (MN:=MN) (e:=(bv b p).2) (bi:=bi) rfl i.1 v w 6 0 rfl (cK (by refine Q (QL ..) (Q (i.1 ..) ?_);show(6:Nat)≤1000000;exact(aH 1218085)) ?_));lk;refine KI u ?_;lk;rfl
theorem KO:∀x:aJ,ov x=.ret→Qq=kT x:=by
 intro x;induction x using aJ.casesOn<;>intro a<;>first|rfl|cases a
theorem KP:∀x:aJ,ov x=.fault→Qp=kT x:=by
 intro x;induction x using aJ.casesOn<;>intro a<;>first|rfl|cases a
theorem KQ{c:bF}{b:bt}(d:aw n j r i (e5 n j A c b) (λg h=>aw n j k g (e5 n j A c b) b h) a):aw n j (.try r k::A) i c b a:=by
 exact d
theorem MI:∀k:List Int,k.length≤63→aw ab (dr ab 20) mu ((Q6 eK.length U).set 0 (J (.lst (k.map .int)))) (λa1 Z Z=>a1=.N9 (.bool Qp)) (λZ Z=>False) (λZ=>U):=by
 intro k a0;refine Q (Gy ..) (Q (Gz ..) (Q (lz ..) ?_));change aw ab (af 20) (rB++(.try rC [.asg (.name 10) (.k (.bool Qp))]::mI)) [J (.lst (k.map .int)),U,U,U,U,U,U,U,U,U,U,U,U,U,U,U,U,U,U,U,U,U,U,U,U,U,U,U,U,U] _ _ _;unfold rB;simp only [Ux,WL];have a2:aT [] (λZ=>(U:Option aK)) (λZ=>U):=jc;lk;refine cJ ?_;lk;refine Km a0 ?_;lk;refine jM (by show(4:Nat)≤1000000;exact(aH 1217509)) λj a3=>?_;have a5:aT [(j,.list [.lst ((k.take 40).map .int),.int 0,.int 9,.int 100])] _ _:=cC a2 a3;have a6:cy j (k.take 40) 0 9 100 (I.set (λZ=>U) j (.list [.lst ((k.take 40).map .int),.int 0,.int 9,.int 100])):=bJ;have ai:cd 0=16964:=by decide+kernel
 have aj:bO 0=314:=by decide+kernel
 have L:cO 0=3455:=by decide+kernel
 lk;refine cJ (cH (cK (by unfold a4;simp) ?_));lk;refine J9.go (T:=20) (cA:=4) (ho:=Qq) (cp:=0) (D:=0) (E:=0) a6 ‹(aH 16069)› ‹(aH 1020901)› ‹(aH 1226)› (by refine Q (ai ..) ?_;exact(aH 885138699345052)) ‹(aH 31370)› (by refine Q (aj ..) ?_;exact(aH 221285480036956)) ‹(aH 9837562031742)› ‹(aH 31370)› ‹(aN 1847594195873286972) (az _ _)› λa n p c aa ad aG F a9 av al cm ax am bc=>?_;have bd:aa j=J (.list [.lst ((k.take 40).map .int),.int n,.int p,.int c]):=a9;have be:aT [(j,.list [.lst ((k.take 40).map .int),.int n,.int p,.int c])] aa _:=o3 a5 0 rfl bd (λR C Z=>bc R C);lk;refine cJ (cH (jM (by unfold a4;simp) λM bf=>?_));have bg:aT [(j,.list [.lst ((k.take 40).map .int),.int n,.int p,.int c]),(M,.list [])] (aa.set M (.list [])) (λZ=>U):=cC be bf;lk;refine dL (cH (fq λan bh=>?_));have W:aT [(j,.list [.lst ((k.take 40).map .int),.int n,.int p,.int c]),(M,.list []),(an,.dict [])] ((aa.set M (.list [])).set an (.dict [])) (λZ=>U):=cC bg bh;have bi:bT M an j (.lst ((k.take 40).map .int)) (.int n) (.int p) [] [] c ((aa.set M (.list [])).set an (.dict [])):=⟨bb W 1 rfl,bb W 2 rfl,bb W 0 rfl,dM W 1 2 rfl rfl (by decide),dM W 1 0 rfl rfl (by decide),dM W 2 0 rfl rfl (by decide)⟩;have aI:ba a≤13820:=by rw [L]at F;exact(aN 179515071465996) F
 have N:=d8 a Qq 0 ad;have ap:(0:Int)≤c:=by exact(aC 4080382896518985748369660872) ax aj am
 have cn:c≤1356:=by rw [aj]at am;exact(ay 221190498778727377136540616) ax am
 lk;refine(JS a).go (T:=20) (l:=2*(3-0)) (ho:=Qq) (cp:=0) (D:=0) (E:=0) (ns:=0) (sb:=0) bi ⟨by simp;exact(ak 1147016443158399828) L F,by simp;exact(ak 1147016443158399828) L F,by exact(ay 2728824) ap,by exact(zP 3341030611388470243363365528897069865086565912234525690165222344) ax N aj L am F⟩ ad aG ‹(aN 1847711087703214908) (az _ _)› ⟨by exact(aH 1226),by exact(aH 1226),λbj=>by cases bj⟩ λbk co aA S Z Z=>?_;have bl:aT [(M,.list ((b0 a 0 0 c).map jW)),(j,.list [.lst ((k.take 40).map .int),.int n,.int p,.int (c+aF a)])] bk (λZ=>U):=by
  refine⟨?_,λZ Z=>rfl,λcp ag=>?_,λR C=>(C rfl).elim⟩
  ·simp [aA.Qg]
  ·rcases QX.mp ag with rfl|ag
   ·exact aA.On
   ·rcases QX.mp ag with rfl|ag
    ·exact aA.p
    ·exact fu ag
 lk;refine Kk λb x d e f g h bm bn=>?_;have aL:=kS bl bn;lk;refine jg (rP rfl (bb aL 0 rfl) ((aU ((b0 a 0 0 c).map jW) rfl ?_)));refine Kn _ _ (Q (WL ..) (cK (by refine Q (QL ..) (Q (dd ..) ?_);unfold a4;exact(bU 85025425326676851255624168238296) N L F) ?_));have aM:aT [(j,.list [.lst ((k.take 40).map .int),.int n,.int p,.int (c+aF a)]),(b,.ns (sw d e f g h)),(d,.dict []),(e,.dict []),(f,.dict []),(g,.dict []),(h,.dict [])] (bm.del M) (λZ=>U):=Ka aL;lk;refine cJ ?_;lk;refine cK (by show(1:Nat)≤1000000;exact(aH 19141)) ?_;lk;refine Kq (cK (y:=(b0 a 0 0 c).map cL++[.tup [.int 0,.tup [.str (Y "end")],.int 1]]) (by refine Q (Qr ..) (Q (QL ..) (Q (dd ..) ?_));show _+1≤1000000;exact(bU 1360601524110494956470163147975896) N L F) ?_);lk;refine Kp (c:=(cw a c).map cL) (bb aM 1 rfl) ?_ ?_
 ·unfold cw;refine Q (Rp ..) ?_;rfl
 have bo:aT [(j,.list [.lst ((k.take 40).map .int),.int n,.int p,.int (c+aF a)]),(b,.ns (fb d e f g h ((cw a c).map cL))),(d,.dict []),(e,.dict []),(f,.dict []),(g,.dict []),(h,.dict [])] _ (λZ=>U):=bK aM 1 rfl;lk;refine Ki λl D i cq bp=>?_;have bq:=kS bo bp;lk;refine Kc λm cr bt=>?_;have aO:=kS bq bt;lk;refine Kr (bb aO 9 rfl) ?_;lk;refine Ke λy cs bu=>?_;have aq:aT [(j,.list [.lst ((k.take 40).map .int),.int n,.int p,.int (c+aF a)]),(b,.ns (fb d e f g h ((cw a c).map cL))),(d,.dict []),(e,.dict []),(f,.dict []),(g,.dict []),(h,.dict []),(l,.ns (dh i)),(i,.list [.none,.none,.none,.none,.none,.none,.none]),(m,.dict lA),(y,.dict eF)] _ (λZ=>U):=kS aO bu;lk;refine Ks (bb aq 9 rfl) (bb aq 10 rfl) (dM aq 9 10 rfl rfl (by decide)) (by decide+kernel) (Q (Kt ..) ?_);have bw:aT [(j,.list [.lst ((k.take 40).map .int),.int n,.int p,.int (c+aF a)]),(b,.ns (fb d e f g h ((cw a c).map cL))),(d,.dict []),(e,.dict []),(f,.dict []),(g,.dict []),(h,.dict []),(l,.ns (dh i)),(i,.list [.none,.none,.none,.none,.none,.none,.none]),(m,.dict e6),(y,.dict eF)] _ (λZ=>U):=bK aq 9 rfl;lk;refine Kj λo G bx bz=>?_;have bA:aT [(j,.list [.lst ((k.take 40).map .int),.int n,.int p,.int (c+aF a)]),(b,.ns (fb d e f g h ((cw a c).map cL))),(d,.dict []),(e,.dict []),(f,.dict []),(g,.dict []),(h,.dict []),(l,.ns (dh i)),(i,.list [.none,.none,.none,.none,.none,.none,.none]),(m,.dict e6),(y,.dict eF),(o,.ns eS)] bx (λZ=>U):=kS bw bz;lk;refine dL ?_;lk;refine⟨[(.inr (Y "P"),.inst 686 b x)],by with_unfolding_all rfl,by show(1:Nat)≤16;decide,zq,.inl λq bB=>?_⟩;have bC:aT [(j,.list [.lst ((k.take 40).map .int),.int n,.int p,.int (c+aF a)]),(b,.ns (fb d e f g h ((cw a c).map cL))),(d,.dict []),(e,.dict []),(f,.dict []),(g,.dict []),(h,.dict []),(l,.ns (dh i)),(i,.list [.none,.none,.none,.none,.none,.none,.none]),(m,.dict e6),(y,.dict eF),(o,.ns eS),(q,.dict [(.inr (Y "P"),.inst 686 b x)])] _ (λZ=>U):=cC bA bB;lk;refine Kh λr bD bE=>?_;have bF:aT [(j,.list [.lst ((k.take 40).map .int),.int n,.int p,.int (c+aF a)]),(b,.ns (fb d e f g h ((cw a c).map cL))),(d,.dict []),(e,.dict []),(f,.dict []),(g,.dict []),(h,.dict []),(l,.ns (dh i)),(i,.list [.none,.none,.none,.none,.none,.none,.none]),(m,.dict e6),(y,.dict eF),(o,.ns eS),(q,.dict [(.inr (Y "P"),.inst 686 b x)]),(r,.dict fp)] bD (λZ=>U):=kS bC bE;lk;refine Kl λE ar ao s t u v K bG bH=>?_;have bI:aT [(j,.list [.lst ((k.take 40).map .int),.int n,.int p,.int (c+aF a)]),(b,.ns (fb d e f g h ((cw a c).map cL))),(d,.dict []),(e,.dict []),(f,.dict []),(g,.dict []),(h,.dict []),(l,.ns (dh i)),(i,.list [.none,.none,.none,.none,.none,.none,.none]),(m,.dict e6),(y,.dict eF),(o,.ns eS),(q,.dict [(.inr (Y "P"),.inst 686 b x)]),(r,.dict fp),(E,.ns (ge (.inst 141 l D) (.inst 665 o G) q r m ao s t u v K)),(ao,.dict []),(s,.dict []),(t,.dict []),(u,.dict []),(v,.N5 []),(K,.dict [])] bG (λZ=>U):=kS bF bH;lk;refine dL ?_;lk;refine⟨[(.inl 0,.NS (.ref 292))],by with_unfolding_all rfl,by show(1:Nat)≤16;decide,zq,.inl λw bL=>?_⟩;have aP:aT [(j,.list [.lst ((k.take 40).map .int),.int n,.int p,.int (c+aF a)]),(b,.ns (fb d e f g h ((cw a c).map cL))),(d,.dict []),(e,.dict []),(f,.dict []),(g,.dict []),(h,.dict []),(l,.ns (dh i)),(i,.list [.none,.none,.none,.none,.none,.none,.none]),(m,.dict e6),(y,.dict eF),(o,.ns eS),(q,.dict [(.inr (Y "P"),.inst 686 b x)]),(r,.dict fp),(E,.ns (ge (.inst 141 l D) (.inst 665 o G) q r m ao s t u v K)),(ao,.dict []),(s,.dict []),(t,.dict []),(u,.dict []),(v,.N5 []),(K,.dict []),(w,.dict ir)] _ (λZ=>U):=cC bI bL;lk;refine Kv (bb aP 14 rfl) ?_;have aQ:aT [(j,.list [.lst ((k.take 40).map .int),.int n,.int p,.int (c+aF a)]),(b,.ns (fb d e f g h ((cw a c).map cL))),(d,.dict []),(e,.dict []),(f,.dict []),(g,.dict []),(h,.dict []),(l,.ns (dh i)),(i,.list [.none,.none,.none,.none,.none,.none,.none]),(m,.dict e6),(y,.dict eF),(o,.ns eS),(q,.dict [(.inr (Y "P"),.inst 686 b x)]),(r,.dict fp),(E,.ns (ge (.inst 141 l D) (.inst 665 o G) q r m ao s t u v w)),(ao,.dict []),(s,.dict []),(t,.dict []),(u,.dict []),(v,.N5 []),(K,.dict []),(w,.dict ir)] _ (λZ=>U):=bK aP 14 rfl;lk;have ct:n≤67857:=by rw [ai]at al;exact(ay 14111289914727553605403512) av al
 refine cJ ?_;lk;refine dq (bb aQ 0 rfl) ‹(aC 2412781716279738936876680771224440) av ai al› ‹(aH 4730610667158)› λz bM bN bP bQ bR=>?_;have aR:aT [(j,.list [.lst ((k.take 40).map .int),.int (n+1),.int p,.int (c+aF a)]),(b,.ns (fb d e f g h ((cw a c).map cL))),(d,.dict []),(e,.dict []),(f,.dict []),(g,.dict []),(h,.dict []),(l,.ns (dh i)),(i,.list [.none,.none,.none,.none,.none,.none,.none]),(m,.dict e6),(y,.dict eF),(o,.ns eS),(q,.dict [(.inr (Y "P"),.inst 686 b x)]),(r,.dict fp),(E,.ns (ge (.inst 141 l D) (.inst 665 o G) q r m ao s t u v w)),(ao,.dict []),(s,.dict []),(t,.dict []),(u,.dict []),(v,.N5 []),(K,.dict []),(w,.dict ir)] bM (λZ=>U):=o3 aQ 0 rfl bQ (λR C Z=>bR R C);lk;refine dq (bb aR 0 rfl) ‹(aC 617671374146568677072217812389282680) av ai al› ‹(aH 4730610667158)› λA bV bW bX bY bZ=>?_;have b1:aT [(j,.list [.lst ((k.take 40).map .int),.int (n+1+1),.int p,.int (c+aF a)]),(b,.ns (fb d e f g h ((cw a c).map cL))),(d,.dict []),(e,.dict []),(f,.dict []),(g,.dict []),(h,.dict []),(l,.ns (dh i)),(i,.list [.none,.none,.none,.none,.none,.none,.none]),(m,.dict e6),(y,.dict eF),(o,.ns eS),(q,.dict [(.inr (Y "P"),.inst 686 b x)]),(r,.dict fp),(E,.ns (ge (.inst 141 l D) (.inst 665 o G) q r m ao s t u v w)),(ao,.dict []),(s,.dict []),(t,.dict []),(u,.dict []),(v,.N5 []),(K,.dict []),(w,.dict ir)] bV (λZ=>U):=o3 aR 0 rfl bY (λR C Z=>bZ R C);lk;refine jM (by show(6:Nat)≤1000000;exact(aH 1218085)) λH b2=>?_;have B:aT [(j,.list [.lst ((k.take 40).map .int),.int (n+1+1),.int p,.int (c+aF a)]),(b,.ns (fb d e f g h ((cw a c).map cL))),(d,.dict []),(e,.dict []),(f,.dict []),(g,.dict []),(h,.dict []),(l,.ns (dh i)),(i,.list [.none,.none,.none,.none,.none,.none,.none]),(m,.dict e6),(y,.dict eF),(o,.ns eS),(q,.dict [(.inr (Y "P"),.inst 686 b x)]),(r,.dict fp),(E,.ns (ge (.inst 141 l D) (.inst 665 o G) q r m ao s t u v w)),(ao,.dict []),(s,.dict []),(t,.dict []),(u,.dict []),(v,.N5 []),(K,.dict []),(w,.dict ir),(H,.list (bS [z-3,A-3,2,0,0,0]))] _ (λZ=>U):=cC b1 b2;lk;refine fH (kp ?_);lk;refine(aU _ (lS ‹(aH 4729251602046)›) ?_);refine Q (show b9 6=(SQ 0 6).map λ(b3:Nat)=>V.int (SF b3)from rfl) (KC (g:=z-3) (h:=A-3) (k:=2) (m:=0) (q:=0) (M:=0) 6 0 _ _ rfl (bb B 14 rfl) (bb B 7 rfl) (bb B 22 rfl) (bb B 15 rfl) (bb B 8 rfl) (dM B 15 14 rfl rfl (by decide)) (dM B 15 7 rfl rfl (by decide)) (dM B 15 22 rfl rfl (by decide)) (dM B 15 8 rfl rfl (by decide)) (dM B 8 14 rfl rfl (by decide)) (dM B 8 7 rfl rfl (by decide)) (dM B 8 22 rfl rfl (by decide)) λcu b4 as aS aV=>?_);have b5:=sq as aS aV (dM B 15 8 rfl rfl (by decide));subst b5;clear as aS aV;have b6:aT [(j,.list [.lst ((k.take 40).map .int),.int (n+1+1),.int p,.int (c+aF a)]),(b,.ns (fb d e f g h ((cw a c).map cL))),(d,.dict []),(e,.dict []),(f,.dict []),(g,.dict []),(h,.dict []),(l,.ns (dh i)),(i,.list [.none,.none,.none,.none,.none,.none,.none]),(m,.dict e6),(y,.dict eF),(o,.ns eS),(q,.dict [(.inr (Y "P"),.inst 686 b x)]),(r,.dict fp),(E,.ns (ge (.inst 141 l D) (.inst 665 o G) q r m ao s t u v w)),(ao,.dict (e7.take 6)),(s,.dict []),(t,.dict []),(u,.dict []),(v,.N5 []),(K,.dict []),(w,.dict ir),(H,.list (bS [z-3,A-3,2,0,0,0]))] _ (λZ=>U):=bK B 15 rfl;have aB:aT [(j,.list [.lst ((k.take 40).map .int),.int (n+1+1),.int p,.int (c+aF a)]),(b,.ns (fb d e f g h ((cw a c).map cL))),(d,.dict []),(e,.dict []),(f,.dict []),(g,.dict []),(h,.dict []),(l,.ns (dh i)),(i,.list (jh (bS [z-3,A-3,2,0,0,0]) 6)),(m,.dict e6),(y,.dict eF),(o,.ns eS),(q,.dict [(.inr (Y "P"),.inst 686 b x)]),(r,.dict fp),(E,.ns (ge (.inst 141 l D) (.inst 665 o G) q r m ao s t u v w)),(ao,.dict (e7.take 6)),(s,.dict []),(t,.dict []),(u,.dict []),(v,.N5 []),(K,.dict []),(w,.dict ir),(H,.list (bS [z-3,A-3,2,0,0,0]))] _ (λZ=>U):=bK b6 8 rfl;refine eC ?_;lk;refine c3 (s:=.ref ao) (bb aB 14 rfl) tb_g% tb_g% rfl ?_;lk;refine hq (bb aB 15 rfl) rfl (by show(6:Nat)<1000000;exact(aH 1218087)) (Q (KD ..) ?_);have b7:aT [(j,.list [.lst ((k.take 40).map .int),.int (n+1+1),.int p,.int (c+aF a)]),(b,.ns (fb d e f g h ((cw a c).map cL))),(d,.dict []),(e,.dict []),(f,.dict []),(g,.dict []),(h,.dict []),(l,.ns (dh i)),(i,.list (jh (bS [z-3,A-3,2,0,0,0]) 6)),(m,.dict e6),(y,.dict eF),(o,.ns eS),(q,.dict [(.inr (Y "P"),.inst 686 b x)]),(r,.dict fp),(E,.ns (ge (.inst 141 l D) (.inst 665 o G) q r m ao s t u v w)),(ao,.dict e7),(s,.dict []),(t,.dict []),(u,.dict []),(v,.N5 []),(K,.dict []),(w,.dict ir),(H,.list (bS [z-3,A-3,2,0,0,0]))] _ (λZ=>U):=bK aB 15 rfl;have aD:aT (lG (⟨E,ar,l,D,i,o,G,b,x,q,r,m,ao,s,t,u,v,w,b,b,b,b,b,b,b,H,d,e,f,g,h⟩:cg) j [.lst ((k.take 40).map .int),.int (n+1+1),.int p,.int (c+aF a)] y K (.dict eF) (cw a c) [z-3,A-3,2,0,0,0] [z-3,A-3,2,0,0,0]) _ (λZ=>U):=b7;lk;refine KQ ?_;unfold rC;lk;have ah:(cw a c).length=br a+1:=by unfold cw;refine Q (Qr ..) (Q (dd ..) ?_);rfl
 have C:bs 4 [z-3,A-3,2,0,0,0]:=⟨rfl,λR C=>by
  simp only [QX,List.not_mem_nil,or_false]at C;exact(k0 161045642612882993769762728778148666620380342480685951284342997970605641386593146663830392) bW bN C bP bX (cI _)⟩
 refine ae (Fc a ap) λca aW cb=>hC (pS a ap ad cb [z-3,A-3,2,0,0,0]) λaX au aY cc cf ch=>?_;have ci:eE (br a+1) aX+4*(br a+1+1)<2000000000:=by
  unfold eE;have as:4*(br a+1+1)*aX≤4*13822*13820:=Nat.mul_le_mul ‹(eH 197057850702607998788203517844958022596758727896) N L ah F› ‹(eH 3131516419913906719172046165409125756120) N L F aY›;exact(cE [_,_,_,_,_,_,_] [] (.OV (.W (.L (.v 0) (.v 1)) (.W (.L (.v 2) (.v 1)) (.L (.v 3) (.v 2)))) (.OV (.E (.v 4) (.n 3455)) (.OV (.E (.v 5) (.S (.v 2) 1)) (.OV (.L (.v 6) (.R (.M 4 (.n 13822)) 13820)) (.OV (.L (.v 1) (.M 4 (.v 4))) (.K (.A (.S (.v 6) 4) (.M 4 (.S (.S (.v 2) 1) 1))) (.n 2000000000)))))))) N L ah as F
 have aZ:∀(aE:Bool) (X:ce) (S:Nat) (O:I),aE=kT (bv a [z-3,A-3,2,0,0,0]).1→a7 ⟨lH ⟨E,ar,l,D,i,o,G,b,x,q,r,m,ao,s,t,u,v,w,b,b,b,b,b,b,b,H,d,e,f,g,h⟩ X,cw a c,ca,[z-3,A-3,2,0,0,0]⟩ S au.xs au.lc au.N2 O→
   aw ab (af 20) mI (h5 (.lst (k.map .int)) (.ref j) (.lst (a8 0 0 a)) (.ref M) (.inst 686 b x) (.inst 141 l D) (.ref m) (.inst 330 E ar) (.ref H) b4 (J (.bool aE)) (J (.int 0)) U) (λa1 Z Z=>a1=.N9 (.bool Qp)) (λZ Z=>False) O:=by
  intro aE X S O P T;subst P;have cj:O i=J (.list (da (bv a [z-3,A-3,2,0,0,0]).2 au.lc)):=by refine Q (Rj (cf ..)) ?_;exact T.num
  exact KN ad aG aI C T.N8.mem cj T.N8.lst (dM aD 7 22 rfl rfl (by decide)) (dM aD 8 22 rfl rfl (by decide))
 refine I1 (T:=7) (s0:=⟨E,ar,l,D,i,o,G,b,x,q,r,m,ao,s,t,u,v,w,b,b,b,b,b,b,b,H,d,e,f,g,h⟩) aD (wn a ap) ‹(eH 41826151476310726968241125272331987053784) N L ah F› (by refine Q (ah ..) ?_;exact aW) (KE ad aI aW ah) C ‹(eH 12852493135523056960579745580257389440216) N L F aY› ci cc ch ?_ ?_ ?_
 ·intro cv P;generalize ck:(bv a [z-3,A-3,2,0,0,0]).1=cl;induction cl using aJ.casesOn<;>rw [ck]at P<;>cases P
 ·intro P X S O T;lk;exact eC (aZ Qq X S O (KO _ P) T)
 ·intro P X S O T;lk;exact eC (aZ Qp X S O (KP _ P) T)
end Cx
end
end F77Law
set_option maxRecDepth 100000 in
theorem PySem.Challenge.cw_no0283_01_holds : PySem.Challenge.rw_no0283_01.Holds := by
  exact F77Law.K1 F77Law.Cx.MI
