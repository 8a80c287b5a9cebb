import PyProof.Rows.All
import Wide.All
import OpenK.AllK
import Wide.FinOn
import PyProof.Walk
import PyProof.WalkLemmas
import Lean
import PySem.Challenge.RW_tg0046_01
set_option Elab.async false
set_option maxRecDepth 100000
set_option tactic.hygienic false
set_option bootstrap.genMatcherCode false
set_option genSizeOf false
set_option genInjectivity false
set_option linter.all false
open PySem renaming Shared→aj,Value→af,wpAny_bind→aM,Expr→aG,DictEntry→bY,wpAny_pure→cH,World→bz,Scope→bF,Around→cu,Params→cE,builtinLookup_eq_fast→mP,Stmt→cy,wpAny_truthy_bool→lM,wpAny_specialOf→kR,Heap→cR,Addr→cT,wpAny_of_eq→iZ,typeLookup_type→mW,wpAny_execs_cons→o5,IsRangeIter→kU,Result→gj,wpAny_Constant_int→rT,wpAny_newObj_type→rI,Program→iG,wpAny_BinOp→mG,NameKind→kh,wpAny_holding→qe,wpAny_standAt→qf,plainId_quiet→rL,wpAny_rule→oY,sizeLine_eq→qo,wpAny_isInstance→wk,wpAny_callSpecial?_slot→Ce,strKind→ut,Model→iW,wpAny_execs_nil→wo,wpAny_load→qs,Operator→nW,isSubtype_type→wt,wpAny_call_entry→zb,wpAny_loadName_local→Cm,Builtin→nX,Flow→iH,wpAny_pyNext_range_item→Hg,wpAny_Assign_Name→Cu,wpAny_field→wz,bm_if_false→wC,wpAny_Call_NameR→Cw,wpAny_storeName_local→Hq,codeAny_builtin→CA,wpAny_updateSeq→CB,wpAny_newFunctionEnv→Hv,leftWithCleanup_false_of_bare→RZ,wpAny_seqItems→CJ,wpAny_tryCatch→CK,wpAny_pyIter_range→Hz,slot_list_getitem→HG,getMethod_builtin→HJ,entryFor_of_fast→HO,entryFor_of_tree→HP,wpAny_getItem_list_slice→Si,wpAny_pyNext_tuple_item→Sj,markedBehindIn_of_false→Sn,wpAny_letGo→CY,wpAny_alloc→CZ,wpAny_pyIter_rangeiter→Su,codeAny_call_function→Sy,FuncData→zq,wpAny_AugAssign_Name→SI,wpAny_storeName_cell→SK,wpAny_letTemporaryGo→SN,wpAny_attempt→Ia,wpCode_iff_wp→Ib,Comprehension→Ie,callWith_type→S1,wpAny_loadName_cell→S2,builtinType_eq_fast→S6,call_range_1→Ii,small_one→C1,wpAny_point→Iv
open Int renaming toNat_of_nonneg→be,self_le_toNat→jj,pow_pos→g7,le_of_lt→iA,le_trans→ku,not_lt→ky,mul_le_mul_of_nonneg_right→zv,emod_lt_of_pos→rS,one_mul→lO,mul_nonneg→o8,ediv_ediv_of_nonneg→wd,zero_add→nU,ediv_eq_zero_of_lt→wg,emod_nonneg→rJ,ne_of_gt→qh,lt_add_one_iff→wi,pow_succ→qk,ofNat→nV,le_refl→qn,pow_nonneg→uq,mul_comm→rN,add_zero→uv,mul_zero→uw,ediv_lt_of_lt_mul→Ci,fdiv_eq_ediv_of_nonneg→G8,ediv_nonneg→ze,zero_mul→ww,le_of_eq→wx,ofNat_lt→wy,lt_of_lt_of_le→Cs,toNat_natCast→Ct,pow_add→wB,mul_le_mul_of_nonneg_left→Sa,natCast_nonneg→Hx,lt_of_le_of_lt→HC,mul_assoc→CN,add_mul_emod_self_left→Sf,ofNat_le→CR,eq_ofNat_of_zero_le→Sk,sub_mul→C0,sub_nonpos_of_le→SG,sub_eq_add_neg→Td,add_comm→Ig,add_emod→Ip,add_mul→Iq,mul_add→Ir,min_eq_right→TM,le_antisymm→TP,min_eq_left→TZ
open PySem.Challenge renaming pw_tg0046_01→aL,rw_tg0046_01→fq
open List renaming length_map→bf,length_append→bZ,mem_singleton→cA,range→bV,getElem?_eq_some_iff→gC,replicate→dO,length_singleton→fW,getElem?_map→eT,toArray→dG,getElem?_eq_getElem→iy,mem_cons_self→gh,length_cons→fJ,mem_cons→eJ,mem_cons_of_mem→ib,getD_eq_getElem?_getD→jI,length_range→gO,getElem?_append_left→lJ,append_assoc→iX,nodup_cons→iz,all_eq_true→jM,mem_map_of_mem→mQ,getElem?_range→mS,mem_append→kj,map_append→ko,map_cons→jk,length_set→lN,mem_map→jN,length_take→mU,getElem?_eq_none→qv,getElem?_set_ne→qw,getElem?_toArray→rQ,mem_of_getElem?→rR,mem_toArray→qx,append_nil→qd,find?_cons_of_neg→we,getElem?_append_right→yV,length_nil→rK,find?_cons_of_pos→yW,take_of_length_le→yX,getElem?_concat_length→Cc,map_map→qj,cons.inj→rM,length_drop→wl,getElem?_cons_succ→Cf,map_take→uu,foldl_cons→wq,getElem?_set_self→Ch,reverse_cons→za,contains_iff_mem→Ck,any_toArray→zc,all_cons→wu,length_reverse→Co,mem_of_find?_eq_some→G9,getElem?_eq_none_iff→Hf,nodup_nil→zg,mem_range→zh,getElem?_replicate→Hj,foldl_append→Cv,not_mem_nil→Cy,take_length→Cz,length_replicate→Ht,range_succ→CC,mem_filter→CD,set_append→CH,length→zo,range'→zp,find?_toArray→HB,getElem_range→HD,setIfInBounds_toArray→Se,map_drop→CQ,pairwise_map→HH,take_add_one→HK,lookup_cons→HN,map_fst_zip→HS,range'_succ→HU,getElem_mem→HV,ne_of_not_mem_cons→So,find?_some→HW,range_succ_eq_map→Sw,length_take_of_le→Sx,findIdx?_toArray→SD,length_filter_le→SE,mem_of_mem_drop→SO,mem_of_mem_take→SP,range_eq_range'→SW,mem_append_left→SX,append_toArray→S7,findIdx?_cons→Th,set_set→Im,getElem?_take→Ti,getElem?_drop→Tj,any_eq_false→Tk,size_toArray→Tp,push_toArray→Tq,map_inj_left→Tt,ext_getElem?→Tu,nodup_append→Tw,lookup→Iz,any_eq_true→TF,mem_reverse→TH,map_reverse→TL,countP_cons→TN,forIn_cons→TV,foldl→IE,find?_cons→T8
open Nat renaming lt_of_lt_of_le→bN,le_trans→bo,sub_add_cancel→cG,le_refl→cY,ne_of_lt→dW,eq_of_beq_eq_true→jJ,beq→dP,le_of_ble_eq_true→lK,ne_of_gt→gZ,lt_succ_self→jL,le_add_right→ki,not_lt→gQ,le_of_lt→iI,le_of_eq→kr,le_succ→mH,lt_irrefl→qg,lt_of_le_of_lt→wh,succ.inj→rO,min_le_right→wm,blt→lI,lt_or_ge→ux,succ_ne_self→zd,zero_le→uy,add_le_add_left→Cn,lt_of_succ_lt_succ→Ho,pow_le_pow_right→Hu,min_le_left→CI,add_assoc→CP,lt_succ_of_lt→HF,succ_le_succ→HM,add_comm→CT,sub_self→CU,sub_zero→CV,succ→wD,zero_add→CX,lt_add_of_pos_right→Sp,lt_one_iff→H9,add_lt_add_right→SQ,not_succ_le_self→SV,lt_or_eq_of_le→Tg,succ_pos→Io,le_of_lt_succ→To,le_of_succ_le→Tr,le_succ_of_le→Tv,lt_trichotomy→Tz,le_of_not_lt→TG,le_antisymm→TQ,not_lt_zero→TR,zero_lt_one→TY
open Option renaming some.inj→bT,map→fu,isSome_iff_exists→uA,eq_none_iff_forall_ne_some→RX,map_eq_some_iff→Hl,map_eq_bind→HA,bind_eq_some_iff→Sm,noConfusion→Te,map_map→Ud
open PySem.Heap renaming get?_push_of_some→dZ,get?_push_size→gM,size_push→iY,lt_size→jl,get?_update_self→qu,SameBut→kq,size_after_update→Sq,get?_update_other→Ss,nsMap_eq_lookup→SS,push→IF
open PySem.Builtin.Int renaming intBits→eF
open Bool renaming false_ne_true→jK,and_eq_true_iff→yZ,eq_false_iff→y9,false_eq_true→Cr,and_eq_false_iff→Hs,not_eq_true'→HE,and_eq_true→HR,noConfusion→TA,eq_iff_iff→TW,and_false→Ua
open Ne renaming symm→eN
open PySem.Value renaming type→ic,isInt→mJ,int→qt,isStrOf→zj,str.elim→CL,int.elim→HZ,isStrOf_shape→Tc,none→IC,bytes.inj→TX,type.inj→Uc,builtin→Ue,str.inj→Uf
open PySem.Heap.SameBut renaming update→nY
open PySem.Calls renaming Name_function_global→oZ,loadGlobal_global→ug,spliced_nil→zl,loadGlobal_builtin→Hy,spliced_cons→Ih
open PySem.Builtin.Bytes renaming decodersThatHold→wG,slotIsOwn→uC,ownRelease→Cd,exported→Cg,buffer?→Cj,exportsOf→Hh,takeBufferQuiet?→RY,checkResize→Sg,payload?→Sv,payload→Sz,write→S4
open ForInStep renaming yield→mV
open PySem.Builtin.Range renaming rangeSize→uB
open PySem.Around renaming under_plainId→uf
open PySem.Obj renaming mapSeq→mK,mapBytearray→HQ,mapDictKeys→HX,mapDict→IA
open PySem.W renaming boot_heap→lH,cellsFrom_some→H8,kbt_mask→zr,boot_toks→C2,looks_findIn→Ij,layAllW_rest→Ik,typeIs_bytes→Il,KeqHits→zu,eq_bytes→TJ
open PySem.F renaming plain_max_loop→uh,slot_range_iterator_next→Sb,slot_tuple_iterator_next→Sd,entry_max_loop→HL,bm_called→IB
open PySem.Str renaming ofString→qi
open PyProof.Rows renaming sub_int'→yY,wpAny_release'→zf,IsTup→mL,tail_any→uz,getMethod_int_bit_length→Sh,lshift_int→Sl,IntsAre→wE,mul_int→SH,add_int→SJ,call_int_bit_length→SY,markedEach_of_false→S3,AllBare→zt,exec_Assign→Iw
open Classical renaming not_not→wj,propDecidable→Hi
open UInt8 renaming ofNat→qq
open PySem.Builtin renaming bitAnd→ul,bitOr→CO
open PySem.Expr.Name renaming elim→um
open Prod renaming mk.inj→rP
open PySem.Expr.Attribute renaming elim→Cp
open PySem.Expr.Subscript renaming elim→Cq
open PyProof renaming noPylong_small→Hp
open PySem.Shared renaming asleep_of_life→Hr,rest_eq→T9
open PySem.Heap.Ns renaming of_isNs→CE
open Array renaming toList→zk,replicate→CG,mem_toList_iff→SM,toArray_toList→SR,length_toList→S8,size_push→TS
open PySem.Expr.Tuple renaming elim→CF
open PySem.Stmt.AugAssign renaming elim→Hw
open PySem.Expr.Call renaming elim→CM
open PySem.Sem renaming wp_mono→zm,pure.elim→Ic,wp→wF,finPost→Iu,wp_bindName→TU
open PySem.Code renaming builtin→CW,call.elim→H7,quiet_builtin→Tf,quiet→ID
open PySem.Data renaming fields.elim→HT,dict.elim→HY
open PySem.Keeper renaming boundFrame→Tn,machine→Ub,frame→Ug
namespace Mine.Internal
open PySem PySem.W PyProof.Rows PySem.Challenge PySem.Calls
local macro_rules | `(tactic| rfl') => `(tactic| kernel_rfl)
local macro_rules | `(∅) => `(by decide)
local macro_rules | `(tactic| exists $x) => `(tactic| set_option smartUnfolding false in exact $x)
theorem ff{G:Prop}(h:false=true):G:=TA h
theorem aw{G:Prop}(h:(a&&b)=true)(k:a=true->b=true->G):G:=k ((yZ.mp h).1) ((yZ.mp h).2)
theorem fg{c:Prop}[Decidable c]{f:c->Bool}{G:Prop}(h:dite c f (λY=>false)=true)(k:∀q,f q=true->G):G:=by
 by_cases q:c
 ·exact k q (dif_pos (c:=c) (t:=f) (e:=λY=>false) q▸h)
 ·exact absurd (dif_neg (c:=c) (t:=f) (e:=λY=>false) q▸h) ∅
theorem aW{c:Prop}[Decidable c](h:decide c=true):c:=of_decide_eq_true h
theorem eI(h:(!b)=true):b=false:=(HE b).mp h
theorem dD{G:Prop}(h:(a||b)=true)(k:a=true->G)(H:b=true->G):G:=(Bool.or_eq_true_iff.mp h).elim k H
noncomputable def oB{α:Type}(o:Option α)(k:α->Bool):Bool:=match o with
 |some a=>k a
 |none=>false
theorem jg{α:Type}{o:Option α}{k:α->Bool}{G:Prop}(h:oB o k=true)(f:∀a,o=some a->k a=true->G):G:=by
 cases o with
 |none=>exact ff h
 |some a=>exact f a rfl h
noncomputable def l0{α:Type}(l:List α):Bool:=match l with
 |[]=>true
 |_::_=>false
theorem jW{α:Type}{M:List α->Prop}{l:List α}(h:l0 l=true)(f:M []):M l:=by
 cases l with
 |nil=>exact f
 |cons _ _=>exact ff h
noncomputable def l1{α:Type}(l:List α)(k:α->Bool):Bool:=match l with
 |[]=>false
 |a::r=>l0 r&&k a
theorem sR{α:Type}{M:List α->Prop}{l:List α}{k:α->Bool}(h:l1 l k=true)(f:∀a,k a=true->M [a]):M l:=by
 cases l with
 |nil=>exact ff h
 |cons a r=>exact aw h λH h=>jW (M:=λr=>M (a::r)) H (f a h)
noncomputable def l2{α:Type}(l:List α)(k:α->α->Bool):Bool:=match l with
 |[]=>false
 |a::r=>l1 r (k a)
theorem EY{α:Type}{M:List α->Prop}{l:List α}{k:α->α->Bool}(h:l2 l k=true)(f:∀a b,k a b=true->M [a,b]):M l:=by
 cases l with
 |nil=>exact ff h
 |cons a r=>exact sR (M:=λr=>M (a::r)) h (f a)
section
namespace L
set_option genCtorIdx false in
inductive T where
 |v (i:Nat)|n (k:Nat)|c (t:T)|g (t:T)|a (s t:T)|b (s t:T)|m (k:Nat) (t:T)|r (t:T) (k:Nat)
set_option genCtorIdx false in
inductive Pr where
 |r (o:Nat) (s t:T)|n (p:Pr)|a (p q:Pr)|f
noncomputable abbrev Cx:=List (Int×Nat)
noncomputable def jf:Cx->Nat->Int×Nat
 |[],_=>(0,0)
 |x::_,0=>x
 |_::l,i+1=>jf l i
noncomputable def T.den(A:Cx):T->Int×Nat
 |.v i=>jf A i
 |.n k=>(nV k,k)
 |.c t=>((t.den A).2,0)
 |.g t=>(-(t.den A).1,0)
 |.a s t=>((s.den A).1+(t.den A).1,(s.den A).2+(t.den A).2)
 |.b s t=>((s.den A).1- (t.den A).1,0)
 |.m k t=>(nV k*(t.den A).1,k*(t.den A).2)
 |.r t k=>((t.den A).1*nV k,(t.den A).2*k)
def Pr.den(A:Cx):Pr->Prop
 |.r 0 s t=>(s.den A).1<=(t.den A).1
 |.r 1 s t=>(s.den A).1<(t.den A).1
 |.r 2 s t=>(s.den A).1=(t.den A).1
 |.r 3 s t=>(s.den A).2<=(t.den A).2
 |.r 4 s t=>(s.den A).2<(t.den A).2
 |.r _ s t=>(s.den A).2=(t.den A).2
 |.n p=>¬p.den A
 |.a p q=>p.den A/\q.den A
 |.f=>False
noncomputable def pn(c:Nat):Nat×Nat:=(c/256%16^(c%256),c/256/16^(c%256))
noncomputable def pt:Nat->Nat->T×Nat
 |0,c=>(.n 0,c)
 |f+1,c=>match c%16 with
  |0=>(.v (c/16%16),c/256)
  |1=>(.n (pn (c/16)).1,(pn (c/16)).2)
  |2=>(.c (pt f (c/16)).1,(pt f (c/16)).2)
  |3=>(.g (pt f (c/16)).1,(pt f (c/16)).2)
  |4=>(.a (pt f (c/16)).1 (pt f (pt f (c/16)).2).1,(pt f (pt f (c/16)).2).2)
  |5=>(.b (pt f (c/16)).1 (pt f (pt f (c/16)).2).1,(pt f (pt f (c/16)).2).2)
  |6=>(.m (pn (c/16)).1 (pt f (pn (c/16)).2).1,(pt f (pn (c/16)).2).2)
  |_=>(.r (pt f (pn (c/16)).2).1 (pn (c/16)).1,(pt f (pn (c/16)).2).2)
noncomputable def pp:Nat->Nat->Pr×Nat
 |0,c=>(.f,c)
 |f+1,c=>match c%16 with
  |6=>(.n (pp f (c/16)).1,(pp f (c/16)).2)
  |7=>(.a (pp f (c/16)).1 (pp f (pp f (c/16)).2).1,(pp f (pp f (c/16)).2).2)
  |8=>(.f,c/16)
  |o=>(.r o (pt 99 (c/16)).1 (pt 99 (pt 99 (c/16)).2).1,(pt 99 (pt 99 (c/16)).2).2)
noncomputable def sk:Nat->Nat->Nat
 |0,c=>c
 |i+1,c=>(pp 99 (sk i c)).2
def H(c i:Nat)(A:Cx):Prop:=(pp 99 (sk i c)).1.den A
noncomputable abbrev LF:=Int×List (Int×Int)
noncomputable def fN:List (Int×Int)->Cx->Int
 |p::l,x::A=>p.1*x.1+p.2*x.2+fN l A
 |_,_=>0
noncomputable def ya:List (Int×Int)->List (Int×Int)->List (Int×Int)
 |p::l,q::m=>(p.1+q.1,p.2+q.2)::ya l m
 |[],m=>m
 |l,[]=>l
noncomputable def sX(p:Int×Int):Nat->List (Int×Int)
 |0=>[p]
 |i+1=>(0,0)::sX p i
noncomputable def vF(k:Int):List (Int×Int)->List (Int×Int)
 |[]=>[]
 |p::l=>(k*p.1,k*p.2)::vF k l
noncomputable def pB(p q:LF):LF:=(p.1+q.1,ya p.2 q.2)
noncomputable def oF(k:Int)(p:LF):LF:=(k*p.1,vF k p.2)
noncomputable def nB(p q:LF):LF:=pB p (oF (-1) q)
noncomputable def gz(A:Cx)(p:LF):Int:=p.1+fN p.2 A
noncomputable def T.fF:T->LF×LF
 |.v i=>((0,sX (1,0) i),(0,sX (0,1) i))
 |.n k=>((nV k,[]),(nV k,[]))
 |.c t=>(t.fF.2,(0,[]))
 |.g t=>(oF (-1) t.fF.1,(0,[]))
 |.a s t=>(pB s.fF.1 t.fF.1,pB s.fF.2 t.fF.2)
 |.b s t=>(nB s.fF.1 t.fF.1,(0,[]))
 |.m k t=>(oF (nV k) t.fF.1,oF (nV k) t.fF.2)
 |.r t k=>(oF (nV k) t.fF.1,oF (nV k) t.fF.2)
section
variable {A:Cx}
theorem ve:∀{A:Cx},fN [] A=0
 |[]=>rfl
 |_::_=>rfl
theorem Kc:∀{l m:List (Int×Int)} {A:Cx},fN (ya l m) A=fN l A+fN m A
 |p::l,q::m,x::A=>by
  show(p.1+q.1)*x.1+(p.2+q.2)*x.2+fN (ya l m) A=(p.1*x.1+p.2*x.2+fN l A)+(q.1*x.1+q.2*x.2+fN m A)
  rw [Kc,Iq,Iq];ac_rfl
 |_::_,_::_,[]=>rfl
 |[],m,A=>by rw [ve,nU];rfl
 |_::_,[],A=>by rw [ve,uv];rfl
theorem Ke:∀{l:List (Int×Int)} {A:Cx},fN (vF k l) A=k*fN l A
 |p::l,x::A=>by
  show k*p.1*x.1+k*p.2*x.2+fN (vF k l) A=k*(p.1*x.1+p.2*x.2+fN l A)
  rw [Ke,Ir,Ir,CN,CN]
 |_::_,[]=>(uw k).symm
 |[],A=>by rw [show vF k []=[] from rfl,ve,uw]
theorem DN:∀{i:Nat} {A:Cx},fN (sX p i) A=p.1*(jf A i).1+p.2*(jf A i).2
 |0,[]=>by show 0=p.1*0+p.2*0;rw [uw,uw];rfl
 |0,x::A=>by show p.1*x.1+p.2*x.2+fN [] A=_;rw [ve,uv];rfl
 |i+1,[]=>by show 0=p.1*0+p.2*0;rw [uw,uw];rfl
 |i+1,x::A=>by show 0*x.1+0*x.2+fN (sX p i) A=_;rw [ww,ww,DN];exact nU _
theorem xy:gz A (pB p q)=gz A p+gz A q:=by
 show p.1+q.1+fN (ya p.2 q.2) A=(p.1+fN p.2 A)+(q.1+fN q.2 A)
 rw [Kc];ac_rfl
theorem sA:gz A (oF k p)=k*gz A p:=by
 show k*p.1+fN (vF k p.2) A=k*(p.1+fN p.2 A)
 rw [Ke,Ir]
theorem D0:gz A (nB p q)=gz A p- gz A q:=by
 rw [nB,xy,sA,Int.neg_mul,lO,Td]
theorem sy:gz A (k,[])=k:=by show k+fN [] A=k;rw [ve,uv]
theorem T.gA:∀t:T,gz A t.fF.1=(t.den A).1/\gz A t.fF.2=((t.den A).2:Int)
 |.v i=>⟨by show 0+fN (sX (1,0) i) A=_;rw [DN,nU,lO,ww,uv];rfl,by show 0+fN (sX (0,1) i) A=_;rw [DN,nU,lO,ww,nU];rfl⟩
 |.n k=>⟨sy,sy⟩
 |.c t=>⟨t.gA.2,sy⟩
 |.g t=>⟨by show gz A (oF (-1) t.fF.1)= -(t.den A).1;rw [sA,t.gA.1,Int.neg_mul,lO],sy⟩
 |.a s t=>⟨xy.trans (by rw [s.gA.1,t.gA.1];rfl),xy.trans (by rw [s.gA.2,t.gA.2];rfl)⟩
 |.b s t=>⟨D0.trans (by rw [s.gA.1,t.gA.1];rfl),sy⟩
 |.m k t=>⟨sA.trans (by rw [t.gA.1];rfl),sA.trans (by rw [t.gA.2];rfl)⟩
 |.r t k=>⟨sA.trans (by rw [t.gA.1];exact rN _ _),sA.trans (by rw [t.gA.2];exact rN _ _)⟩
noncomputable def rl(o:Nat)(p q:LF):List LF:=match o with
 |0=>[nB p q]
 |1=>[pB (1,[]) (nB p q)]
 |_=>[nB p q,nB q p]
noncomputable def ro(o:Nat)(p q:LF):List LF:=match o with
 |0=>[pB (1,[]) (nB q p)]
 |1=>[nB q p]
 |_=>[]
noncomputable def sg(b:Bool)(o:Nat)(p q:LF):List LF:=match b with
 |true=>rl o p q
 |false=>ro o p q
noncomputable def Pr.iq(b:Bool):Pr->List LF
 |.r o s t=>match o with
  |0=>sg b 0 s.fF.1 t.fF.1
  |1=>sg b 1 s.fF.1 t.fF.1
  |2=>sg b 2 s.fF.1 t.fF.1
  |3=>sg b 0 s.fF.2 t.fF.2
  |4=>sg b 1 s.fF.2 t.fF.2
  |_=>sg b 2 s.fF.2 t.fF.2
 |.n p=>p.iq (!b)
 |.a p q=>match b with
  |true=>p.iq true++q.iq true
  |false=>[]
 |.f=>match b with
  |true=>[(1,[])]
  |false=>[]
def ps(b:Bool)(P:Prop):Prop:=match b with
 |true=>P
 |false=>¬P
def AL(A:Cx):List LF->Prop
 |[]=>True
 |p::l=>gz A p<=0/\AL A l
theorem AL.cU:∀{l m:List LF},AL A l->AL A m->AL A (l++m)
 |[],_,_,y=>y
 |_::_,_,x,y=>⟨x.1,AL.cU x.2 y⟩
theorem Az(hp:gz A p=x)(H:gz A q=y)(h:x<=y):gz A (nB p q)<=0:=by rw [D0,hp,H];exact SG h
theorem Lb(hp:gz A p=x)(H:gz A q=y)(h:x<y):gz A (pB (1,[]) (nB p q))<=0:=by
 rw [xy,sy,D0,hp,H,Ig];exact Int.sub_neg_of_lt h
theorem vW(hp:gz A p=x)(H:gz A q=y):∀b:Bool,(ps b (x<=y)->AL A (sg b 0 p q))/\(ps b (x<y)->AL A (sg b 1 p q))/\(ps b (x=y)->AL A (sg b 2 p q))
 |true=>⟨λh=>⟨Az hp H h,trivial⟩,λh=>⟨Lb hp H h,trivial⟩,λh=>⟨Az hp H (wx h),Az H hp (wx h.symm),trivial⟩⟩
 |false=>⟨λh=>⟨Lb H hp (Int.lt_of_not_ge h),trivial⟩,λh=>⟨Az H hp (ky.mp h),trivial⟩,λY=>trivial⟩
theorem FM{P Q:Prop}(h:P↔Q):∀b:Bool,ps b Q->ps b P
 |true=>h.mpr
 |false=>λn p=>n (h.mp p)
theorem Pr.xR:∀(p:Pr) (b:Bool),ps b (p.den A)->AL A (p.iq b)
 |.r o s t,b,h=>match o,h with
  |0,h=>(vW s.gA.1 t.gA.1 b).1 h
  |1,h=>(vW s.gA.1 t.gA.1 b).2.1 h
  |2,h=>(vW s.gA.1 t.gA.1 b).2.2 h
  |3,h=>(vW s.gA.2 t.gA.2 b).1 (FM CR b h)
  |4,h=>(vW s.gA.2 t.gA.2 b).2.1 (FM wy b h)
  |_+5,h=>(vW s.gA.2 t.gA.2 b).2.2 (FM Int.ofNat_inj b h)
 |.n p,b,h=>p.xR (!b) (match b,h with
  |true,h=>h
  |false,h=>wj.mp h)
 |.a p q,true,h=>(p.xR true h.1).cU (q.xR true h.2)
 |.a _ _,false,_=>trivial
 |.f,true,h=>h.elim
 |.f,false,_=>trivial
noncomputable def Pr.ob:Pr->List (Bool×Pr)
 |.r o s t=>match o with
  |2=>[(true,.r 1 s t),(true,.r 1 t s)]
  |5=>[(true,.r 4 s t),(true,.r 4 t s)]
  |o=>[(false,.r o s t)]
 |.n p=>[(true,p)]
 |.a p q=>p.ob++q.ob
 |.f=>[(false,.f)]
def NO(A:Cx):List (Bool×Pr)->Prop
 |[]=>True
 |x::l=>¬ps x.1 (x.2.den A)/\NO A l
theorem NO.fst:∀{l m:List (Bool×Pr)},NO A (l++m)->NO A l/\NO A m
 |[],_,h=>⟨trivial,h⟩
 |_::_,_,h=>⟨⟨h.1,(NO.fst h.2).1⟩,(NO.fst h.2).2⟩
theorem Pr.Fi:∀p:Pr,NO A p.ob->p.den A
 |.r o s t,h=>match o,h with
  |0,h=>wj.mp h.1
  |1,h=>wj.mp h.1
  |2,h=>TP (ky.mp h.2.1) (ky.mp h.1)
  |3,h=>wj.mp h.1
  |4,h=>wj.mp h.1
  |5,h=>TQ (gQ.mp h.2.1) (gQ.mp h.1)
  |_+6,h=>wj.mp h.1
 |.n p,h=>h.1
 |.a p q,h=>⟨p.Fi h.fst.1,q.Fi h.fst.2⟩
 |.f,h=>h.1 id
noncomputable def yb(c:Nat):Nat×Nat:=match c%16 with
 |15=>pn (c/16)
 |d=>(d,c/16)
noncomputable def lc:List LF->Nat->LF×Nat
 |[],c=>((0,[]),c)
 |p::l,c=>(pB (oF (nV (yb c).1) p) (lc l (yb c).2).1,(lc l (yb c).2).2)
noncomputable def bad(p:LF):Bool:=decide (0<p.1)&&p.2.all λx=>decide (x.1=0)&&decide (0<=x.2)
noncomputable def ck:List (Bool×Pr)->List LF->Nat->Bool
 |[],_,_=>true
 |o::l,H,c=>bad (lc (o.2.iq o.1++H) c).1&&ck l H (lc (o.2.iq o.1++H) c).2
noncomputable def hy(c:Nat):Nat->List LF
 |0=>[]
 |k+1=>(pp 99 (sk k c)).1.iq true++hy c k
noncomputable def pw(c k:Nat):Bool:=ck (pp 99 (sk k c)).1.ob (hy c k) (sk (k+1) c)
theorem MS:∀{l:List LF} {c:Nat},AL A l->gz A (lc l c).1<=0
 |[],_,_=>wx sy
 |p::l,c,h=>by
  show gz A (pB (oF (nV (yb c).1) p) (lc l (yb c).2).1)<=0
  rw [xy,sA]
  exact Int.add_nonpos (Int.mul_nonpos_of_nonneg_of_nonpos (Hx _) h.1) (MS h.2)
theorem I7:∀{l:List (Int×Int)} {A:Cx},(l.all λx=>decide (x.1=0)&&decide (0<=x.2))=true->0<=fN l A
 |[],A,_=>wx ve.symm
 |_::_,[],_=>qn 0
 |p::l,x::A,h=>aw h λH J=>aw H λO U=>by
  show 0<=p.1*x.1+p.2*x.2+fN l A
  rw [aW O,ww,nU]
  exact Int.add_nonneg (o8 (aW U) (Hx _)) (I7 J)
theorem VL(h:bad p=true)(q:gz A p<=0):False:=aw h λH J=>ky.mpr q (Int.add_pos_of_pos_of_nonneg (aW H) (I7 J))
theorem JI:∀{l:List (Bool×Pr)} {H:List LF} {c:Nat},ck l H c=true->AL A H->NO A l
 |[],_,_,_,_=>trivial
 |o::l,_,_,h,a=>aw h λJ O=>⟨λx=>VL J (MS ((o.2.xR o.1 x).cU a)),JI O a⟩
theorem Mp:∀{k:Nat},(∀i,i<k->H c i A)->AL A (hy c k)
 |0,_=>trivial
 |k+1,h=>((pp 99 (sk k c)).1.xR true (h k (jL k))).cU (Mp λi q=>h i (HF q))
theorem go(h:∀i,i<k->H c i A)(e:pw c k=true):H c k A:=Pr.Fi _ (JI e (Mp h))
theorem no{P:Nat->Prop}(i:Nat)(h:i<0):P i:=absurd h (TR i)
theorem on{P:Nat->Prop}(h:∀i,i<k->P i)(x:P k)(i:Nat)(q:i<k+1):P i:=(Nat.lt_succ_iff_lt_or_eq.mp q).elim (h i) λe=>e▸x
theorem w1{P:Nat->Prop}{Q:Prop}(g:(∀i,i<1->P i)->Q):P 0->Q:=λH=>g (on no H)
theorem w2{P:Nat->Prop}{Q:Prop}(g:(∀i,i<2->P i)->Q):P 0->P 1->Q:=λH J=>g (on (on no H) J)
theorem w3{P:Nat->Prop}{Q:Prop}(g:(∀i,i<3->P i)->Q):P 0->P 1->P 2->Q:=λH J O=>g (on (on (on no H) J) O)
theorem w4{P:Nat->Prop}{Q:Prop}(g:(∀i,i<4->P i)->Q):P 0->P 1->P 2->P 3->Q:=λH J O U=>g (on (on (on (on no H) J) O) U)
theorem w5{P:Nat->Prop}{Q:Prop}(g:(∀i,i<5->P i)->Q):P 0->P 1->P 2->P 3->P 4->Q:=λH J O U V=>g (on (on (on (on (on no H) J) O) U) V)
theorem w6{P:Nat->Prop}{Q:Prop}(g:(∀i,i<6->P i)->Q):P 0->P 1->P 2->P 3->P 4->P 5->Q:=λH J O U V Y=>g (on (on (on (on (on (on no H) J) O) U) V) Y)
theorem w7{P:Nat->Prop}{Q:Prop}(g:(∀i,i<7->P i)->Q):P 0->P 1->P 2->P 3->P 4->P 5->P 6->Q:=λH J O U V Y Z=>g (on (on (on (on (on (on (on no H) J) O) U) V) Y) Z)
theorem w8{P:Nat->Prop}{Q:Prop}(g:(∀i,i<8->P i)->Q):P 0->P 1->P 2->P 3->P 4->P 5->P 6->P 7->Q:=λH J O U V Y Z h7=>g (on (on (on (on (on (on (on (on no H) J) O) U) V) Y) Z) h7)
theorem w9{P:Nat->Prop}{Q:Prop}(g:(∀i,i<9->P i)->Q):P 0->P 1->P 2->P 3->P 4->P 5->P 6->P 7->P 8->Q:=λH J O U V Y Z h7 h8=>g (on (on (on (on (on (on (on (on (on no H) J) O) U) V) Y) Z) h7) h8)
theorem w10{P:Nat->Prop}{Q:Prop}(g:(∀i,i<10->P i)->Q):P 0->P 1->P 2->P 3->P 4->P 5->P 6->P 7->P 8->P 9->Q:=λH J O U V Y Z h7 h8 h9=>g (on (on (on (on (on (on (on (on (on (on no H) J) O) U) V) Y) Z) h7) h8) h9)
theorem w11{P:Nat->Prop}{Q:Prop}(g:(∀i,i<11->P i)->Q):P 0->P 1->P 2->P 3->P 4->P 5->P 6->P 7->P 8->P 9->P 10->Q:=λJ O U V Y Z h6 h7 h8 h9 H=>g (on (on (on (on (on (on (on (on (on (on (on no J) O) U) V) Y) Z) h6) h7) h8) h9) H)
theorem w12{P:Nat->Prop}{Q:Prop}(g:(∀i,i<12->P i)->Q):P 0->P 1->P 2->P 3->P 4->P 5->P 6->P 7->P 8->P 9->P 10->P 11->Q:=λO U V Y Z h5 h6 h7 h8 h9 H J=>g (on (on (on (on (on (on (on (on (on (on (on (on no O) U) V) Y) Z) h5) h6) h7) h8) h9) H) J)
end
end L
open L
section
variable (A:Cx)(c:Nat)
theorem bx:pw c 0=true->H c 0 A:=go no
theorem aa:H c 0 A->pw c 1=true->H c 1 A:=w1 go
theorem aq:H c 0 A->H c 1 A->pw c 2=true->H c 2 A:=w2 go
theorem bB:H c 0 A->H c 1 A->H c 2 A->pw c 3=true->H c 3 A:=w3 go
theorem gI:H c 0 A->H c 1 A->H c 2 A->H c 3 A->pw c 4=true->H c 4 A:=w4 go
theorem pL:H c 0 A->H c 1 A->H c 2 A->H c 3 A->H c 4 A->pw c 5=true->H c 5 A:=w5 go
theorem E4:H c 0 A->H c 1 A->H c 2 A->H c 3 A->H c 4 A->H c 5 A->pw c 6=true->H c 6 A:=w6 go
theorem abR:H c 0 A->H c 1 A->H c 2 A->H c 3 A->H c 4 A->H c 5 A->H c 6 A->H c 7 A->H c 8 A->H c 9 A->pw c 10=true->H c 10 A:=w10 go
end
theorem dI(x k:Int)(h:0<k):k*(x/k)<=x/\x<k*(x/k)+k:=⟨Int.mul_ediv_self_le (qh h),Int.lt_mul_ediv_self_add h⟩
theorem mI(x k:Int)(h:0<k):0<=x%k/\x%k<k/\k*(x/k)+x%k=x:=⟨rJ _ (qh h),rS _ h,Int.mul_ediv_add_emod x k⟩
theorem mN(x k:Nat)(h:0<k):x%k<k/\k*(x/k)+x%k=x:=⟨Nat.mod_lt _ h,Nat.div_add_mod x k⟩
theorem nA{x:Int}{k:Nat}(h: -(k:Int)<x/\x<k):x.natAbs<k:=match x,h with
 |.ofNat _,h=>wy.mp h.2
 |.negSucc _,h=>wy.mp (Int.neg_lt_neg_iff.mp h.1)
theorem sN(x y:Nat):x- y<=x/\x<=x- y+y:=⟨Nat.sub_le x y,Nat.sub_le_iff_le_add.mp (cY _)⟩
end
section
open L
noncomputable def Ds:Cx:=[]
noncomputable def au{H:Nat}:Cx:=[(0,H)]
noncomputable def aJ{H J:Nat}:Cx:=[(0,H),(0,J)]
noncomputable def bL{H J O:Nat}:Cx:=[(0,H),(0,J),(0,O)]
noncomputable def dR{H J O U:Nat}:Cx:=[(0,H),(0,J),(0,O),(0,U)]
noncomputable def nk{H J O U V:Nat}:Cx:=[(0,H),(0,J),(0,O),(0,U),(0,V)]
noncomputable def Dt{H J O U V Y:Nat}:Cx:=[(0,H),(0,J),(0,O),(0,U),(0,V),(0,Y)]
noncomputable def zZ{H J O U V Y Z:Nat}:Cx:=[(0,H),(0,J),(0,O),(0,U),(0,V),(0,Y),(0,Z)]
noncomputable def az{a0:Int}:Cx:=[(a0,0)]
noncomputable def aX{a0:Int}{H:Nat}:Cx:=[(a0,0),(0,H)]
noncomputable def cQ{a0:Int}{H J:Nat}:Cx:=[(a0,0),(0,H),(0,J)]
noncomputable def dQ{a0:Int}{H J O:Nat}:Cx:=[(a0,0),(0,H),(0,J),(0,O)]
noncomputable def jR{a0:Int}{H J O U:Nat}:Cx:=[(a0,0),(0,H),(0,J),(0,O),(0,U)]
noncomputable def fz{a0:Int}{H J O U V:Nat}:Cx:=[(a0,0),(0,H),(0,J),(0,O),(0,U),(0,V)]
noncomputable def dB{a0 a1:Int}:Cx:=[(a0,0),(a1,0)]
noncomputable def iB{a0 a1:Int}{H:Nat}:Cx:=[(a0,0),(a1,0),(0,H)]
noncomputable def pq{a0 a1:Int}{H J:Nat}:Cx:=[(a0,0),(a1,0),(0,H),(0,J)]
noncomputable def Du{a0 a1:Int}{H J O:Nat}:Cx:=[(a0,0),(a1,0),(0,H),(0,J),(0,O)]
noncomputable def cF{a0 a1 a2:Int}:Cx:=[(a0,0),(a1,0),(a2,0)]
noncomputable def jt{a0 a1 a2:Int}{H:Nat}:Cx:=[(a0,0),(a1,0),(a2,0),(0,H)]
noncomputable def wY{a0 a1 a2:Int}{H J:Nat}:Cx:=[(a0,0),(a1,0),(a2,0),(0,H),(0,J)]
noncomputable def Wn{a0 a1 a2:Int}{H J O U V:Nat}:Cx:=[(a0,0),(a1,0),(a2,0),(0,H),(0,J),(0,O),(0,U),(0,V)]
noncomputable def qG{a0 a1 a2 a3:Int}:Cx:=[(a0,0),(a1,0),(a2,0),(a3,0)]
noncomputable def uS{a0 a1 a2 a3:Int}{H:Nat}:Cx:=[(a0,0),(a1,0),(a2,0),(a3,0),(0,H)]
noncomputable def Wo{a0 a1 a2 a3:Int}{H J:Nat}:Cx:=[(a0,0),(a1,0),(a2,0),(a3,0),(0,H),(0,J)]
noncomputable def nq{a0 a1 a2 a3 a4:Int}:Cx:=[(a0,0),(a1,0),(a2,0),(a3,0),(a4,0)]
noncomputable def Dv{a0 a1 a2 a3 a4:Int}{H:Nat}:Cx:=[(a0,0),(a1,0),(a2,0),(a3,0),(a4,0),(0,H)]
noncomputable def Jw{a0 a1 a2 a3 a4:Int}{H J:Nat}:Cx:=[(a0,0),(a1,0),(a2,0),(a3,0),(a4,0),(0,H),(0,J)]
noncomputable def Wq{a0 a1 a2 a3 a4 a5 a6 a7:Int}:Cx:=[(a0,0),(a1,0),(a2,0),(a3,0),(a4,0),(a5,0),(a6,0),(a7,0)]
noncomputable def Wm{J O U V Y Z b6 b7 b8 b9 H:Nat}:Cx:=[(0,J),(0,O),(0,U),(0,V),(0,Y),(0,Z),(0,b6),(0,b7),(0,b8),(0,b9),(0,H)]
end
section
variable {prog:iG}{w:bz}{A:cu}{E:af->aj->Prop}{s:aj}
theorem Oq{left step:Int}{Q:Option af->aj->Prop}(U:A.handled=none)(H:kU s.heap it x left step)(J:left<=0)
  (V:∀h',h'.objs.size=s.heap.objs.size+2->(∀b o,s.heap.get? b=some o->h'.get? b=some o)->Q none {s with heap:=h'}):wpAny (model prog w) A (pyNext (.ref it)) Q E s:=by
 have O:s.TypeIs (.ref it) "range_iterator":=⟨_,H,rfl⟩
 unfold pyNext
 refine aM (Ia (Ce (name:=qi "__next__") O Sb
  (zb Sb O F.entry_range_iterator_next ?_ (F.args_range_iterator_next_1 _))))
 show wpAny _ _ (field (.ref it) 0>>=_) _ _ s
 refine aM (wz H rfl (x:=rawInt x) rfl ?_)
 refine aM (wz H rfl (x:=rawInt left) rfl ?_)
 refine aM (wz H rfl (x:=rawInt step) rfl ?_)
 show wpAny _ _ (if left<=0 then _ else _) _ _ s
 rw [if_pos J]
 refine aM (oY (aM ?_))
 refine aM ?_
 simp only [newExc,newTuple]
 refine aM (rI ?_ (by size_fits))
 refine aM (m:=firstArgMember _ _) (iZ (a:=IC) rfl ?_)
 refine rI ?_ (by size_fits)
 simp only [raiseNew]
 refine aM (wpAny_handled ?_)
 rw [show A.in1.handled=none from U]
 refine aM (cH (wpAny_throw ?_))
 refine aM (wk (T:="StopIteration") (b:=true) ⟨_,gM _ rfl,rfl⟩ isSubtype_stop ?_)
 exact cH (V _ (by simp [iY]) λb o e=>dZ _ (dZ _ e))
theorem aie{items}{Q:Option af->aj->Prop}(Y:A.handled=none)(H:s.heap.IsTupleIter it t i)(Z:s.heap.IsTuple t items)(hx:items[i]?=none)
  (hQ:∀h',h'.objs.size=s.heap.objs.size+2->(∀b o,b≠it->s.heap.get? b=some o->h'.get? b=some o)->Q none {s with heap:=h'}):wpAny (model prog w) A (pyNext (.ref it)) Q E s:=by
 obtain⟨o,J,hc,O⟩:=id H
 obtain⟨ol,U,_,nl,V⟩:=Z
 unfold pyNext
 refine aM (Ia (Ce (name:=qi "__next__") H.typeIs Sd
  (zb Sd H.typeIs F.entry_tuple_iterator_next ?_ (F.args_tuple_iterator_next_1 _))))
 show wpAny _ _ (field (.ref it) 0>>=_) _ _ s
 refine aM (wz J O (x:=.ref t) rfl ?_)
 rw [if_neg (show¬((Value.ref t==IC)=true) from jK)]
 refine aM (wz J O (x:=.int i 0) rfl ?_)
 refine aM (CJ U V ?_)
 simp only [Ct,hx]
 refine aM (oY (aM (wpAny_setField J O (by simp) ?_)))
 refine aM ?_
 simp only [newExc,newTuple]
 refine aM (rI ?_ (by size_fits))
 refine aM (m:=firstArgMember _ _) (iZ (a:=IC) rfl ?_)
 refine rI ?_ (by size_fits)
 simp only [raiseNew]
 refine aM (wpAny_handled ?_)
 rw [show A.in1.handled=none from Y]
 refine aM (cH (wpAny_throw ?_))
 refine aM (wk (T:="StopIteration") (b:=true) ⟨_,gM _ rfl,rfl⟩ isSubtype_stop ?_)
 refine cH (hQ _ ?_ λb o hb e=>?_)
 ·simp [iY,Sq]
 ·exact dZ _ (dZ _ ((Ss _ _ (eN hb)).trans e))
theorem max2{Q:af->aj->Prop}(hh:A.handled=none)
  (hQ:∀h',h'.objs.size=s.heap.objs.size+5->(∀c o,s.heap.get? c=some o->h'.get? c=some o)->Q (if b>a then .int b u else .int a t) {s with heap:=h'}):
  wpAny (model prog w) A (call (.builtin "max") [.int a t,.int b u]) Q E s:=by
 have O:(toString "max"++toString ".loop":String)="max.loop":=by decide
 have Z3:∀(s:aj) (Q:af->aj->Prop) (E:af->aj->Prop),Q (.bool (decide (b>a))) s->wpAny (model prog w) A.in1 (richCompare .Gt (.int b u) (.int a t)) Q E s:=λs Q E h=>by
  have:=CmpOf.ints_gt (prog:=prog) (w:=w) (A:=A.in1) (P:=λi v=>v=if i=0 then .int a t else .int b u) (λi=>if i=0 then a else b) (λi v hv=>by subst hv;split<;>exact⟨_,rfl⟩)
  exact this 1 0 _ _ s Q E rfl rfl (by simpa using h)
 refine call_function_tree F.kind_max F.plain_max F.entry_max (F.args_max2 _ _) ?_
 refine aM (iZ (show Builtin.Builtins.bindParams "max" ["key","default"] 0 ⟨[],[]⟩=pure [none,none] from rfl) ?_)
 refine aM (rI ?_)
 have hT:(s.heap.push {cls:=.type "tuple",data:=.seq #[.int a t,.int b u]}).IsTuple s.heap.objs.size #[.int a t,.int b u]:=⟨_,gM _ rfl,rfl,0,rfl⟩
 refine aM (wpAny_pyIter_tuple hT ?_)
 refine aM (rI ?_)
 rw [O]
 generalize V:s.heap.objs.size=J
 have e1:(s.heap.push {cls:=.type "tuple",data:=.seq #[.int a t,.int b u]}).objs.size=J+1:=by rw [iY,V]
 rw [V] at hT
 dsimp only
 generalize Zq:s.heap.push {cls:=.type "tuple",data:=.seq #[.int a t,.int b u]}=H1 at*
 have k1:∀c o,s.heap.get? c=some o->H1.get? c=some o:=λc o e=>Zq▸dZ _ e
 rw [e1]
 have e2:(H1.push {cls:=.type "tuple_iterator",data:=.fields #[.ref J,.int 0 0]}).objs.size=J+2:=by rw [iY,e1]
 have hI:(H1.push {cls:=.type "tuple_iterator",data:=.fields #[.ref J,.int 0 0]}).IsTupleIter (J+1) J 0:=⟨_,e1▸gM _ rfl,rfl,rfl⟩
 have Zz:=hT.push {cls:=.type "tuple_iterator",data:=.fields #[.ref J,.int 0 0]}
 generalize Zr:H1.push {cls:=.type "tuple_iterator",data:=.fields #[.ref J,.int 0 0]}=H2 at*
 have k2:∀c o,s.heap.get? c=some o->H2.get? c=some o:=λc o e=>Zr▸dZ _ (k1 c o e)
 rw [e2]
 have e3:(H2.push {cls:=.type "list",data:=.seq #[]}).objs.size=J+3:=by rw [iY,e2]
 have hS:(H2.push {cls:=.type "list",data:=.seq #[]}).get? (J+2)=some {cls:=.type "list",data:=.seq #[]}:=e2▸gM _ rfl
 have LB:=Zz.push {cls:=.type "list",data:=.seq #[]}
 have Zs:(H2.push {cls:=.type "list",data:=.seq #[]}).IsTupleIter (J+1) J 0:=let⟨o,U,r⟩:=hI;⟨o,dZ _ U,r⟩
 have Z:∀(c:Nat) o,s.heap.get? c=some o->@LT.lt Nat _ c J:=λc o e=>V▸jl e
 have k3:∀c o,s.heap.get? c=some o->(H2.push {cls:=.type "list",data:=.seq #[]}).get? c=some o:=λc o e=>dZ _ (k2 c o e)
 have hl0:({cls:=.type "list",data:=.seq ([]:List af).toArray}:Obj)={cls:=.type "list",data:=.seq #[]}:=rfl
 rw [hl0]
 generalize hH3:H2.push {cls:=.type "list",data:=.seq #[]}=H3 at*
 refine cH ⟨rL uh _,?_⟩
 refine CA HL ?_
 rw [uf uh _]
 refine aM (CJ hS rfl ?_)
 refine aM (CK (Sj Zs LB (x:=.int a t) rfl λH4 Zt s4=>?_))
 have Lz:=(s4.2 (J+2) (neN (bx au 0x11011004201100456 rfl))).trans hS
 show wpAny _ A.in1 (updateSeq (J+2) (λY=>#[_,_])>>=_) _ _ _
 refine aM (CB Lz rfl ?_)
 rw [O]
 refine cH ⟨rL uh _,?_⟩
 have LA:(H4.update (J+2) (mK λY=>#[.int a t,.int a t])).get? (J+2)=some {cls:=.type "list",data:=.seq #[.int a t,.int a t] 1}:=qu _ Lz rfl
 have s5:=nY H4 (J+2) (mK λY=>#[.int a t,.int a t])
 have Zu:(H4.update (J+2) (mK λY=>#[.int a t,.int a t])).IsTupleIter (J+1) J 1:=let⟨o,U,r⟩:=Zt;⟨o,(s5.2 _ (neN (bx au 0x102011004101100456 rfl))).trans U,r⟩
 have LC:(H4.update (J+2) (mK λY=>#[.int a t,.int a t])).IsTuple J #[.int a t,.int b u]:=let⟨o,U,r⟩:=LB;⟨o,(s5.2 _ (neN (bx au 0x1020110040056 rfl))).trans ((s4.2 _ (neN (bx au 0x1010110040056 rfl))).trans U),r⟩
 have k5:∀c o,s.heap.get? c=some o->(H4.update (J+2) (mK λY=>#[.int a t,.int a t])).get? c=some o:=λc o e=>by
  have:=Z c o e
  exact(s5.2 _ (neN (aa aJ 0x1102011104005610004 this rfl))).trans ((s4.2 _ (neN (aa aJ 0x1101011104005610004 this rfl))).trans (k3 c o e))
 have e5:(H4.update (J+2) (mK λY=>#[.int a t,.int a t])).objs.size=J+3:=s5.1.trans (s4.1.trans e3)
 generalize hH5:H4.update (J+2) (mK λY=>#[.int a t,.int a t])=H5 at*
 have MP:∀(v:af) (c:Nat) (H:cR),H.get? (J+2)=some {cls:=.type "list",data:=.seq #[v,v] c}->H.IsTupleIter (J+1) J 2->H.IsTuple J #[.int a t,.int b u]->H.objs.size=J+3->
   (∀c o,s.heap.get? c=some o->H.get? c=some o)->v=(if b>a then .int b u else .int a t)->
   codeAny (model prog w) A (.builtin "max.loop" ⟨[.ref (J+1),.none,.ref (J+2)],[]⟩) (λr s'=>match r with|.ok (.ret v)=>Q v s'|.ok _=>False|.error e=>E e s') {s with heap:=H}:=λv c H hS hI hT e k hv=>by
  refine CA HL ?_
  rw [uf uh _]
  refine aM (CJ hS rfl ?_)
  refine aM (CK (aie hh hI hT rfl λH' e' k'=>?_))
  have Zy:=k' _ _ (neN (bx au 0x11011004201100456 rfl)) hS
  refine aM (CB Zy rfl (aM (CY (cH ?_))))
  show Q v _
  rw [hv]
  refine hQ _ ?_ λc o hc=>?_
  ·rw [Sq,e',V];show H.objs.size+2=_;rw [e]
  ·have:=Z c o hc
   exact(Ss _ _ (neN (aa aJ 0x1010020111045610004 this rfl))).trans (k' _ _ (neN (aa aJ 0x1101011104005610004 this rfl)) (k c o hc))
 refine CA HL ?_
 rw [uf uh _]
 refine aM (CJ LA rfl ?_)
 refine aM (CK (Sj Zu LC (x:=.int b u) rfl λH6 Lq s6=>?_))
 have Ej:=(s6.2 (J+2) (neN (bx au 0x11011004201100456 rfl))).trans LA
 have LD:H6.IsTuple J #[.int a t,.int b u]:=let⟨o,U,r⟩:=LC;⟨o,(s6.2 _ (neN (bx au 0x1010110040056 rfl))).trans U,r⟩
 have k6:∀c o,s.heap.get? c=some o->H6.get? c=some o:=λc o e=>by
  have:=Z c o e
  exact(s6.2 _ (neN (aa aJ 0x1101011104005610004 this rfl))).trans (k5 c o e)
 show wpAny _ A.in1 (tryCatch (holding [_,_] (richCompare .Gt (.int b u) (.int a t)>>=_)) _>>=_) _ _ _
 refine aM (CK (qe (aM (Z3 _ _ _ ?_))))
 refine aM (qe (lM ?_))
 refine aM (CY (cH ?_))
 by_cases vo:b>a
 ·simp only [vo,decide_true,if_true]
  refine aM (CB Ej rfl (aM (CY ?_)))
  rw [O]
  have s7:=nY H6 (J+2) (mK λY=>#[.int b u,.int b u])
  refine cH ⟨rL uh _,MP (.int b u) 1 _ (qu _ Ej rfl) (let⟨o,U,r⟩:=Lq;⟨o,(s7.2 _ (neN (bx au 0x102011004101100456 rfl))).trans U,r⟩) (let⟨o,U,r⟩:=LD;⟨o,(s7.2 _ (neN (bx au 0x1020110040056 rfl))).trans U,r⟩)
   (s7.1.trans (s6.1.trans e5)) (λc o e=>?_) (by simp [vo])⟩
  have:=Z c o e
  exact(s7.2 _ (neN (aa aJ 0x1102011104005610004 this rfl))).trans (k6 c o e)
 ·simp only [vo,decide_false,Cr,if_false]
  refine aM (CY ?_)
  rw [O]
  exact cH ⟨rL uh _,MP (.int a t) 1 _ Ej Lq LD (s6.1.trans e5) k6 (by simp [vo])⟩
end
noncomputable def aY(i:Nat):cy:=(aL.main.body.drop i).headD (.Pass default)
noncomputable def Pp:cy->Arguments
 |.FunctionDef _ a _ _ _ _ _ _ _ _=>a
 |_=>⟨[],[],none,[],[],none,[]⟩
noncomputable def iF:cy->List cy
 |.FunctionDef _ _ b _ _ _ _ _ _ _=>b
 |_=>[]
noncomputable def gg:cy->bF
 |.FunctionDef _ _ _ _ _ _ s _ _ _=>s
 |_=>aL.main.scope
noncomputable def ahm:cy->Str
 |.FunctionDef n _ _ _ _ _ _ _ _ _=>n
 |_=>Str.empty
noncomputable def fdOf(st:cy)(q:Str)(dV:af)(H J doc:af):zq:=
 {name:=ahm st,qualname:=q,params:=Pp st,body:=.stmts (iF st),scope:=gg st,globals:=mainGlobals,closure:=[],defaults:=dV,kwdefaults:=.none,doc,pyModule:=J,annotations:=none,code:=H,closureTuple:=.none,builtins:=builtinsNs}
structure XC(s₀:aj)(L:cT)(m:Str->Option af)(n k:Nat)(s:aj):Prop where
 same:∃h,s={s₀ with heap:=h,toks:=k}
 size:s.heap.objs.size=n
 ns:s.heap.Ns L m
 keep:∀b o,s₀.heap.get? b=some o->s.heap.get? b=some o
 above:s₀.heap.objs.size<=L
section
variable {s₀ s:aj}{L a:cT}{m:Str->Option af}{n k:Nat}{fd:zq}{M:iW}{A:cu}{E:af->aj->Prop}
theorem XC.toks(X:XC s₀ L m n k s):s.toks=k:=by obtain⟨h,rfl⟩:=X.same;rfl
theorem XC.tok(X:XC s₀ L m n k s):XC s₀ L m n (k+1) {s with toks:=s.toks+1}:=by
 obtain⟨h,rfl⟩:=X.same
 exact⟨⟨h,rfl⟩,X.size,X.ns,X.keep,X.above⟩
theorem XC.grow(X:XC s₀ L m n k s)(J:h'.objs.size=s.heap.objs.size+d)(H:∀b o,s.heap.get? b=some o->h'.get? b=some o):XC s₀ L m (n+d) (k+e) {s with heap:=h',toks:=s.toks+e}:=by
 refine⟨?_,by rw [←X.size];exact J,?_,λb o e=>H b o (X.keep b o e),X.above⟩
 ·obtain⟨h,rfl⟩:=X.same;exact⟨h',rfl⟩
 ·obtain⟨o,es,ep,O,U,V,Y⟩:=X.ns
  exact⟨o,es,ep,H _ _ O,U,V,Y⟩
theorem XC.Ec(X:XC s₀ L m n k s)(H:h'.objs.size=s.heap.objs.size+d)(J:∀b o,s.heap.get? b=some o->h'.get? b=some o):XC s₀ L m (n+d) k {s with heap:=h'}:=X.grow (e:=0) H J
theorem XC.eq(X:XC s₀ L m n k s)(H:n=J)(O:k=U):XC s₀ L m J U s:=by subst H;subst O;exact X
theorem rd{Q:af->aj->Prop}(X:XC s₀ L m n k s)(H:m x=some v)(h:Q v s)
  (J:(callEnv fd L a).scope.kind=.function:=by rfl) (O:(callEnv fd L a).kindOf x=some .local:=by rfl) (U:(x==("__debug__":Str))=false:=by decide):
  wpAny M A (eval (.Name x pos) (callEnv fd L a)) Q E s:=wpAny_Name (Cm J O X.ns H h) U
theorem MT{Q:af->aj->Prop}(X:XC s₀ L m n k s)(H:m x=some v)(h:Q v s)
  (J:(callEnv fd L a).scope.kind=.function:=by rfl) (O:(callEnv fd L a).kindOf x=some .local:=by rfl):
  wpAny M A (loadName (callEnv fd L a) x) Q E s:=Cm J O X.ns H h
theorem yl{mg:Str->Option af}{Q:af->aj->Prop}(X:XC s₀ L m n k s)(H:s₀.heap.Ns (callEnv fd L a).globals mg)(J:mg x=some v)(h:Q v s)
  (O:(callEnv fd L a).scope.kind=.function:=by rfl) (U:(callEnv fd L a).kindOf x=some .globalImplicit:=by rfl) (V:(x==("__debug__":Str))=false:=by decide):
  wpAny M A (eval (.Name x pos) (callEnv fd L a)) Q E s:=oZ O U (ug (H.keeps X.keep) J h) V
theorem Fe{mg mb:Str->Option af}{Q:af->aj->Prop}(X:XC s₀ L m n k s)(H:s₀.heap.Ns (callEnv fd L a).globals mg)(J:mg x=none)(O:s₀.heap.Ns (callEnv fd L a).builtins mb)(U:mb x=some v)(h:Q v s)
  (V:(callEnv fd L a).scope.kind=.function:=by rfl) (Y:(callEnv fd L a).kindOf x=some .globalImplicit:=by rfl) (Z:(x==("__debug__":Str))=false:=by decide):
  wpAny M A (eval (.Name x pos) (callEnv fd L a)) Q E s:=oZ V Y (Hy (H.keeps X.keep) J (O.keeps X.keep) U h) Z
theorem vY{Q:Unit->aj->Prop}(X:XC s₀ L m n k s)(h:∀s',XC s₀ L (λy=>if y=x then some v else m y) n (k+1) s'->(∀b,b≠L->s'.heap.get? b=s.heap.get? b)->Q () s')
  (O:(callEnv fd L a).scope.kind=.function:=by rfl) (U:(callEnv fd L a).kindOf x=some .local:=by rfl):wpAny M A (storeName (callEnv fd L a) x v) Q E s:=by
 refine Hq U X.ns (λh' V H=>?_) (by show((callEnv fd L a).scope.kind==.class||((callEnv fd L a).scope.kind==.module&&_))=false;rw [O];rfl)
 refine h _ ⟨?_,?_,V,λb o e=>?_,X.above⟩ H.2
 ·obtain⟨J,rfl⟩:=X.same;exact⟨h',rfl⟩
 ·rw [←X.size];exact H.1
 ·exact(H.2 b (dW (bN (jl e) X.above))).trans (X.keep b o e)
end
section
variable {prog:iG}{w:bz}{A:cu}{E:af->aj->Prop}{s₀ s:aj}{L a:cT}{m:Str->Option af}{n k:Nat}{fd:zq}{mg mb:Str->Option af}
theorem JC{Q:af->aj->Prop}(X:XC s₀ L m n k s)(H:m x=some (.int c t))
  (h:Q (.int (eF c) s.toks) {s with toks:=s.toks+1})
  (J:(callEnv fd L a).scope.kind=.function:=by rfl) (O:(callEnv fd L a).kindOf x=some .local:=by rfl) (U:(x==("__debug__":Str))=false:=by decide) (V:(kE.endLine==pos.line)=true:=by rfl):
  wpAny (model prog w) A (eval (.Call (.Attribute (.Name x p) "bit_length" kE) [] [] pos) (callEnv fd L a)) Q E s:=by
 refine aM ?_
 refine rd X H ?_ J O U
 refine aM (qf ?_)
 show wpAny _ _ (methodCall _ _ _ _ _ _ 0 [] []) _ _ _
 unfold methodCall
 refine aM (qe ?_)
 refine Sh ?_
 have hp:methodCallPos (methodCallForm 0 [] []) (.Name x p) (callEnv fd L a) kE pos=pure pos:=by
  unfold methodCallPos;simp [V]
 refine aM (iZ hp ?_)
 refine callWith_builtin rfl (PySem.evalArgs_none ?_)
 exact SY h
theorem JB{args:List aG}{id:String}{Q:af->aj->Prop}(X:XC s₀ L m n k s)(H:s₀.heap.Ns (callEnv fd L a).globals mg)(J:mg x=none)(O:s₀.heap.Ns (callEnv fd L a).builtins mb)(U:mb x=some (.builtin id))
  {lF:List (Bool×Sem af)} (Z:backTo pos (starEach args (callEnv fd L a))=lF) (hp:lF.any (·.1)=false)
  (h:wpAny (model prog w) A (evalArgs (.builtin id) true lF []) (λa s₁=>wpAny (model prog w) A (call (.builtin id) a.pos a.kw) Q E s₁) E s)
  (V:(callEnv fd L a).scope.kind=.function:=by rfl) (Y:(callEnv fd L a).kindOf x=some .globalImplicit:=by rfl) (hd:(x==("__debug__":Str))=false:=by decide):
  wpAny (model prog w) A (eval (.Call (.Name x p) args [] pos) (callEnv fd L a)) Q E s:=by
 refine Cw (Fe X H J O U ?_ V Y hd)
 rw [Z]
 exact callWith_builtin hp h
theorem Jb{Q:Args->aj->Prop}(h:wpAny (model prog w) A J (λV s₁=>wpAny (model prog w) A O (λH s₂=>Q ⟨[V,H],[]⟩ s₂) E s₁) E s):
  wpAny (model prog w) A (evalArgs f true [(false,J),(false,O)] []) Q E s:=
 evalArgs_plain (Ih (wpAny_mono h (λY Y U=>Ih (wpAny_mono U (λY Y Z=>zl Z) λY Y e=>e)) λY Y e=>e))
theorem Di{Q:Args->aj->Prop}(h:wpAny (model prog w) A J (λV s₁=>Q ⟨[V],[]⟩ s₁) E s):
  wpAny (model prog w) A (evalArgs f true [(false,J)] []) Q E s:=
 evalArgs_plain (Ih (wpAny_mono h (λY Y H=>zl H) λY Y e=>e))
theorem Wt{id:String}{Q:af->aj->Prop}(X:XC s₀ L m n k s)(U:s₀.heap.Ns (callEnv fd L a).globals mg)(Y:mg x=none)(Z:s₀.heap.Ns (callEnv fd L a).builtins mb)(hv:mb x=some (.builtin id))
  (h:wpAny (model prog w) A (eval J (callEnv fd L a)) (λV s₁=>wpAny (model prog w) A (eval O (callEnv fd L a)) (λH s₂=>wpAny (model prog w) A (call (.builtin id) [V,H]) Q E s₂) E s₁) E s)
  (ht:backTo pos (starEach [J,O] (callEnv fd L a))=[(false,eval J (callEnv fd L a)),(false,eval O (callEnv fd L a))]:=by rfl)
  (hk:(callEnv fd L a).scope.kind=.function:=by rfl) (hx:(callEnv fd L a).kindOf x=some .globalImplicit:=by rfl) (hd:(x==("__debug__":Str))=false:=by decide):
  wpAny (model prog w) A (eval (.Call (.Name x p) [J,O] [] pos) (callEnv fd L a)) Q E s:=
 JB X U Y Z hv ht rfl (Jb h) hk hx hd
end
structure IY(h:cR)(mg mb:Str->Option af):Prop where
 g:h.Ns mainGlobals mg
 b:h.Ns builtinsNs mb
 lim:h.NoLimit
 total:∃t,mg "TOTAL"=some (.int 2048 t)
 steps:∃t,mg "PRICE_STEPS"=some (.int 4 t)
 bit:∃t,mg "BIT_PRICE"=some (.int 16 t)
 bits:∃t,mg "MODEL_BITS"=some (.int 11 t)
 gi:mg "isinstance"=none
 gn:mg "int"=none
 gr:mg "range"=none
 gm:mg "max"=none
 bi:mb "isinstance"=some (.builtin "isinstance")
 bn:mb "int"=some (.type "int")
 br:mb "range"=some (.type "range")
 bm:mb "max"=some (.builtin "max")
noncomputable def rB(p:Int×Int):Int×Int:=
 let J:=p.1*p.1
 let O:=if((eF J:Nat):Int) - 16>0 then((eF J:Nat):Int) - 16 else 0
 (J.fdiv (2^O.toNat),2*p.2+O)
noncomputable def kO(p:Int×Int):Nat->Int×Int
 |0=>p
 |n+1=>rB (kO p n)
noncomputable def BB(c:Int):Int:=16*11- (kO (c,0) 4).2- (((eF (kO (c,0) 4).1:Nat):Int) - 1)
theorem Dp(H:0<=c):c<2^n↔eF c<=n:=by
 unfold eF
 obtain⟨c,rfl⟩:=Sk H
 by_cases h:c=0
 ·subst h;simp;exact g7 ∅
 ·have:((c:Int)==0)=false:=by simpa using h
  rw [this]
  simp only [Cr,if_false,Int.natAbs_natCast]
  rw [←Nat.lt_iff_add_one_le,Nat.log2_lt h]
  exact_mod_cast Iff.rfl
theorem PX(H:0<=p.1):0<=(rB p).1/\(rB p).1<2^16:=by
 have J:0<=p.1*p.1:=o8 H H
 unfold rB
 dsimp only
 generalize p.1*p.1=c at*
 refine⟨Int.fdiv_nonneg J (iA (g7 ∅)),?_⟩
 have O:c<2^eF c:=(Dp J).mpr (cY _)
 rw [G8 _ (iA (g7 ∅))]
 apply Ci (g7 ∅)
 rw [←wB]
 refine Cs O ?_
 have hp:∀a b:Nat,a<=b->(2:Int)^a<=2^b:=λa b h=>by exact_mod_cast Hu ∅ h
 exact hp _ _ (by split<;>omega)
section
variable {prog:iG}{w:bz}{A:cu}{s:aj}{mg mb:Str->Option af}
noncomputable abbrev oR(J O H:af):zq:=fdOf (aY 48) "price_of" .none J O H
theorem aeU{R:gj->aj->Prop}(T:IY s.heap mg mb)(ho:s.heap.get? f=some o)(hd:o.data=.func (oR cd pm doc))(xD:s.heap.CodeRec cd "price_of")
  (hA:A.handled=none) (hr:A.depth<900) (h0:0<c) (h1:c<=2048)
  (hR:∀h',h'.objs.size=s.heap.objs.size+25->(∀b o,s.heap.get? b=some o->h'.get? b=some o)->R (.ok (.ret (.int (BB c) (s.toks+67)))) {s with heap:=h',toks:=s.toks+68}):
  codeAny (model prog w) A (.call (.ref f) ⟨[.int c t],[]⟩) R s:=by
 have hfd:(oR cd pm doc).code=cd:=rfl
 refine Sy (fd:=oR cd pm doc) (body:=iF (aY 48)) (by unfold recursionLimit;exact(aa au 0x113e8031004384031004 hr rfl)) ho hd rfl rfl rfl xD ?_
 have hb:bindArgs (oR cd pm doc) ⟨[.int c t],[]⟩=pure [(qi "chance",.int c t)]:=by rfl
 rw [hb]
 refine cH (Hv (show∀x∈(gg (aY 48)).names,x.2≠.cell by decide) (by intro x hx;rw [cA] at hx;subst hx;rfl) (λxN AQ U=>⟨T.lim.fresh _ U,codeAny_func ?_⟩) (by rfl))
 have X0:XC s s.heap.objs.size (λx=>[(qi "chance",qt c t)].reverse.lookup x) (s.heap.objs.size+1) (s.toks+1) {s with heap:=xN,toks:=s.toks+1}:=
  ⟨⟨_,rfl⟩,by rw [U.1,iY],AQ,λb o e=>U.extBut b o (dW (jl e)) (dZ _ e),cY _⟩
 have xB:(A.deeper (callEnv (oR cd pm doc) s.heap.objs.size f)).handled=none:=hA
 show wpAny _ (A.deeper (callEnv (oR cd pm doc) s.heap.objs.size f)) (execs (iF (aY 48)) (callEnv (oR cd pm doc) s.heap.objs.size f)) _ _ _
 generalize hB:A.deeper (callEnv (oR cd pm doc) s.heap.objs.size f)=B at*
 clear AQ U
 generalize ({s with heap:=xN,toks:=s.toks+[(qi "chance",qt c t)].length}:aj)=s₁ at*
 obtain⟨tT,hT⟩:=T.total
 obtain⟨tS,hS⟩:=T.steps
 obtain⟨tB,Lp⟩:=T.bit
 obtain⟨tM,hM⟩:=T.bits
 with_unfolding_all refine o5 (wpAny_If (isTrue_or (isTrue_not (isTrue_plain (JB X0 T.g T.gi T.b T.bi rfl rfl (Jb (rd X0 rfl (Fe X0 T.g T.gn T.b T.bn (IsiPair.int_int (lM ?_))))))))))
 rw [if_neg (show¬((!true)=true) by decide)]
 refine isTrue_or (isTrue_not (isTrue_chain (rT ?_)))
 have X1:=X0.tok
 generalize ({s₁ with toks:=s₁.toks+1}:aj)=s₂ at*
 refine test_link (rd X1 rfl (PyProof.Rows.lt_int (lM ?_)))
 rw [if_pos (decide_eq_true h0)]
 refine test_last (yl X1 T.g hT (PyProof.Rows.le_int (lM ?_)))
 rw [decide_eq_true h1,if_neg (show¬((!true)=true) by decide)]
 refine isTrue_or_nil ?_
 rw [if_neg jK]
 refine wo ?_
 refine o5 (Cu (rT (vY X1.tok (λJ X3 Y=>?_))))
 refine o5 (wpAny_For (Cw (Fe X3 T.g T.gr T.b T.br ?_)))
 refine S1 rfl (Di (yl X3 T.g hS (Ii (Hz (IsRange.new ..) (C1 ∅ ∅ ∅ ∅) ?_))))
 have X4:=(X3.grow (e:=2) (d:=1) (h':=J.heap.push {cls:=.type "range",data:=.fields #[.int 0 J.toks,.int 4 tS,.int 1 (J.toks+1)]}) (iY ..) λb o e=>dZ _ e)
 have jx:(J.heap.push {cls:=.type "range",data:=.fields #[.int 0 J.toks,.int 4 tS,.int 1 (J.toks+1)]}).objs.size=s.heap.objs.size+2:=X4.size
 have X5:=(X4.Ec (d:=1) (h':=IF _ {cls:=.type "range_iterator",data:=.fields #[rawInt 0,rawInt (uB 0 4 1),rawInt 1]}) (iY ..) λb o e=>dZ _ e)
 have Z:(IF (J.heap.push {cls:=.type "range",data:=.fields #[.int 0 J.toks,.int 4 tS,.int 1 (J.toks+1)]}) {cls:=.type "range_iterator",data:=.fields #[rawInt 0,rawInt (uB 0 4 1),rawInt 1]}).get? (s.heap.objs.size+2)=some {cls:=.type "range_iterator",data:=.fields #[rawInt 0,rawInt 4,rawInt 1]}:=jx▸gM _ rfl
 dsimp only at X5⊢
 rw [jx]
 generalize IF (J.heap.push {cls:=.type "range",data:=.fields #[.int 0 J.toks,.int 4 tS,.int 1 (J.toks+1)]}) {cls:=.type "range_iterator",data:=.fields #[rawInt 0,rawInt (uB 0 4 1),rawInt 1]}=h5 at*
 clear X0 X1 X3 X4 jx
 refine codeAny_forLoop (λj s'=>∃(i:Nat) (m':Str->Option af) (t1 t2:Tok),j+i=4/\kU s'.heap (s.heap.objs.size+2) i (4- i) 1/\
   XC s s.heap.objs.size m' (s.heap.objs.size+3+5*i) (s.toks+6+14*i) s'/\m' "chance"=some (.int (kO (c,0) i).1 t1)/\m' "high"=some (.int (kO (c,0) i).2 t2)) (λj s' hI=>?_) 4 ⟨0,_,_,_,rfl,Z,X5,rfl,rfl⟩
 clear X5 Z
 obtain⟨i,m',t1,t2,hj,Z,X,hc,hh⟩:=hI
 by_cases hi:i=4
 ·subst hi
  refine Oq xB Z (bx Ds 0x100140112401150 rfl) λh' hz hk=>?_
  have X6:=X.Ec hz hk
  refine wo ?_
  generalize ({s' with heap:=h'}:aj)=s6 at*
  refine o5 (wpAny_Return_some (mG (mG (mG (yl X6 T.g Lp (yl X6 T.g hM (SH ?_)))))))
  have X7:=X6.tok
  generalize ({s6 with toks:=s6.toks+1}:aj)=s7 at*
  refine rd X7 hh (yY ?_)
  have X8:=X7.tok
  generalize ({s7 with toks:=s7.toks+1}:aj)=s8 at*
  refine mG (JC X8 hc ?_)
  have X9:=X8.tok
  generalize ({s8 with toks:=s8.toks+1}:aj)=s9 at*
  refine rT (yY (yY ?_))
  dsimp only
  have zN:=X9.tok.tok.tok
  dsimp only at zN
  obtain⟨Zm,DO⟩:=zN.same
  have e:=hR Zm (by have:=zN.size;rw [DO] at this;exact this) (by have:=zN.keep;rw [DO] at this;exact this)
  rw [DO,X9.toks]
  exact e
 ·have Eo:i<4:=by omega
  have LH:0<=(kO (c,0) i).1/\(kO (c,0) i).1<2^16:=by
   cases i with
   |zero=>exact⟨by show 0<=c;exact(aa az 0x11000010000011 h0 rfl),by show c<2^16;exact(aa az 0x1110000051001800031000 h1 rfl)⟩
   |succ i=>
    have h0:∀i,0<=(kO (c,0) i).1:=λi=>by
     induction i with
     |zero=>show 0<=c;exact(aa az 0x11000010000011 h0 rfl)
     |succ i ih=>exact(PX ih).1
    exact PX (h0 i)
  generalize hC:(kO (c,0) i).1=C at*
  generalize hH:(kO (c,0) i).2=H at*
  have ZG:eF C<=64:=bo ((Dp LH.1).mp LH.2) (bx Ds 0x140021100213 rfl)
  refine Hg Z (aa au 0x110024011500114011004 Eo rfl) λh' LU U=>?_
  dsimp only
  have X1:XC s s.heap.objs.size m' (s.heap.objs.size+3+5*i) (s.toks+6+14*i+1) {s' with heap:=h',toks:=s'.toks+1}:=by
   obtain⟨hx,rfl⟩:=X.same
   refine⟨⟨_,rfl⟩,U.1.trans X.size,?_,λb o e=>(U.2 b (neN ?_)).trans (X.keep b o e),X.above⟩
   ·obtain⟨o,es,ep,h1,h2⟩:=X.ns
    exact⟨o,es,ep,(U.2 _ (neN (bx au 0x1020110040056 rfl))).trans h1,h2⟩
   ·have:@LT.lt Nat _ b s.heap.objs.size:=jl e
    exact(aa aJ 0x1102011104005610004 this rfl)
  have T1:kU ({s' with heap:=h',toks:=s'.toks+1}:aj).heap (s.heap.objs.size+2) (i+1) (4- i- 1) 1:=LU
  generalize ({s' with heap:=h',toks:=s'.toks+1}:aj)=r1 at*
  clear Z LU U X
  refine wpAny_assign_Name (vY X1 λr2 X2 b2=>?_)
  have T2:kU r2.heap (s.heap.objs.size+2) (i+1) (4- i- 1) 1:=(b2 _ (neN (bx au 0x100201100456 rfl))).trans T1
  clear X1 T1 b2
  refine o5 (SI (MT X2 hc (rd X2 hc (imul_int (vY X2.tok (λr3 X3 b3=>?_)) (.of_left ZG)))))
  have T3:kU r3.heap (s.heap.objs.size+2) (i+1) (4- i- 1) 1:=(b3 _ (neN (bx au 0x100201100456 rfl))).trans T2
  clear X2 T2 b3
  refine o5 (Cu (Wt X3 T.g T.gm T.b T.bm (rT (mG (JC X3.tok rfl (yl X3.tok.tok T.g Lp (yY (max2 xB λh4 z4 k4=>?_))))))))
  have X4:=X3.tok.tok.tok.Ec z4 k4
  have T4:kU h4 (s.heap.objs.size+2) (i+1) (4- i- 1) 1:=k4 _ _ T3
  dsimp only at X4⊢
  refine vY X4 λr5 X5 b5=>?_
  have T5:kU r5.heap (s.heap.objs.size+2) (i+1) (4- i- 1) 1:=(b5 _ (neN (bx au 0x100201100456 rfl))).trans T4
  clear X4 T4 T3 X3 b5
  generalize Ma:(if((eF (C*C):Nat):Int) - 16>0 then qt (((eF (C*C):Nat):Int) - 16) (r3.toks+1+1) else qt 0 r3.toks)=V at*
  have hV:∃t,V=qt (if((eF (C*C):Nat):Int) - 16>0 then((eF (C*C):Nat):Int) - 16 else 0) t:=by
   subst Ma;split<;>exact⟨_,rfl⟩
  obtain⟨tv,hV⟩:=hV
  subst hV
  clear Ma
  generalize hO:(if((eF (C*C):Nat):Int) - 16>0 then((eF (C*C):Nat):Int) - 16 else 0)=O at*
  have Zv:0<=O:=by subst hO;split<;>omega
  refine o5 (SI (MT X5 rfl (rd X5 rfl (irshift_int Zv (vY X5.tok (λr6 X6 b6=>?_))))))
  have T6:kU r6.heap (s.heap.objs.size+2) (i+1) (4- i- 1) 1:=(b6 _ (neN (bx au 0x100201100456 rfl))).trans T5
  clear X5 T5 b6
  refine o5 (Cu (mG (mG (rT (rd X6.tok (v:=.int H t2) ?_ (SH (rd X6.tok.tok rfl (SJ (vY X6.tok.tok.tok λr7 X7 b7=>?_)))))))))
  ·exact hh
  have T7:kU r7.heap (s.heap.objs.size+2) (i+1) (4- i- 1) 1:=(b7 _ (neN (bx au 0x100201100456 rfl))).trans T6
  have q1:(kO (c,0) (i+1)).1=(C*C).fdiv (2^O.toNat):=by
   show(rB (kO (c,0) i)).1=_
   unfold rB;dsimp only;rw [hC,hO]
  have q2:(kO (c,0) (i+1)).2=2*H+O:=by
   show(rB (kO (c,0) i)).2=_
   unfold rB;dsimp only;rw [hC,hH,hO]
  refine wo ⟨3- i,by exact(aq bL 0x100110020430111020454011100045 hj (cG (aa au 0x1130110034011004 Eo rfl)) rfl),i+1,_,r5.toks,r6.toks+1+1,(aa aJ 0x111014011101110400453011100045 (cG (aa au 0x1130110034011004 Eo rfl)) rfl),?_,X7.eq (bx aJ 0x11101110450163011004450111050163011004445 rfl) (bx aJ 0x111011104e016601100441011101110111011101110111011101110111011101110111011101110e01660110044444444444444445 rfl),?_,?_⟩
  ·rw [show((i+1:Nat):Int)=(i:Int)+1 by exact(bx au 0x1110110024101100422 rfl),show(4:Int) - ((i:Int)+1)=4- i- 1 by exact(bx au 0x11101100240115510110024401152 rfl)]
   exact T7
  ·rw [q1];rfl
  ·rw [q2];rfl
end
section
variable {prog:iG}{w:bz}{A:cu}{E:af->aj->Prop}{s:aj}
theorem Dh{xs:Array af}{Q:af->aj->Prop}(V:s.heap.get? l=some {cls:=.type "list",data:=.seq xs n})
  (J:∀h',h'.get? l=some {cls:=.type "list",data:=.seq (xs.push x) (n+1)}->kq l s.heap h'->Q .none {s with heap:=h'}) (H:xs.size<=1000):
  wpAny (model prog w) A (call (.builtin "list.append") [.ref l,x]) Q E s:=by
 have O:s.TypeIs (.ref l) "list":=⟨_,V,rfl⟩
 refine zb slot_list_append O entry_list_append ?_ (args_list_append _ _)
 show wpAny _ _ (updateSeq l (·.push x)>>=λY=>ret .none) _ _ s
 refine aM ?_
 refine CB V rfl (cH ⟨.none,rfl,J _ ?_ (nY ..)⟩) (by rw [qo];exact(aa au 0x1110000000710033e8031003 H rfl)) (by rw [qo,TS];exact(aa au 0x11101110000000714101100433e8031003 H rfl))
 refine qu _ V ?_|>.trans ?_
 ·simp [mK,Obj.isFreed]
 ·simp [mK]
end
noncomputable abbrev FZ(J O H:af):zq:=fdOf (aY 49) "price_rows" .none J O H
noncomputable def oU:List cy->aG
 |[_,.Return (some e) _]=>e
 |_=>.Constant .none 0 default
noncomputable def oM:aG->bF
 |.ListComp _ _ s _=>s
 |_=>aL.main.scope
noncomputable def BE(H i:Nat):af:=.int (BB (16*(i:Int)+8)) (H+72*i+71)
noncomputable def rowItems(H n:Nat):Array af:=((bV n).map (BE H)).toArray
noncomputable def tL(H n:Nat):Obj:={cls:=.type "list",data:=.seq (rowItems H n) n}
theorem afw(H n:Nat):rowItems H (n+1)=(rowItems H n).push (BE H n):=by
 unfold rowItems
 simp [CC]
theorem afv(H n:Nat):(rowItems H n).size=n:=by simp [rowItems]
structure I1(h:cR)(mg mb:Str->Option af)(f:cT):Prop where
 p:IY h mg mb
 cell:∃t,mg "CELL_BITS"=some (.int 4 t)
 gp:mg "price_of"=some (.ref f)
 fn:∃o cd pm doc,h.get? f=some o/\o.data=.func (oR cd pm doc)/\h.CodeRec cd "price_of"
section
variable {prog:iG}{w:bz}{A:cu}{s:aj}{mg mb:Str->Option af}
structure I0(s:aj)(k0:Nat)(i:Nat)(tm:Tok)(s':aj):Prop where
 same:∃h,s'={s with heap:=h,toks:=k0+72*i}
 size:s'.heap.objs.size=s.heap.objs.size+6+25*i
 ai1:s'.heap.IsCell (s.heap.objs.size+1) (some (.int 8 tm))
 it:kU s'.heap (s.heap.objs.size+3) i (128- i) 1
 list:s'.heap.get? (s.heap.objs.size+4)=some (tL k0 i)
 ns:∃m,s'.heap.Ns (s.heap.objs.size+5) m
 keep:∀b o,s.heap.get? b=some o->s'.heap.get? b=some o
theorem afD{R:gj->aj->Prop}(T:I1 s.heap mg mb g)(ho:s.heap.get? f=some o)(hd:o.data=.func (FZ cd pm doc))(xD:s.heap.CodeRec cd "price_rows")
  (hA:A.handled=none) (hr:A.depth<800)
  (hR:∀h',h'.objs.size=s.heap.objs.size+3208->h'.get? (s.heap.objs.size+4)=some (tL (s.toks+7) 128)->(∀b o,s.heap.get? b=some o->h'.get? b=some o)->R (.ok (.ret (.ref (s.heap.objs.size+4)))) {s with heap:=h',toks:=s.toks+7+72*128}):
  codeAny (model prog w) A (.call (.ref f) ⟨[],[]⟩) R s:=by
 refine Sy (fd:=FZ cd pm doc) (body:=iF (aY 49)) (by unfold recursionLimit;exact(aa au 0x113e8031004320031004 hr rfl)) ho hd rfl rfl rfl xD ?_
 have hb:bindArgs (FZ cd pm doc) ⟨[],[]⟩=pure []:=by rfl
 rw [hb]
 refine cH ?_
 show wpAny _ _ (alloc {cls:=.type "frame",data:=.dict #[]}>>=λL=>alloc {cls:=.type "cell",data:=.cell none}>>=λc=>pure (newEnv (gg (aY 49)) L mainGlobals [("middle",c)] ("price_rows.<locals>.":Str) (some f) cd none builtinsNs)) _ _ _
 refine aM (CZ (aM (CZ (cH ⟨(T.p.lim.keeps λJ J e=>dZ _ (dZ _ e)),codeAny_func ?_⟩))))
 have z1:(s.heap.push {cls:=.type "frame",data:=.dict #[]}).objs.size=s.heap.objs.size+1:=iY ..
 have z2:((s.heap.push {cls:=.type "frame",data:=.dict #[]}).push {cls:=.type "cell",data:=.cell none}).objs.size=s.heap.objs.size+2:=by rw [iY,z1]
 dsimp only
 rw [z1]
 have hc:((s.heap.push {cls:=.type "frame",data:=.dict #[]}).push {cls:=.type "cell",data:=.cell none}).IsCell (s.heap.objs.size+1) none:=⟨_,z1▸gM _ rfl,rfl⟩
 have hk:∀b o,s.heap.get? b=some o->((s.heap.push {cls:=.type "frame",data:=.dict #[]}).push {cls:=.type "cell",data:=.cell none}).get? b=some o:=λJ J e=>dZ _ (dZ _ e)
 generalize (s.heap.push {cls:=.type "frame",data:=.dict #[]}).push {cls:=.type "cell",data:=.cell none}=h2 at*
 generalize H:newEnv (gg (aY 49)) s.heap.objs.size mainGlobals [("middle",s.heap.objs.size+1)] ("price_rows.<locals>.":Str) (some f) cd none builtinsNs=env
 have eg:env.globals=mainGlobals:=by subst H;rfl
 have eb:env.builtins=builtinsNs:=by subst H;rfl
 have ek:env.scope.kind=.function:=by subst H;rfl
 have xB:(A.deeper env).handled=none:=hA
 have xK:(A.deeper env).depth<900:=by show A.depth+1<900;exact(aa au 0x1138403110110044320031004 hr rfl)
 generalize A.deeper env=B at*
 obtain⟨tT,hT⟩:=T.p.total
 obtain⟨tC,hC⟩:=T.cell
 have G2:h2.Ns env.globals mg:=eg▸T.p.g.keeps hk
 with_unfolding_all refine o5 (Cu (mG (rT (mG (oZ ek (by subst H;rfl) (ug G2 hC (rT (yY (Sl ∅ ∅ ?_)))) ∅)))) (by subst H;rfl))
 dsimp only
 refine SK ek (by subst H;rfl) (by subst H;rfl) hc λV c3 s3=>?_
 have z3:V.objs.size=s.heap.objs.size+2:=s3.1.trans z2
 have Z:∀b o,s.heap.get? b=some o->V.get? b=some o:=λb o e=>(s3.2 _ (neN (by have:@LT.lt Nat _ b s.heap.objs.size:=jl e;exact(aa aJ 0x1101011104005610004 this rfl)))).trans (hk b o e)
 have c3:V.IsCell (s.heap.objs.size+1) (some (.int 8 (s.toks+1+1+1))):=c3
 clear hc hk s3 G2 z2
 dsimp only
 have G3:V.Ns env.globals mg:=eg▸T.p.g.keeps Z
 have B3:V.Ns env.builtins mb:=eb▸T.p.b.keeps Z
 refine o5 (wpAny_Return_some ?_)
 rw [eval_ListComp]
 refine wpAny_comprehension_free (use:=none) (cl:=[("middle",s.heap.objs.size+1)]) rfl (by intro _;rfl) (by subst H;rfl) rfl ∅ ?_
 refine Cw (oZ ek (by subst H;rfl) (Hy G3 T.p.gr B3 T.p.br ?_) ∅)
 refine S1 rfl (Di (mG (oZ ek (by subst H;rfl) (ug G3 hT (oZ ek (by subst H;rfl) (ug G3 hC (PyProof.Rows.rshift_int ∅ ?_)) ∅)) ∅)))
 refine Ii (Hz (IsRange.new ..) (C1 ∅ ∅ ∅ ∅) ?_)
 have hk':((1:Int)*2^(4- 1:Int).toNat)=8:=by decide
 have Er:(2048:Int).fdiv (2^(4:Int).toNat)=128:=by decide
 have Z9:uB 0 128 1=128:=by decide
 dsimp only
 rw [Er,Z9]
 generalize EH:V.push {cls:=.type "range",data:=.fields #[.int 0 (s.toks+1+1+1+1+1),.int 128 (s.toks+1+1+1+1),.int 1 (s.toks+1+1+1+1+1+1)]}=h4
 have z4:h4.objs.size=s.heap.objs.size+3:=by rw [←EH,iY,z3]
 have k4:∀b o,V.get? b=some o->h4.get? b=some o:=λb o e=>EH▸dZ _ e
 rw [z4]
 have i5:kU (h4.push {cls:=.type "range_iterator",data:=.fields #[rawInt 0,rawInt 128,rawInt 1]}) (s.heap.objs.size+3) 0 128 1:=z4▸gM _ rfl
 generalize EI:h4.push {cls:=.type "range_iterator",data:=.fields #[rawInt 0,rawInt 128,rawInt 1]}=h5 at*
 have z5:h5.objs.size=s.heap.objs.size+4:=by rw [←EI,iY,z4]
 have k5:∀b o,V.get? b=some o->h5.get? b=some o:=λb o e=>EI▸dZ _ (k4 b o e)
 clear EH EI z4 k4
 refine rI ?_
 dsimp only
 rw [z5]
 have l6:(h5.push {cls:=.type "list",data:=.seq ([]:List af).toArray}).get? (s.heap.objs.size+4)=some {cls:=.type "list",data:=.seq #[]}:=z5▸gM _ rfl
 generalize AR:h5.push {cls:=.type "list",data:=.seq ([]:List af).toArray}=h6 at*
 have z6:h6.objs.size=s.heap.objs.size+5:=by rw [←AR,iY,z5]
 have k6:∀b o,V.get? b=some o->h6.get? b=some o:=λb o e=>AR▸dZ _ (k5 b o e)
 have i6:kU h6 (s.heap.objs.size+3) 0 128 1:=AR▸dZ _ i5
 clear AR i5 z5 k5
 refine Hv ∅ (by intro x hx;cases hx) (λh7 n7 s7=>?_) rfl
 dsimp only at n7 s7⊢
 rw [z6] at n7 s7⊢
 have z7:h7.objs.size=s.heap.objs.size+6:=by rw [s7.1,iY,z6]
 have k7:∀b o,h6.get? b=some o->h7.get? b=some o:=λb o e=>(s7.2 b (neN (by have:@LT.lt Nat _ b h6.objs.size:=jl e;exact(aq bL 0x111050111042056002045011104005 z6 this rfl)))).trans (dZ _ e)
 have X0:I0 s (s.toks+7) 0 (s.toks+1+1+1) {s with heap:=h7,toks:=s.toks+1+1+1+1+1+1+1+([]:List (Str×af)).length}:=
  ⟨⟨_,rfl⟩,z7,c3.keeps λb o e=>k7 _ _ (k6 _ _ e),k7 _ _ i6,k7 _ _ l6,⟨_,n7⟩,λb o e=>k7 _ _ (k6 _ _ (Z _ _ e))⟩
 clear z6 k6 i6 l6 n7 s7 z7 k7 c3 Z z3 G3 B3
 generalize ({s with heap:=h7,toks:=s.toks+1+1+1+1+1+1+1+([]:List (Str×af)).length}:aj)=r0 at*
 refine(λloop=>codeAny_compStart_list loop (Su X0.it loop)) ?_
 show codeAny _ _ (.compLoop _ 0 _ _ (compEnvC (oM (oU (iF (aY 49)))) [("middle",s.heap.objs.size+1)] (s.heap.objs.size+5) env)) (compPost _ _ _ _ _ _ (s.heap.objs.size+5)) _
 have ck:(compEnvC (oM (oU (iF (aY 49)))) [("middle",s.heap.objs.size+1)] (s.heap.objs.size+5) env).scope.kind=.function:=rfl
 have cg:(compEnvC (oM (oU (iF (aY 49)))) [("middle",s.heap.objs.size+1)] (s.heap.objs.size+5) env).globals=mainGlobals:=eg
 have cl:(compEnvC (oM (oU (iF (aY 49)))) [("middle",s.heap.objs.size+1)] (s.heap.objs.size+5) env).locals=s.heap.objs.size+5:=rfl
 have cc:(compEnvC (oM (oU (iF (aY 49)))) [("middle",s.heap.objs.size+1)] (s.heap.objs.size+5) env).cells.lookup (qi "middle")=some (s.heap.objs.size+1):=rfl
 have q1:(compEnvC (oM (oU (iF (aY 49)))) [("middle",s.heap.objs.size+1)] (s.heap.objs.size+5) env).kindOf "cell"=some .local:=by subst H;rfl
 have q2:(compEnvC (oM (oU (iF (aY 49)))) [("middle",s.heap.objs.size+1)] (s.heap.objs.size+5) env).kindOf "middle"=some .cell:=by subst H;rfl
 have q3:(compEnvC (oM (oU (iF (aY 49)))) [("middle",s.heap.objs.size+1)] (s.heap.objs.size+5) env).kindOf "price_of"=some .globalImplicit:=by subst H;rfl
 have q4:(compEnvC (oM (oU (iF (aY 49)))) [("middle",s.heap.objs.size+1)] (s.heap.objs.size+5) env).kindOf "CELL_BITS"=some .globalImplicit:=by subst H;rfl
 generalize compEnvC (oM (oU (iF (aY 49)))) [("middle",s.heap.objs.size+1)] (s.heap.objs.size+5) env=ce at*
 refine codeAny_compLoop_list (λj s'=>∃i,j+i=128/\I0 s (s.toks+7) i (s.toks+1+1+1) s') (λj s' hI=>?_) 128 ⟨0,rfl,X0⟩
 clear X0
 obtain⟨i,hj,X⟩:=hI
 by_cases hi:i=128
 ·subst hi
  refine Oq xB X.it (bx Ds 0x10018002128002150 rfl) λh' hz hk=>?_
  obtain⟨m,hm⟩:=X.ns
  refine⟨m,hm.keeps hk,λZk U=>?_⟩
  obtain⟨hx,rfl⟩:=X.same
  refine hR Zk ?_ ?_ λb o e=>?_
  ·have e1:=U.1
   have e2:=X.size
   dsimp only at e1 e2 hz⊢
   exact(bB dR 0x1010111010101c88031304205800211902660113044105002052011104005 hz e1 e2 rfl)
  ·exact(U.2 _ (neN (bx au 0x105011004401100456 rfl))).trans (hk _ _ X.list)
  ·exact(U.2 b (neN (by have:@LT.lt Nat _ b s.heap.objs.size:=jl e;exact(aa aJ 0x1105011104005610004 this rfl)))).trans (hk _ _ (X.keep b o e))
 ·have O:i<128:=by omega
  refine Hg X.it (aa au 0x11002800215001180021004 O rfl) λh1 i1 s1=>?_
  obtain⟨m,hm⟩:=X.ns
  obtain⟨hx,rfl⟩:=X.same
  have Y:=X
  obtain⟨_,zX,cX,_,lX,_,kX⟩:=X
  have old:∀b o,s.heap.get? b=some o->@LT.lt Nat _ b s.heap.objs.size:=λb o e=>jl e
  have n1:h1.Ns ce.locals m:=cl▸hm.sameBut s1 (neN (bx au 0x13011004501100456 rfl))
  refine wpAny_assign_Name (Hq q1 n1 (λh2 n2 s2=>?_) (by rw [ck];rfl))
  rw [cl] at s2
  have g2:∀b,b≠s.heap.objs.size+3->b≠s.heap.objs.size+5->h2.get? b=hx.get? b:=λb a c=>(s2.2 b c).trans (s1.2 b a)
  have k2:∀b o,s.heap.get? b=some o->h2.get? b=some o:=λb o e=>(g2 b (neN (by have:=old b o e;exact(aa aJ 0x1103011104005610004 this rfl))) (neN (by have:=old b o e;exact(aa aJ 0x1105011104005610004 this rfl)))).trans (kX b o e)
  have c2:h2.IsCell (s.heap.objs.size+1) (some (.int 8 (s.toks+1+1+1))):=let⟨o,ho,hd⟩:=cX;⟨o,(g2 _ (neN (bx au 0x103011004101100456 rfl)) (neN (bx au 0x105011004101100456 rfl))).trans ho,hd⟩
  have l2:=(g2 _ (neN (bx au 0x13011004401100456 rfl)) (neN (bx au 0x105011004401100456 rfl))).trans lX
  have i2:kU h2 (s.heap.objs.size+3) (i+1) (128- i- 1) 1:=(s2.2 _ (neN (bx au 0x105011004301100456 rfl))).trans i1
  have z2:h2.objs.size=s.heap.objs.size+6+25*i:=s2.1.trans (s1.1.trans zX)
  clear s1 s2 n1 i1 hm g2 zX cX lX kX Y
  have G2:h2.Ns ce.globals mg:=cg▸T.p.g.keeps k2
  obtain⟨po,pcd,ppm,aeJ,p1,p2,p3⟩:=T.fn
  dsimp only
  refine Cw (oZ ck q3 (ug G2 T.gp ?_) ∅)
  refine callWith_function (o:=po) (fd:=oR pcd ppm aeJ) (Di (mG (mG (wpAny_Name (Cm ck q1 n2 rfl (oZ ck q4 (ug G2 hC (Sl ∅ ?_ (wpAny_Name (S2 ck q2 cc c2 (SJ ?_)) ∅))) ∅)) ∅))))
  ·have:eF (i:Int)<=7:=(Dp (bx au 0x10020010 rfl)).mp (aa au 0x1180021002180021004 O rfl)
   exact(aa au 0x1180000000714011002407011003 this rfl)
  ·refine⟨⟨k2 _ _ p1,p2⟩,?_⟩
   have hv:(i:Int)*2^(4:Int).toNat+8=16*(i:Int)+8:=by
    rw [show((2:Int)^(4:Int).toNat)=16 from rfl];exact(bx au 0x11801100210026480110021002742 rfl)
   rw [hv]
   refine wpAny_call (aeU (mg:=mg) (mb:=mb) ⟨T.p.g.keeps k2,T.p.b.keeps k2,T.p.lim.keeps k2,T.p.total,T.p.steps,T.p.bit,T.p.bits,T.p.gi,T.p.gn,T.p.gr,T.p.gm,T.p.bi,T.p.bn,T.p.br,T.p.bm⟩ (k2 _ _ p1) p2 (p3.keeps k2) xB xK (bx au 0x180110021002640011 rfl) (aa au 0x1002f18000318011002100264080021004 O rfl) λV z3 Z=>?_)
   refine Dh (Z _ _ l2) (λh4 l4 s4=>?_) (by rw [afv];exact(aa au 0x113e803100380021004 O rfl))
   dsimp only at s4 l4⊢
   refine⟨127- i,by exact(aq bL 0x10011002047f02110204580021100045 hj (cG (aa au 0x117f02100380021004 O rfl)) rfl),i+1,(aa aJ 0x1110180021101110400457f021100045 (cG (aa au 0x117f02100380021004 O rfl)) rfl),⟨⟨h4,?_⟩,?_,?_,?_,?_,?_,λb o e=>?_⟩⟩
   ·have:s.toks+7+72*i+1+1+1+1+68=s.toks+7+72*(i+1):=(bx aJ 0x1110111044802670110044440211011101110111011104802670110044444445 rfl)
    rw [←this]
   ·dsimp only;rw [s4.1,z3,z2];exact(bx aJ 0x11101110419026601100441902110190266011004445 rfl)
   ·obtain⟨o,ho,hd⟩:=c2
    exact⟨o,(s4.2 _ (neN (bx au 0x104011004101100456 rfl))).trans (Z _ _ ho),hd⟩
   ·rw [show((i+1:Nat):Int)=(i:Int)+1 by exact(bx au 0x1110110024101100422 rfl),show(128:Int) - ((i:Int)+1)=128- i- 1 by exact(bx au 0x1110110028002155101100248002152 rfl)]
    exact(s4.2 _ (neN (bx au 0x104011004301100456 rfl))).trans (Z _ _ i2)
   ·unfold tL
    rw [afw]
    exact l4
   ·exact⟨_,cl▸(n2.keeps Z).sameBut s4 (by rw [cl];exact neN (bx au 0x14011004501100456 rfl))⟩
   ·exact(s4.2 b (neN (by have:=old b o e;exact(aa aJ 0x1104011104005610004 this rfl)))).trans (Z _ _ (k2 _ _ e))
end
set_option genCtorIdx false in
inductive PT where
 |nil
 |node (v:Option Obj) (l r:PT)
namespace PT
noncomputable def get:PT->Nat->Option Obj
 |.nil,_=>none
 |.node v l r,i=>match dP i 0 with
  |true=>v
  |false=>match dP (i%2) 1 with
   |true=>l.get (i/2)
   |false=>r.get (i/2- 1)
noncomputable def put:Nat->PT->Nat->Obj->PT
 |0,t,_,_=>t
 |n+1,.nil,i,o=>match dP i 0 with
  |true=>.node (some o) .nil .nil
  |false=>match dP (i%2) 1 with
   |true=>.node none (put n .nil (i/2) o) .nil
   |false=>.node none .nil (put n .nil (i/2- 1) o)
 |n+1,.node v l r,i,o=>match dP i 0 with
  |true=>.node (some o) l r
  |false=>match dP (i%2) 1 with
   |true=>.node v (put n l (i/2) o) r
   |false=>.node v l (put n r (i/2- 1) o)
noncomputable def val:PT->Option Obj
 |.nil=>none
 |.node v _ _=>v
noncomputable def left:PT->PT
 |.nil=>.nil
 |.node _ l _=>l
noncomputable def right:PT->PT
 |.nil=>.nil
 |.node _ _ r=>r
noncomputable def sel{α:Type}(i:Nat)(a b c:α):α:=if i=0 then a else if i%2=1 then b else c
theorem Ge{α:Type}{i:Nat}{a b c:α}:(match dP i 0 with|true=>a|false=>match dP (i%2) 1 with|true=>b|false=>c)=sel i a b c:=by
 rw [BT.beq_eq,BT.beq_eq]
 unfold sel
 by_cases h:i=0
 ·rw [decide_eq_true h,if_pos h]
 ·rw [decide_eq_false h,if_neg h]
  by_cases q:i%2=1
  ·rw [decide_eq_true q,if_pos q]
  ·rw [decide_eq_false q,if_neg q]
theorem AF:∀(t:PT) (i:Nat),t.get i=sel i t.val (t.left.get (i/2)) (t.right.get (i/2- 1))
 |.nil,i=>by
  show none=sel i none none none
  unfold sel
  rw [ite_self,ite_self]
 |.node v l r,i=>Ge
theorem ae6(o:Obj)(n i:Nat):∀t:PT,put (n+1) t i o=sel i (node (some o) t.left t.right) (node t.val (put n t.left (i/2) o) t.right) (node t.val t.left (put n t.right (i/2- 1) o))
 |.nil=>Ge
 |.node v l r=>Ge
theorem MC{α:Type}{c d:Prop}[Decidable c][Decidable d](h:c↔d){a b:α}:(if c then a else b)=if d then a else b:=by
 by_cases q:d
 ·rw [if_pos q,if_pos (h.mpr q)]
 ·rw [if_neg q,if_neg λz=>q (h.mp z)]
theorem mo(o:Obj):∀(n:Nat) (t:PT) (i j:Nat),i+1<2^n->(put n t i o).get j=if j=i then some o else t.get j
 |0,_,_,_,h=>absurd h (gQ.mpr (HM (uy _)))
 |n+1,t,i,j,h=>by
  rw [Nat.pow_succ] at h
  rw [ae6,AF t j]
  unfold sel
  by_cases O:i=0
  ·rw [if_pos O,AF,O]
   unfold sel
   by_cases H:j=0
   ·rw [if_pos H,if_pos H];rfl
   ·rw [if_neg H,if_neg H,if_neg H];rfl
  ·rw [if_neg O]
   by_cases U:i%2=1
   ·rw [if_pos U,AF]
    unfold sel
    by_cases H:j=0
    ·rw [if_pos H,if_pos H,if_neg (λq:j=i=>O (q.symm.trans H))];rfl
    ·rw [if_neg H,if_neg H]
     by_cases J:j%2=1
     ·rw [if_pos J,if_pos J]
      show(put n t.left (i/2) o).get (j/2)=_
      rw [mo o n t.left (i/2) (j/2) (bB dR 0x1100102101011304400203020164520112047101120510201710110044 h U (mN _ 2 ∅) rfl)]
      exact MC (by constructor<;>intro _<;>first|lia|omega)
     ·rw [if_neg J,if_neg J,if_neg (λq:j=i=>J (q▸U))];rfl
   ·rw [if_neg U,AF]
    unfold sel
    by_cases H:j=0
    ·rw [if_pos H,if_pos H,if_neg (λq:j=i=>O (q.symm.trans H))];rfl
    ·rw [if_neg H,if_neg H]
     by_cases J:j%2=1
     ·rw [if_pos J,if_pos J,if_neg (λq:j=i=>U (q▸J))];rfl
     ·rw [if_neg J,if_neg J]
      show(put n t.right (i/2- 1) o).get (j/2- 1)=_
      rw [mo o n t.right (i/2- 1) (j/2- 1) (by first|lia|omega)]
      exact MC (by constructor<;>intro _<;>first|lia|omega)
end PT
section
variable {β:Type}{r:β}{G:Prop}
theorem nn(h:none=some r):G:=Te rfl (heq_of_eq h)
theorem dz{α:Type}{o:Option α}{k:α->Option β}(h:o.bind k=some r)(f:∀a,o=some a->k a=some r->G):G:=by
 cases o with
 |none=>exact nn h
 |some a=>exact f a rfl h
theorem qJ{b:Bool}{a:Option β}(h:cond b a none=some r)(k:b=true->a=some r->G):G:=by
 cases b with
 |true=>exact k rfl h
 |false=>exact nn h
theorem KN{α:Type}{o:Option α}{b:Option β}{k:α->Option β}(h:o.elim b k=some r)(H:o=none->b=some r->G)(f:∀a,o=some a->k a=some r->G):G:=by
 cases o with
 |none=>exact H rfl h
 |some a=>exact f a rfl h
end
noncomputable abbrev zH:=Ctx->Code->PT->Nat->Nat->Option (af×PT×Nat×Nat)
noncomputable def lZ(o:Obj):Bool:=match o.data with
 |.freed=>false
 |_=>true
noncomputable def go(den:Code->Sem Fin)(quiet:Code->Bool)(prog:iG)(P:cE)(fR:zH)(fixed:List Nat):Nat->Ctx->Pos->Sem Fin->PT->Nat->Nat->Option (gj×PT×Nat×Nat)
 |0,_,_,_,_,_,_=>none
 |n+1,J,p,t,T,m,k=>match t with
  |.pure (.done f)=>some (.ok f,T,m,k)
  |.pure (.again c)=>cond (quiet c) (go den quiet prog P fR fixed n (J.goto c) p (den c) T m k) none
  |.raise e=>some (.error e,T,m,k)
  |.rule _ H=>go den quiet prog P fR fixed n J p (H ()) T m k
  |.at q H=>go den quiet prog P fR fixed n J q (H ()) T m k
  |.load a _ H=>(T.get a).bind λo=>go den quiet prog P fR fixed n J p (H o) T m k
  |.update a _ f H=>(T.get a).bind λo=>cond (lI a 60000&&lZ (f o)&&!(fixed.any λb=>dP b a)) (go den quiet prog P fR fixed n J p (H ()) (T.put 16 a (f o)) m k) none
  |.loadIfAlive a H=>(T.get a).bind λo=>go den quiet prog P fR fixed n J p (H (some o)) T m k
  |.point _ H=>go den quiet prog P fR fixed n J p (H ()) T m k
  |.alloc o H=>cond (lI m 60000&&lZ o) (go den quiet prog P fR fixed n J p (H m) (T.put 16 m o) (m+1) k) none
  |.fresh H=>go den quiet prog P fR fixed n J p (H k) T m (k+1)
  |.ask H=>go den quiet prog P fR fixed n J p (H ⟨prog,P⟩) T m k
  |.call c h _ _ H=>(fR (J.enter c h p) c T m k).elim ((go den quiet prog P fR fixed n (J.enter c h p) p (den c) T m k).bind λ(r,O,U,V)=>go den quiet prog P fR fixed n J p (H r) O U V)
   λ(v,O,U,V)=>go den quiet prog P fR fixed n J p (H (.ok (.ret v))) O U V
  |.handled Y H=>go den quiet prog P fR fixed n J p (H (if Y then J.own else J.handled)) T m k
  |.stack H=>go den quiet prog P fR fixed n J p (H ((J.code,p)::J.below)) T m k
  |.thread H=>go den quiet prog P fR fixed n J p (H 0) T m k
  |_=>none
structure Agree(s₀:aj)(T:PT)(m k:Nat)(s:aj):Prop where
 same:∃h,s={s₀ with heap:=h,toks:=k}
 size:s.heap.objs.size=m
 tree:∀a o,T.get a=some o->s.heap.get? a=some o
 low:∀a o,T.get a=some o->a<60000
theorem My{o:Obj}(h:lZ o=true):o.isFreed=false:=by
 obtain⟨c,d,H,sl⟩:=o
 cases H<;>first|rfl|cases h
theorem Agree.alloc{s₀ s:aj}{T:PT}{m k:Nat}(X:Agree s₀ T m k s){o:Obj}(H:m<60000)(J:lZ o=true):Agree s₀ (T.put 16 m o) (m+1) k {s with heap:=s.heap.push o}:=by
 refine⟨?_,by rw [iY,X.size],λa o' e=>?_,λa o' e=>?_⟩
 ·obtain⟨h,rfl⟩:=X.same;exact⟨_,rfl⟩
 ·rw [PT.mo _ _ _ _ _ (aa au 0x111000005110110044ea60041004 H rfl)] at e
  split at e
  ·rename_i q;subst q;cases e
   exact X.size▸gM _ (My J)
  ·exact dZ _ (X.tree a o' e)
 ·rw [PT.mo _ _ _ _ _ (aa au 0x111000005110110044ea60041004 H rfl)] at e
  split at e
  ·omega
  ·exact X.low a o' e
theorem Agree.update{s₀ s:aj}{T:PT}{m k a:Nat}(X:Agree s₀ T m k s){o:Obj}{f:Obj->Obj}(e:T.get a=some o)(U:lZ (f o)=true):Agree s₀ (T.put 16 a (f o)) m k {s with heap:=s.heap.update a f}:=by
 have J:kq a s.heap (s.heap.update a f):=nY ..
 have O:=X.low a o e
 refine⟨?_,by rw [←X.size];exact J.1,λb o' H=>?_,λb o' H=>?_⟩
 ·obtain⟨h,rfl⟩:=X.same;exact⟨_,rfl⟩
 ·rw [PT.mo _ _ _ _ _ (aa au 0x111000005110110044ea60041004 O rfl)] at H
  split at H
  ·rename_i q;subst q;cases H
   exact qu _ (X.tree _ _ e) (My U)
  ·rename_i q;exact(J.2 b q).trans (X.tree b o' H)
 ·rw [PT.mo _ _ _ _ _ (aa au 0x111000005110110044ea60041004 O rfl)] at H
  split at H
  ·omega
  ·exact X.low b o' H
theorem Agree.fresh{s₀ s:aj}{T:PT}{m k:Nat}(X:Agree s₀ T m k s):s.toks=k/\Agree s₀ T m (k+1) {s with toks:=s.toks+1}:=by
 obtain⟨h,rfl⟩:=X.same
 exact⟨rfl,⟨_,rfl⟩,X.size,X.tree,X.low⟩
def Kept(fixed:List Nat)(T O:PT):Prop:=∀a∈fixed,∀o,T.get a=some o->O.get a=some o
theorem Kept.put{fixed:List Nat}{T:PT}{a:Nat}{o:Obj}(h:a<60000)(hn:(T.get a=none)\/a∉fixed):Kept fixed T (T.put 16 a o):=λb O o' e=>by
 rw [PT.mo _ _ _ _ _ (aa au 0x111000005110110044ea60041004 h rfl)]
 split
 ·rename_i q;subst q
  rcases hn with hn|hn
  ·rw [hn] at e;cases e
  ·exact absurd O hn
 ·exact e
structure IX(prog:iG)(w:bz)(fR:zH)(fixed:List Nat)(F:PT):Prop where
 sound:∀Γ c T m k v T' m' k' s₀ s p,fR Γ c T m k=some (v,T',m',k')->Γ.code=c->Kept fixed T F->Agree s₀ T m k s->
  wpCode (model prog w) Γ (λr s'=>r=.ok (.ret v)/\Agree s₀ T' m' k' s') p s
 keeps:∀Γ c T m k v T' m' k',fR Γ c T m k=some (v,T',m',k')->(∀a o,T.get a=some o->a<m)->Kept fixed T T'/\∀a o,T'.get a=some o->a<m'
def kW(T:PT)(m:Nat):Prop:=∀a o,T.get a=some o->a<m
theorem kW.put{T:PT}(X:kW T m)(h:a<60000)(H:a<m):kW (T.put 16 a o) m:=λb o' e=>by
 rw [PT.mo _ _ _ _ _ (aa au 0x111000005110110044ea60041004 h rfl)] at e
 split at e
 ·omega
 ·exact X b o' e
theorem Kept.refl(fixed:List Nat)(T:PT):Kept fixed T T:=λY Y Y e=>e
theorem Kept.trans(x:Kept fixed J O)(y:Kept fixed O U):Kept fixed J U:=λa H o e=>y a H o (x a H o e)
theorem ael{fixed:List Nat}{a:Nat}(h:(!(fixed.any λb=>dP b a))=true):a∉fixed:=λH=>by
 have:(fixed.any λb=>dP b a)=true:=TF.mpr ⟨a,H,Nat.beq_refl a⟩
 rw [this] at h;cases h
theorem zO(h:(lI m 60000&&lZ o)=true):m<60000/\lZ o=true:=⟨lK (yZ.mp h).1,(yZ.mp h).2⟩
theorem P0{fixed:List Nat}{a:Nat}{o:Obj}(h:(lI a 60000&&lZ o&&!(fixed.any λb=>dP b a))=true):a<60000/\lZ o=true/\a∉fixed:=
 have z:=yZ.mp h;⟨(zO z.1).1,(zO z.1).2,ael z.2⟩
section
variable {den:Code->Sem Fin}{quiet:Code->Bool}{prog:iG}{w:bz}{fR:zH}{fixed:List Nat}{F:PT}
theorem vj{P:cE}(O:∀{Γ c T m k v J U V},fR Γ c T m k=some (v,J,U,V)->kW T m->Kept fixed T J/\kW J U){r:gj}{J:PT}{U V:Nat}:
  ∀(n:Nat) {Γ:Ctx} {p:Pos} {t:Sem Fin} {T:PT} {m k:Nat},go den quiet prog P fR fixed n Γ p t T m k=some (r,J,U,V)->kW T m->Kept fixed T J/\kW J U
 |0,_,_,_,_,_,_,h,_=>nn h
 |n+1,Γ,p,t,T,m,k,h,X=>by
  have H:=@vj P O r J U V n
  have same:∀{Z:gj},some (Z,T,m,k)=some (r,J,U,V)->Kept fixed T J/\kW J U:=λe=>by cases e;exact⟨λY Y Y e=>e,X⟩
  cases t with
  |pure f=>
   cases f with
   |done f=>exact same h
   |again c=>exact qJ h λY h=>H h X
  |raise e=>exact same h
  |rule _ _=>exact H h X
  |«at» _ _=>exact H h X
  |point _ _=>exact H h X
  |fresh _=>exact H h X
  |ask _=>exact H h X
  |handled _ _=>exact H h X
  |stack _=>exact H h X
  |thread _=>exact H h X
  |load a q κ=>exact dz h λY Y h=>H h X
  |loadIfAlive a κ=>exact dz h λY Y h=>H h X
  |update a q f κ=>exact dz h λo e h=>qJ h λhb h=>have z:=P0 hb;have y:=H h (X.put z.1 (X a o e));⟨(Kept.put z.1 (.inr z.2.2)).trans y.1,y.2⟩
  |alloc o κ=>
   exact qJ h λhb h=>by
    have z:=zO hb
    have hn:T.get m=none:=RX.mpr λo' e=>qg _ (X m o' e)
    have y:=H h (kW.put (λa o' e=>HF (X a o' e)) z.1 (jL _))
    exact⟨(Kept.put z.1 (.inl hn)).trans y.1,y.2⟩
  |call c hd g l κ=>
   exact KN h (λY h=>dz h λq e h=>have y:=vj O (r:=q.1) n e X;have z:=H h y.2;⟨y.1.trans z.1,z.2⟩)
    λq e h=>have y:=O (v:=q.1) e X;have z:=H h y.2;⟨y.1.trans z.1,z.2⟩
  |_=>exact nn h
theorem Lm(Z:den=denote table)(hq:quiet=ID)(O:IX prog w fR fixed F)
  (O2:∀{Γ c T m k v T' m' k'},fR Γ c T m k=some (v,T',m',k')->kW T m->Kept fixed T T'/\kW T' m'):
  ∀(n:Nat) {Γ:Ctx} {p:Pos} {t:Sem Fin} {T:PT} {m k:Nat} {r:gj} {T':PT} {m' k':Nat},go den quiet prog w.params fR fixed n Γ p t T m k=some (r,T',m',k')->Kept fixed T' F->
   ∀{s₀ s:aj} {R:gj->aj->Prop},Agree s₀ T m k s->(∀s',Agree s₀ T' m' k' s'->R r s')->
   wF (model prog w) Γ t (Iu (model prog w) Γ R) (λe J s'=>R (.error e) s') p s
 |0,_,_,_,_,_,_,_,_,_,_,h,_,_,_,_,_,_=>nn h
 |n+1,Γ,p,t,T,m,k,r,T',m',k',h,K,s₀,s,R,X,H=>by
  have U:=@Lm Z hq O O2 n
  have size:∀{T m k} {s:aj},Agree s₀ T m k s->kW T m:=λY a o e=>Y.size▸jl (Y.tree a o e)
  have LL:(model prog w).den=den:=Z.symm
  cases t with
  |pure f=>
   cases f with
   |done f=>cases h;exact H s X
   |again c=>
    exact qJ h λhc h=>by
     refine(Sem.wp_pure ..).mpr ⟨hq▸hc,?_⟩
     rw [Ib,LL]
     exact U h K X H
  |raise e=>cases h;exact H s X
  |rule tag V=>exact U h K X H
  |«at» q V=>exact U h K X H
  |point l V=>exact U h K X H
  |thread V=>exact U h K X H
  |ask V=>exact U h K X H
  |handled own V=>exact U h K X H
  |stack V=>exact U h K X H
  |fresh V=>
   have Y:=X.fresh
   show wF _ _ (V s.toks) _ _ _ _
   rw [Y.1]
   exact U h K (Y.1▸Y.2) H
  |load a q V=>exact dz h λo e h=>⟨o,X.tree a o e,U h K X H⟩
  |loadIfAlive a V=>
   exact dz h λo e h=>by
    show wF _ _ (V (s.heap.get? a)) _ _ _ _
    rw [X.tree a o e]
    exact U h K X H
  |update a q f V=>exact dz h λo e h=>qJ h λhb h=>⟨uA.mpr ⟨o,X.tree a o e⟩,U h K (X.update e (P0 hb).2.1) H⟩
  |alloc o V=>
   exact qJ h λhb h=>by
    have z:=zO hb
    show wF _ _ (V s.heap.objs.size) _ _ _ _
    rw [X.size]
    exact U h K (X.alloc z.1 z.2) H
  |call c hd g l V=>
   refine(Sem.wp_call ..).mpr (KN h (λJ h=>dz h λq e h=>?_) λq e h=>?_)
   ·have y:=vj O2 (r:=q.1) n e (size X)
    have K1:=(vj O2 n h y.2).1
    rw [Ib,LL]
    exact U (r:=q.1) e (K1.trans K) X λs' Y=>U h K Y H
   ·have y:=O2 (v:=q.1) e (size X)
    refine wpCode_mono (λr' s' z=>?_) (O.sound _ _ _ _ _ q.1 _ _ _ s₀ s p e rfl (y.1.trans ((vj O2 n h y.2).1.trans K)) X)
    obtain⟨rfl,Y⟩:=z
    exact U h K Y H
  |_=>exact nn h
end
noncomputable abbrev sl(x:String):Str:=qi x
noncomputable def WN:cy->List cy
 |.ClassDef _ _ _ b _ _ _ _ _ _ _=>b
 |_=>[]
noncomputable def aQ(i j:Nat):cy:=((WN (aY i)).drop j).headD (.Pass default)
noncomputable def D5(st:cy)(q:Str)(dV:af)(J:cT)(O:Str)(H:Tok):Obj:=⟨.type "function",none,.func (fdOf st q dV (.ref J) (.str O H) .none),#[]⟩
noncomputable abbrev fb(x:String)(t:Tok):af:=.str (sl x) t
noncomputable def aH(P:cE)(x:String)(t:Tok)(v:af):bY:=⟨PyData.keyHash P (sl x),fb x t,v⟩
noncomputable def dh(P:cE)(x:String)(t:Tok):bY:=aH P x t (.builtin x)
noncomputable def aE(P:cE)(x:String)(t:Tok)(a:Nat):bY:=aH P x t (.ref a)
noncomputable def er(P:cE)(x:String)(t a:Nat):bY:=aH P x (t+1) (.int a t)
noncomputable def A8(c:String)(d:Data):Obj:=⟨.type c,none,d,[].toArray⟩
noncomputable def jz(l:List bY)(n:Nat):Obj:=A8 "dict" (.dict l.toArray n)
noncomputable def xZ(l:List af):Obj:=A8 "tuple" (.seq l.toArray 0)
noncomputable def MJ(x:String)(t a:Nat)(u v:af):Obj:=A8 "getset_descriptor" (.fields [fb x t,.ref a,u,v].toArray)
noncomputable def pG(t a:Nat):Obj:=MJ "__dict__" t a (.builtin "function.__dict__") (.builtin "function.__dict__#set")
noncomputable def oJ(t a:Nat):Obj:=MJ "__weakref__" t a (.builtin "ExceptionGroup.__weakref__") .none
noncomputable def lh(n:Nat)(x:String)(b m s:List af)(d:Option af)(t:Tok)(w:String):Obj:=⟨.type "type",none,.cls {name:=sl x,bases:=b,mro:=.ref (n+1)::m,ns:=n,qualname:=sl x,hasDict:=true,slotNames:=[],subclasses:=s,abstract:=false,collection:=none,hasDel:=false},[d,none,some (fb x t),some (fb x (t+8)),some (.builtin w),some (.bool true)].toArray⟩
noncomputable def MI(x q:String)(t l k u:Nat)(a b c d e f:af):Obj:=A8 "code" (.fields [fb x t,fb q (t+1),fb "/claim/cut.py" (t+2),.int l 0,.int k 0,.int 0 0,.int 0 0,.int 3 0,a,.bool true,.int 181 0,b,c,d,e,f,.int u 0,.int l 0,fb "/claim/cut.py" (u+1)].toArray)
noncomputable def MH(a:Nat)(x q:String)(t l k u:Nat):Obj:=MI x q t l k u (.ref a) (.ref (a+1)) .none (.ref (a+2)) (.ref (a+3)) (.ref (a+4))
noncomputable def EW(a:Nat)(x q:String)(t l k u:Nat):Obj:=MI x q t l k u (.ref a) (.ref (a+1)) .none .none .none (.ref (a+2))
noncomputable def xY(st:cy)(q:String)(v:af)(c:Nat)(m:String×Nat):Obj:=D5 st (sl q) v c (sl m.1) m.2
noncomputable def cj(n:Nat)(o:Obj)(r:Frag):Frag:=(n,o)::r
noncomputable def bh(a:Nat)(x q:String)(t l k u:Nat)(st:cy)(v:af)(m:String×Nat)(r:Frag):Frag:=(a+5,MH a x q t l k u)::(a+6,xY st q v (a+5) m)::r
noncomputable def xX(a:Nat)(x q:String)(t l k u:Nat)(st:cy)(v:af)(m:String×Nat)(r:Frag):Frag:=(a+3,EW a x q t l k u)::(a+4,xY st q v (a+3) m)::r
noncomputable def abf:String×Nat:=("__main__",164)
noncomputable def abg:String×Nat:=("threepress.errors",194)
noncomputable def eR:String×Nat:=("threepress.lzmastate",256)
noncomputable def ik:String×Nat:=("threepress.rangecoder",659)
noncomputable def dS:String×Nat:=("threepress.lzmaencode",10148)
noncomputable def ja:String×Nat:=("law_tg0046_01",10583)
noncomputable def o0(P:cE):Obj:=jz [aH P "__name__" 1 (fb "builtins" 160),aH P "__doc__" 2 (.builtin "builtins.__doc__:str#opaque"),aH P "__package__" 3 (.builtin "builtins.__package__:str#opaque"),aH P "__loader__" 4 (.builtin "builtins.__loader__:shared#opaque"),aH P "__spec__" 5 (.builtin "builtins.__spec__#opaque"),dh P "__build_class__" 6,dh P "__import__" 7,dh P "abs" 8,dh P "all" 9,dh P "any" 10,dh P "ascii" 11,dh P "bin" 12,dh P "breakpoint" 13,dh P "callable" 14,dh P "chr" 15,dh P "compile" 16,dh P "delattr" 17,dh P "dir" 18,dh P "divmod" 19,dh P "eval" 20,dh P "exec" 21,dh P "format" 22,dh P "getattr" 23,dh P "globals" 24,dh P "hasattr" 25,dh P "hash" 26,dh P "hex" 27,dh P "id" 28,dh P "input" 29,dh P "isinstance" 30,dh P "issubclass" 31,dh P "iter" 32,dh P "aiter" 33,dh P "len" 34,dh P "locals" 35,dh P "max" 36,dh P "min" 37,dh P "next" 38,dh P "anext" 39,dh P "oct" 40,dh P "ord" 41,dh P "pow" 42,dh P "print" 43,dh P "repr" 44,dh P "round" 45,dh P "setattr" 46,dh P "sorted" 47,dh P "sum" 48,dh P "vars" 49,aH P "None" 50 .none,aH P "Ellipsis" 51 .ellipsis,aH P "NotImplemented" 52 .notImplemented,aH P "False" 53 (.bool false),aH P "True" 54 (.bool true),aH P "bool" 55 (.type "bool"),aH P "memoryview" 56 (.type "memoryview"),aH P "bytearray" 57 (.type "bytearray"),aH P "bytes" 58 (.type "bytes"),aH P "classmethod" 59 (.type "classmethod"),aH P "complex" 60 (.type "complex"),aH P "dict" 61 (.type "dict"),aH P "enumerate" 62 (.type "enumerate"),aH P "filter" 63 (.type "filter"),aH P "float" 64 (.type "float"),aH P "frozenset" 65 (.type "frozenset"),aH P "property" 66 (.type "property"),aH P "int" 67 (.type "int"),aH P "list" 68 (.type "list"),aH P "map" 69 (.type "map"),aH P "object" 70 (.type "object"),aH P "range" 71 (.type "range"),aH P "reversed" 72 (.type "reversed"),aH P "set" 73 (.type "set"),aH P "slice" 74 (.type "slice"),aH P "staticmethod" 75 (.type "staticmethod"),aH P "str" 76 (.type "str"),aH P "super" 77 (.type "super"),aH P "tuple" 78 (.type "tuple"),aH P "type" 79 (.type "type"),aH P "zip" 80 (.type "zip"),aH P "__debug__" 81 (.bool true),aH P "BaseException" 82 (.type "BaseException"),aH P "BaseExceptionGroup" 83 (.type "BaseExceptionGroup"),aH P "Exception" 84 (.type "Exception"),aH P "GeneratorExit" 85 (.type "GeneratorExit"),aH P "KeyboardInterrupt" 86 (.type "KeyboardInterrupt"),aH P "SystemExit" 87 (.type "SystemExit"),aH P "ArithmeticError" 88 (.type "ArithmeticError"),aH P "AssertionError" 89 (.type "AssertionError"),aH P "AttributeError" 90 (.type "AttributeError"),aH P "BufferError" 91 (.type "BufferError"),aH P "EOFError" 92 (.type "EOFError"),aH P "ImportError" 93 (.type "ImportError"),aH P "LookupError" 94 (.type "LookupError"),aH P "MemoryError" 95 (.type "MemoryError"),aH P "NameError" 96 (.type "NameError"),aH P "OSError" 97 (.type "OSError"),aH P "ReferenceError" 98 (.type "ReferenceError"),aH P "RuntimeError" 99 (.type "RuntimeError"),aH P "StopAsyncIteration" 100 (.type "StopAsyncIteration"),aH P "StopIteration" 101 (.type "StopIteration"),aH P "SyntaxError" 102 (.type "SyntaxError"),aH P "SystemError" 103 (.type "SystemError"),aH P "TypeError" 104 (.type "TypeError"),aH P "ValueError" 105 (.type "ValueError"),aH P "Warning" 106 (.type "Warning"),aH P "FloatingPointError" 107 (.type "FloatingPointError"),aH P "OverflowError" 108 (.type "OverflowError"),aH P "ZeroDivisionError" 109 (.type "ZeroDivisionError"),aH P "BytesWarning" 110 (.type "BytesWarning"),aH P "DeprecationWarning" 111 (.type "DeprecationWarning"),aH P "EncodingWarning" 112 (.type "EncodingWarning"),aH P "FutureWarning" 113 (.type "FutureWarning"),aH P "ImportWarning" 114 (.type "ImportWarning"),aH P "PendingDeprecationWarning" 115 (.type "PendingDeprecationWarning"),aH P "ResourceWarning" 116 (.type "ResourceWarning"),aH P "RuntimeWarning" 117 (.type "RuntimeWarning"),aH P "SyntaxWarning" 118 (.type "SyntaxWarning"),aH P "UnicodeWarning" 119 (.type "UnicodeWarning"),aH P "UserWarning" 120 (.type "UserWarning"),aH P "BlockingIOError" 121 (.type "BlockingIOError"),aH P "ChildProcessError" 122 (.type "ChildProcessError"),aH P "ConnectionError" 123 (.type "ConnectionError"),aH P "FileExistsError" 124 (.type "FileExistsError"),aH P "FileNotFoundError" 125 (.type "FileNotFoundError"),aH P "InterruptedError" 126 (.type "InterruptedError"),aH P "IsADirectoryError" 127 (.type "IsADirectoryError"),aH P "NotADirectoryError" 128 (.type "NotADirectoryError"),aH P "PermissionError" 129 (.type "PermissionError"),aH P "ProcessLookupError" 130 (.type "ProcessLookupError"),aH P "TimeoutError" 131 (.type "TimeoutError"),aH P "IndentationError" 132 (.type "IndentationError"),aH P "_IncompleteInputError" 133 (.type "_IncompleteInputError"),aH P "IndexError" 134 (.type "IndexError"),aH P "KeyError" 135 (.type "KeyError"),aH P "ModuleNotFoundError" 136 (.type "ModuleNotFoundError"),aH P "NotImplementedError" 137 (.type "NotImplementedError"),aH P "PythonFinalizationError" 138 (.type "PythonFinalizationError"),aH P "RecursionError" 139 (.type "RecursionError"),aH P "UnboundLocalError" 140 (.type "UnboundLocalError"),aH P "UnicodeError" 141 (.type "UnicodeError"),aH P "BrokenPipeError" 142 (.type "BrokenPipeError"),aH P "ConnectionAbortedError" 143 (.type "ConnectionAbortedError"),aH P "ConnectionRefusedError" 144 (.type "ConnectionRefusedError"),aH P "ConnectionResetError" 145 (.type "ConnectionResetError"),aH P "TabError" 146 (.type "TabError"),aH P "UnicodeDecodeError" 147 (.type "UnicodeDecodeError"),aH P "UnicodeEncodeError" 148 (.type "UnicodeEncodeError"),aH P "UnicodeTranslateError" 149 (.type "UnicodeTranslateError"),aH P "ExceptionGroup" 150 (.type "ExceptionGroup"),aH P "EnvironmentError" 151 (.type "OSError"),aH P "IOError" 152 (.type "OSError"),dh P "open" 153,aH P "quit" 154 (.builtin "builtins.quit#opaque"),aH P "exit" 155 (.builtin "builtins.exit#opaque"),aH P "copyright" 156 (.builtin "builtins.copyright#opaque"),aH P "credits" 157 (.builtin "builtins.credits#opaque"),aH P "license" 158 (.builtin "builtins.license#opaque"),aH P "help" 159 (.builtin "builtins.help#opaque")] 159
noncomputable def o2:Obj:=⟨.none,none,(.dict [].toArray 0),[].toArray⟩
noncomputable def o3(P:cE):Obj:=jz [aH P "__name__" 165 (fb "law_tg0046_01" 10583),aH P "__doc__" 166 .none,aH P "__package__" 167 .none,aH P "__loader__" 168 (.builtin "__main__.__loader__#opaque"),aH P "__spec__" 169 .none,aE P "__annotations__" 170 6,aE P "__builtins__" 171 4,aH P "__file__" 173 (fb "/claim/cut.py" 172),aH P "__cached__" 174 .none,aE P "_wall" 193 21,aE P "PressError" 223 39,aE P "BadDistance" 239 52,aE P "BadArgument" 255 64,er P "STATES" 258 12,er P "LITERAL_STATES" 260 7,er P "MOST_POSITIONS" 262 16,er P "START" 264 1024,er P "LEAST_MATCH" 266 2,er P "MOST_MATCH" 268 273,er P "LENGTH_STATES" 270 4,er P "LITERAL_ROW" 272 768,er P "FIRST_DIRECT" 274 14,er P "ALIGN_BITS" 276 4,er P "SHORT_ROW" 278 64,aE P "Cells" 333 104,aE P "fresh" 340 115,aE P "Props" 400 154,aE P "after_literal" 407 165,aE P "after_match" 414 172,aE P "after_rep" 421 179,aE P "after_short" 428 186,aE P "is_after_literal" 435 193,aE P "length_state" 442 200,aE P "slot_base" 450 207,aE P "slot_of" 462 214,aE P "LengthModels" 502 238,aE P "Models" 587 294,aE P "Reps" 658 352,er P "MODEL_BITS" 661 11,er P "TOTAL" 664 2048,er P "LEARN" 666 5,er P "LEAST_SPAN" 670 16777216,er P "MOST_SPAN" 676 4294967295,er P "CARRY" 680 4294967296,er P "MAY_CARRY" 684 4278190080,er P "FLUSHED" 686 5,er P "PRICE_STEPS" 688 4,er P "BIT_PRICE" 691 16,er P "CELL_BITS" 693 4,aE P "next_model" 702 363,aE P "need_bit" 709 370,aE P "need_value" 717 377,aE P "turned" 727 384,aE P "RangeWriter" 847 464,aE P "price_of" 857 475,aE P "price_rows" 863 480,aE P "PriceRows" 10107 3698,aE P "bit_price" 10116 3709,aE P "direct_price" 10123 3716,aE P "tree_price" 10137 3723,aE P "reverse_price" 10147 3730,aE P "KINDS" 10154 3731,aE P "need_whole" 10162 3738,aE P "need_number" 10172 3745,aE P "step_length" 10179 3752,aE P "repeats" 10190 3759,aE P "octet_behind" 10199 3766,aE P "StepCoder" 10336 3846,aE P "StepMeter" 10405 3895,aE P "LzmaWriter" 10568 4021,aE P "steps_price" 10582 4030,aE P "_law_jar" 10594 4037,aE P "_law_pick" 10603 4044,aE P "_law_steps" 10625 4051,aE P "_law_scene" 10631 4056,aE P "_law_path" 10637 4061,aE P "_law_letter" 10643 4066,aE P "_law_many" 10652 4073,aE P "_law_far" 10658 4078,aE P "_law_again" 10668 4085,aE P "_law_bits" 10690 4092,aE P "_law_due" 10696 4097,aE P "_law_rows" 10705 4104,aE P "_law_told" 10717 4111,aE P "_law_octets" 10725 4118,aE P "_law_spent" 10737 4125,aE P "_law_run" 10756 4132,aE P "law" 10762 4137] 88
noncomputable def NH:Obj:=xZ [(.int 1 600),(.int 1 601),(.int 1 602),(.int 1 603)]
noncomputable def NJ:Obj:=MH 469 "price_of" "price_of" 848 275 1 855
noncomputable def NK:Obj:=xY (aY 48) "price_of" .none 474 ik
noncomputable def NL:Obj:=EW 476 "price_rows" "price_rows" 858 285 0 861
noncomputable def NN:Obj:=xY (aY 49) "price_rows" .none 479 ik
noncomputable def aep:Obj:=tL 883 128
noncomputable def aeo:Obj:=EW 4133 "law" "law" 10757 689 1 10760
noncomputable def NI:Obj:=xY (aY 83) "law" .none 4136 ja
noncomputable def EV:List Nat:=[0,2,3,6,20,21,29,35,36,38,39,40,51,52,63,64,79,80,86,87,93,94,100,101,103,104,105,106,114,115,123,129,130,136,137,143,144,150,151,153,154,155,156,164,165,171,172,178,179,185,186,192,193,199,200,206,207,213,214,227,228,234,235,237,238,239,240,255,256,262,263,269,270,276,277,283,284,290,291,293,294,295,296,306,307,313,314,320,321,327,328,334,335,341,342,348,349,351,352,353,354,362,363,369,370,376,377,383,384,397,398,404,405,411,412,418,419,425,426,432,433,439,440,446,447,453,454,460,461,463,464,465,466,474,475,479,480,492,3697,3698,3699,3700,3708,3709,3715,3716,3722,3723,3729,3730,3731,3737,3738,3744,3745,3751,3752,3758,3759,3765,3766,3779,3780,3786,3787,3793,3794,3800,3801,3807,3808,3814,3815,3821,3822,3828,3829,3835,3836,3842,3843,3845,3846,3847,3848,3863,3864,3870,3871,3877,3878,3884,3885,3891,3892,3894,3895,3896,3897,3912,3913,3919,3920,3926,3927,3933,3934,3940,3941,3947,3948,3954,3955,3961,3962,3968,3969,3975,3976,3982,3983,3989,3990,3996,3997,4003,4004,4010,4011,4017,4018,4020,4021,4029,4030,4036,4037,4043,4044,4050,4051,4055,4056,4060,4061,4065,4066,4072,4073,4077,4078,4084,4085,4091,4092,4096,4097,4103,4104,4110,4111,4117,4118,4124,4125,4131,4132,4136,4137]
noncomputable def K(P:cE):Frag:=
 cj 0 (o0 P)<|
 cj 2 o2<|
 cj 3 (o3 P)<|
 cj 6 (jz [] 0)<|
 bh 15 "_wall" "_wall" 187 1 1 191 (aY 0) .none abf<|
 cj 29 (xZ [(fb "" 208)])<|
 bh 30 "__init__" "PressError.__init__" 209 7 2 214 (aQ 2 0) (.ref 29) abg<|
 cj 38 (jz [aH P "__module__" 203 (fb "threepress.errors" 194),er P "__firstlineno__" 206 5,aE P "__init__" 216 36,aE P "__static_attributes__" 218 37,aE P "__weakref__" 220 40,aH P "__doc__" 221 .none] 3)<|
 cj 39 (lh 38 "PressError" [(.type "ValueError")] [(.type "ValueError"),(.type "Exception"),(.type "BaseException"),(.type "object")] [(.ref 52),(.ref 64)] (some (.ref 22)) 196 "ValueError.__new__")<|
 cj 40 (oJ 219 39)<|
 cj 51 (jz [aH P "__module__" 231 (fb "threepress.errors" 194),er P "__firstlineno__" 234 10,aE P "__static_attributes__" 236 50,aH P "__doc__" 237 .none] 2)<|
 cj 52 (lh 51 "BadDistance" [(.ref 39)] [(.ref 39),(.type "ValueError"),(.type "Exception"),(.type "BaseException"),(.type "object")] [] (some (.ref 43)) 224 "ValueError.__new__")<|
 cj 63 (jz [aH P "__module__" 247 (fb "threepress.errors" 194),er P "__firstlineno__" 250 12,aE P "__static_attributes__" 252 62,aH P "__doc__" 253 .none] 2)<|
 cj 64 (lh 63 "BadArgument" [(.ref 39)] [(.ref 39),(.type "ValueError"),(.type "Exception"),(.type "BaseException"),(.type "object")] [] (some (.ref 55)) 240 "ValueError.__new__")<|
 bh 74 "__init__" "Cells.__init__" 292 28 2 297 (aQ 17 0) .none eR<|
 bh 81 "__len__" "Cells.__len__" 300 32 1 304 (aQ 17 1) .none eR<|
 bh 88 "__getitem__" "Cells.__getitem__" 307 35 2 312 (aQ 17 2) .none eR<|
 bh 95 "__setitem__" "Cells.__setitem__" 315 40 3 321 (aQ 17 3) .none eR<|
 cj 103 (jz [aH P "__module__" 287 (fb "threepress.lzmastate" 256),er P "__firstlineno__" 290 26,aE P "__init__" 299 80,aE P "__len__" 306 87,aE P "__getitem__" 314 94,aE P "__setitem__" 323 101,aE P "__static_attributes__" 326 102,aE P "__dict__" 328 105,aE P "__weakref__" 330 106,aH P "__doc__" 331 .none] 4)<|
 cj 104 (lh 103 "Cells" [(.type "object")] [(.type "object")] [] none 280 "object.__new__")<|
 cj 105 (pG 327 104)<|
 cj 106 (oJ 329 104)<|
 bh 109 "fresh" "fresh" 334 44 1 338 (aY 18) .none eR<|
 cj 123 (xZ [(.int 3 353),(.int 0 354),(.int 2 355)])<|
 bh 124 "__init__" "Props.__init__" 356 48 4 365 (aQ 19 0) (.ref 123) eR<|
 bh 131 "octet" "Props.octet" 368 56 1 372 (aQ 19 1) .none eR<|
 bh 138 "literals" "Props.literals" 375 59 1 379 (aQ 19 2) .none eR<|
 bh 145 "position" "Props.position" 382 62 2 387 (aQ 19 3) .none eR<|
 cj 153 (jz [aH P "__module__" 348 (fb "threepress.lzmastate" 256),er P "__firstlineno__" 351 46,aE P "__init__" 367 130,aE P "octet" 374 137,aE P "literals" 381 144,aE P "position" 389 151,aE P "__static_attributes__" 393 152,aE P "__dict__" 395 155,aE P "__weakref__" 397 156,aH P "__doc__" 398 .none] 4)<|
 cj 154 (lh 153 "Props" [(.type "object")] [(.type "object")] [] none 341 "object.__new__")<|
 cj 155 (pG 394 154)<|
 cj 156 (oJ 396 154)<|
 bh 159 "after_literal" "after_literal" 401 64 1 405 (aY 20) .none eR<|
 bh 166 "after_match" "after_match" 408 68 1 412 (aY 21) .none eR<|
 bh 173 "after_rep" "after_rep" 415 70 1 419 (aY 22) .none eR<|
 bh 180 "after_short" "after_short" 422 72 1 426 (aY 23) .none eR<|
 bh 187 "is_after_literal" "is_after_literal" 429 74 1 433 (aY 24) .none eR<|
 bh 194 "length_state" "length_state" 436 76 1 440 (aY 25) .none eR<|
 bh 201 "slot_base" "slot_base" 443 78 1 448 (aY 26) .none eR<|
 bh 208 "slot_of" "slot_of" 451 83 1 460 (aY 27) .none eR<|
 bh 222 "__init__" "LengthModels.__init__" 475 93 2 480 (aQ 28 0) .none eR<|
 bh 229 "reset" "LengthModels.reset" 483 101 1 487 (aQ 28 1) .none eR<|
 cj 237 (jz [aH P "__module__" 470 (fb "threepress.lzmastate" 256),er P "__firstlineno__" 473 91,aE P "__init__" 482 228,aE P "reset" 489 235,aE P "__static_attributes__" 495 236,aE P "__dict__" 497 239,aE P "__weakref__" 499 240,aH P "__doc__" 500 .none] 4)<|
 cj 238 (lh 237 "LengthModels" [(.type "object")] [(.type "object")] [] none 463 "object.__new__")<|
 cj 239 (pG 496 238)<|
 cj 240 (oJ 498 238)<|
 bh 250 "__init__" "Models.__init__" 515 108 2 520 (aQ 29 0) .none eR<|
 bh 257 "reset" "Models.reset" 523 124 1 527 (aQ 29 1) .none eR<|
 bh 264 "cell" "Models.cell" 530 138 3 536 (aQ 29 2) .none eR<|
 bh 271 "slot_start" "Models.slot_start" 539 141 2 544 (aQ 29 3) .none eR<|
 bh 278 "special_start" "Models.special_start" 547 144 2 554 (aQ 29 4) .none eR<|
 bh 285 "literal_start" "Models.literal_start" 557 148 3 564 (aQ 29 5) .none eR<|
 cj 293 (jz [aH P "__module__" 510 (fb "threepress.lzmastate" 256),er P "__firstlineno__" 513 106,aE P "__init__" 522 256,aE P "reset" 529 263,aE P "cell" 538 270,aE P "slot_start" 546 277,aE P "special_start" 556 284,aE P "literal_start" 566 291,aE P "__static_attributes__" 580 292,aE P "__dict__" 582 295,aE P "__weakref__" 584 296,aH P "__doc__" 585 .none] 4)<|
 cj 294 (lh 293 "Models" [(.type "object")] [(.type "object")] [] none 503 "object.__new__")<|
 cj 295 (pG 581 294)<|
 cj 296 (oJ 583 294)<|
 cj 306 NH<|
 cj 307 (xZ [(.ref 306)])<|
 bh 308 "__init__" "Reps.__init__" 604 153 2 609 (aQ 30 0) (.ref 307) eR<|
 bh 315 "reset" "Reps.reset" 612 156 1 616 (aQ 30 1) .none eR<|
 bh 322 "first" "Reps.first" 619 159 1 623 (aQ 30 2) .none eR<|
 bh 329 "use" "Reps.use" 626 162 2 632 (aQ 30 3) .none eR<|
 bh 336 "put" "Reps.put" 635 167 2 640 (aQ 30 4) .none eR<|
 bh 343 "copy" "Reps.copy" 643 170 1 647 (aQ 30 5) .none eR<|
 cj 351 (jz [aH P "__module__" 595 (fb "threepress.lzmastate" 256),er P "__firstlineno__" 598 151,aE P "__init__" 611 314,aE P "reset" 618 321,aE P "first" 625 328,aE P "use" 634 335,aE P "put" 642 342,aE P "copy" 649 349,aE P "__static_attributes__" 651 350,aE P "__dict__" 653 353,aE P "__weakref__" 655 354,aH P "__doc__" 656 .none] 4)<|
 cj 352 (lh 351 "Reps" [(.type "object")] [(.type "object")] [] none 588 "object.__new__")<|
 cj 353 (pG 652 352)<|
 cj 354 (oJ 654 352)<|
 bh 357 "next_model" "next_model" 695 184 2 700 (aY 43) .none ik<|
 bh 364 "need_bit" "need_bit" 703 188 1 707 (aY 44) .none ik<|
 bh 371 "need_value" "need_value" 710 191 2 715 (aY 45) .none ik<|
 bh 378 "turned" "turned" 718 194 2 725 (aY 46) .none ik<|
 bh 392 "__init__" "RangeWriter.__init__" 740 201 1 744 (aQ 47 0) .none ik<|
 bh 399 "shift" "RangeWriter.shift" 747 209 1 752 (aQ 47 1) .none ik<|
 bh 406 "fill" "RangeWriter.fill" 755 219 1 759 (aQ 47 2) .none ik<|
 bh 413 "need_open" "RangeWriter.need_open" 762 224 1 766 (aQ 47 3) .none ik<|
 bh 420 "bit" "RangeWriter.bit" 769 228 4 778 (aQ 47 4) .none ik<|
 bh 427 "direct" "RangeWriter.direct" 781 241 3 788 (aQ 47 5) .none ik<|
 bh 434 "tree" "RangeWriter.tree" 791 250 5 802 (aQ 47 6) .none ik<|
 bh 441 "reverse" "RangeWriter.reverse" 805 258 5 816 (aQ 47 7) .none ik<|
 bh 448 "size" "RangeWriter.size" 819 266 1 823 (aQ 47 8) .none ik<|
 bh 455 "done" "RangeWriter.done" 826 269 1 831 (aQ 47 9) .none ik<|
 cj 463 (jz [aH P "__module__" 735 (fb "threepress.rangecoder" 659),er P "__firstlineno__" 738 199,aE P "__init__" 746 398,aE P "shift" 754 405,aE P "fill" 761 412,aE P "need_open" 768 419,aE P "bit" 780 426,aE P "direct" 790 433,aE P "tree" 804 440,aE P "reverse" 818 447,aE P "size" 825 454,aE P "done" 833 461,aE P "__static_attributes__" 840 462,aE P "__dict__" 842 465,aE P "__weakref__" 844 466,aH P "__doc__" 845 .none] 4)<|
 cj 464 (lh 463 "RangeWriter" [(.type "object")] [(.type "object")] [] none 728 "object.__new__")<|
 cj 465 (pG 841 464)<|
 cj 466 (oJ 843 464)<|
 cj 474 NJ<|
 cj 475 NK<|
 cj 479 NL<|
 cj 480 NN<|
 cj 492 aep<|
 cj 3697 (jz [aH P "__module__" 871 (fb "threepress.rangecoder" 659),er P "__firstlineno__" 874 288,aE P "rows" 10099 492,aE P "__static_attributes__" 10100 3696,aE P "__dict__" 10102 3699,aE P "__weakref__" 10104 3700,aH P "__doc__" 10105 .none] 4)<|
 cj 3698 (lh 3697 "PriceRows" [(.type "object")] [(.type "object")] [] none 864 "object.__new__")<|
 cj 3699 (pG 10101 3698)<|
 cj 3700 (oJ 10103 3698)<|
 bh 3703 "bit_price" "bit_price" 10108 290 2 10114 (aY 51) .none ik<|
 bh 3710 "direct_price" "direct_price" 10117 293 1 10121 (aY 52) .none ik<|
 bh 3717 "tree_price" "tree_price" 10124 295 4 10135 (aY 53) .none ik<|
 bh 3724 "reverse_price" "reverse_price" 10138 303 4 10145 (aY 54) .none ik<|
 cj 3731 (xZ [(fb "lit" 10150),(fb "match" 10151),(fb "rep" 10152),(fb "short" 10153)])<|
 bh 3732 "need_whole" "need_whole" 10155 308 2 10160 (aY 57) .none dS<|
 bh 3739 "need_number" "need_number" 10163 311 4 10170 (aY 58) .none dS<|
 bh 3746 "step_length" "step_length" 10173 315 1 10177 (aY 59) .none dS<|
 bh 3753 "repeats" "repeats" 10180 327 4 10188 (aY 60) .none dS<|
 bh 3760 "octet_behind" "octet_behind" 10191 334 3 10197 (aY 61) .none dS<|
 bh 3774 "__init__" "StepCoder.__init__" 10212 340 3 10218 (aQ 62 0) .none dS<|
 bh 3781 "put_literal" "StepCoder.put_literal" 10221 344 6 10231 (aQ 62 1) .none dS<|
 bh 3788 "put_plain" "StepCoder.put_plain" 10234 352 5 10244 (aQ 62 2) .none dS<|
 bh 3795 "put_beside" "StepCoder.put_beside" 10247 358 4 10258 (aQ 62 3) .none dS<|
 bh 3802 "put_length" "StepCoder.put_length" 10261 369 4 10270 (aQ 62 4) .none dS<|
 bh 3809 "put_distance" "StepCoder.put_distance" 10273 384 3 10283 (aQ 62 5) .none dS<|
 bh 3816 "put_match" "StepCoder.put_match" 10286 396 5 10294 (aQ 62 6) .none dS<|
 bh 3823 "put_index" "StepCoder.put_index" 10297 402 4 10304 (aQ 62 7) .none dS<|
 bh 3830 "put_rep" "StepCoder.put_rep" 10307 414 5 10315 (aQ 62 8) .none dS<|
 bh 3837 "put_short" "StepCoder.put_short" 10318 421 3 10324 (aQ 62 9) .none dS<|
 cj 3845 (jz [aH P "__module__" 10207 (fb "threepress.lzmaencode" 10148),er P "__firstlineno__" 10210 338,aE P "__init__" 10220 3780,aE P "put_literal" 10233 3787,aE P "put_plain" 10246 3794,aE P "put_beside" 10260 3801,aE P "put_length" 10272 3808,aE P "put_distance" 10285 3815,aE P "put_match" 10296 3822,aE P "put_index" 10306 3829,aE P "put_rep" 10317 3836,aE P "put_short" 10326 3843,aE P "__static_attributes__" 10329 3844,aE P "__dict__" 10331 3847,aE P "__weakref__" 10333 3848,aH P "__doc__" 10334 .none] 4)<|
 cj 3846 (lh 3845 "StepCoder" [(.type "object")] [(.type "object")] [(.ref 4021)] none 10200 "object.__new__")<|
 cj 3847 (pG 10330 3846)<|
 cj 3848 (oJ 10332 3846)<|
 bh 3858 "__init__" "StepMeter.__init__" 10349 428 1 10353 (aQ 63 0) .none dS<|
 bh 3865 "bit" "StepMeter.bit" 10356 431 4 10363 (aQ 63 1) .none dS<|
 bh 3872 "direct" "StepMeter.direct" 10366 434 3 10372 (aQ 63 2) .none dS<|
 bh 3879 "tree" "StepMeter.tree" 10375 437 5 10383 (aQ 63 3) .none dS<|
 bh 3886 "reverse" "StepMeter.reverse" 10386 440 5 10394 (aQ 63 4) .none dS<|
 cj 3894 (jz [aH P "__module__" 10344 (fb "threepress.lzmaencode" 10148),er P "__firstlineno__" 10347 426,aE P "__init__" 10355 3864,aE P "bit" 10365 3871,aE P "direct" 10374 3878,aE P "tree" 10385 3885,aE P "reverse" 10396 3892,aE P "__static_attributes__" 10398 3893,aE P "__dict__" 10400 3896,aE P "__weakref__" 10402 3897,aH P "__doc__" 10403 .none] 4)<|
 cj 3895 (lh 3894 "StepMeter" [(.type "object")] [(.type "object")] [] none 10337 "object.__new__")<|
 cj 3896 (pG 10399 3895)<|
 cj 3897 (oJ 10401 3895)<|
 bh 3907 "__init__" "LzmaWriter.__init__" 10418 444 3 10424 (aQ 64 0) .none dS<|
 bh 3914 "reset_state" "LzmaWriter.reset_state" 10427 450 1 10431 (aQ 64 1) .none dS<|
 bh 3921 "reset_place" "LzmaWriter.reset_place" 10434 453 1 10438 (aQ 64 2) .none dS<|
 bh 3928 "passed" "LzmaWriter.passed" 10441 456 2 10446 (aQ 64 3) .none dS<|
 bh 3935 "check_back" "LzmaWriter.check_back" 10449 460 2 10454 (aQ 64 4) .none dS<|
 bh 3942 "check_length" "LzmaWriter.check_length" 10457 465 2 10462 (aQ 64 5) .none dS<|
 bh 3949 "literal" "LzmaWriter.literal" 10465 468 4 10473 (aQ 64 6) .none dS<|
 bh 3956 "match" "LzmaWriter.match" 10476 475 3 10482 (aQ 64 7) .none dS<|
 bh 3963 "rep" "LzmaWriter.rep" 10485 483 3 10491 (aQ 64 8) .none dS<|
 bh 3970 "short" "LzmaWriter.short" 10494 492 1 10498 (aQ 64 9) .none dS<|
 bh 3977 "end_mark" "LzmaWriter.end_mark" 10501 498 1 10505 (aQ 64 10) .none dS<|
 bh 3984 "matched_octet" "LzmaWriter.matched_octet" 10508 501 3 10514 (aQ 64 11) .none dS<|
 bh 3991 "distance_of" "LzmaWriter.distance_of" 10517 504 2 10522 (aQ 64 12) .none dS<|
 bh 3998 "write_step" "LzmaWriter.write_step" 10525 512 4 10535 (aQ 64 13) .none dS<|
 bh 4005 "write_steps" "LzmaWriter.write_steps" 10538 532 4 10547 (aQ 64 14) .none dS<|
 bh 4012 "write_within" "LzmaWriter.write_within" 10550 538 6 10559 (aQ 64 15) .none dS<|
 cj 4020 (jz [aH P "__module__" 10413 (fb "threepress.lzmaencode" 10148),er P "__firstlineno__" 10416 442,aE P "__init__" 10426 3913,aE P "reset_state" 10433 3920,aE P "reset_place" 10440 3927,aE P "passed" 10448 3934,aE P "check_back" 10456 3941,aE P "check_length" 10464 3948,aE P "literal" 10475 3955,aE P "match" 10484 3962,aE P "rep" 10493 3969,aE P "short" 10500 3976,aE P "end_mark" 10507 3983,aE P "matched_octet" 10516 3990,aE P "distance_of" 10524 3997,aE P "write_step" 10537 4004,aE P "write_steps" 10549 4011,aE P "write_within" 10561 4018,aE P "__static_attributes__" 10565 4019,aH P "__doc__" 10566 .none] 2)<|
 cj 4021 (lh 4020 "LzmaWriter" [(.ref 3846)] [(.ref 3846),(.type "object")] [] (some (.ref 3900)) 10406 "object.__new__")<|
 bh 4024 "steps_price" "steps_price" 10569 540 7 10580 (aY 65) .none dS<|
 bh 4031 "_law_jar" "_law_jar" 10585 548 1 10592 (aY 67) .none ja<|
 bh 4038 "_law_pick" "_law_pick" 10595 556 2 10601 (aY 68) .none ja<|
 bh 4045 "_law_steps" "_law_steps" 10604 563 5 10623 (aY 69) .none ja<|
 xX 4052 "_law_scene" "_law_scene" 10626 587 2 10629 (aY 70) .none ja<|
 xX 4057 "_law_path" "_law_path" 10632 595 4 10635 (aY 71) .none ja<|
 xX 4062 "_law_letter" "_law_letter" 10638 598 3 10641 (aY 72) .none ja<|
 bh 4067 "_law_many" "_law_many" 10644 605 3 10650 (aY 73) .none ja<|
 xX 4074 "_law_far" "_law_far" 10653 611 2 10656 (aY 74) .none ja<|
 bh 4079 "_law_again" "_law_again" 10659 618 3 10666 (aY 75) .none ja<|
 bh 4086 "_law_bits" "_law_bits" 10669 623 3 10688 (aY 76) .none ja<|
 xX 4093 "_law_due" "_law_due" 10691 645 1 10694 (aY 77) .none ja<|
 bh 4098 "_law_rows" "_law_rows" 10697 651 1 10703 (aY 78) .none ja<|
 bh 4105 "_law_told" "_law_told" 10706 657 1 10715 (aY 79) .none ja<|
 bh 4112 "_law_octets" "_law_octets" 10718 670 2 10723 (aY 80) .none ja<|
 bh 4119 "_law_spent" "_law_spent" 10726 672 4 10735 (aY 81) .none ja<|
 bh 4126 "_law_run" "_law_run" 10738 675 3 10754 (aY 82) .none ja<|
 cj 4136 aeo<|
 cj 4137 NI<|[]
noncomputable def SB:Ctx:=Ctx.of (.builtin "claim.caller" {}) []
noncomputable def ni(h:cR):PT:=(h.objs.toList.zipIdx).foldl (λt x=>t.put 16 x.2 x.1) .nil
noncomputable def Mz(v:af):Bool:=dP v.ctorIdx 6
noncomputable def Xa(d:Data):Option (List bY):=if q:d.ctorIdx=3 then HY (motive:=λY=>Option (List bY)) d q λes Y=>cond (es.toList.all λe=>Mz e.key) (some es.toList) none else none
noncomputable def BY(T:PT)(a:Nat):Option (List bY):=(T.get a).bind λo=>Xa o.data
noncomputable def ia(es:List bY)(x:Str):Option af:=(es.find? λe=>e.key.isStr x).map (·.val)
noncomputable def vInt(v:af)(k:Int->Bool):Bool:=if q:v.ctorIdx=4 then HZ (motive:=λY=>Bool) v q λi Y=>k i else false
theorem Qc{M:af->Prop}{k}(h:vInt v k=true)(f:∀i t,k i=true->M (.int i t)):M v:=
 fg h λq h=>HZ (motive:=λe=>∀q,HZ (motive:=λY=>Bool) e q (λi Y=>k i)=true->M e) v q (λx p Y h=>f x p h) q h
noncomputable def vz(v:Option af)(n:Int):Bool:=oB v λv=>vInt v λm=>decide (m=n)
noncomputable def xT(v:Option af)(u:af):Bool:=decide (v=some u)
noncomputable def afC(T:PT):Bool:=oB (BY T 3) λg=>oB (BY T 0) λb=>oB (BY T 2) λc=>
 vz (ia g (sl "TOTAL")) 2048&&(vz (ia g (sl "PRICE_STEPS")) 4&&(vz (ia g (sl "BIT_PRICE")) 16&&(vz (ia g (sl "MODEL_BITS")) 11&&(vz (ia g (sl "CELL_BITS")) 4&&
 (xT (ia g (sl "price_of")) (.ref 475)&&((ia g (sl "isinstance")).isNone&&((ia g (sl "int")).isNone&&((ia g (sl "range")).isNone&&((ia g (sl "max")).isNone&&
 (xT (ia b (sl "isinstance")) (.builtin "isinstance")&&(xT (ia b (sl "int")) (.type "int")&&(xT (ia b (sl "range")) (.type "range")&&(xT (ia b (sl "max")) (.builtin "max")&&(ia c (sl "sys.recursionlimit")).isNone)))))))))))))
noncomputable def OG(J:Ctx)(T:PT)(m:Nat):Bool:=
 (J.handled).isNone&&(lI (frameCount J.below) 800&&(lI m 50000&&((T.get 474).isSome&&((T.get 475).isSome&&((T.get 479).isSome&&((T.get 480).isSome&&afC T))))))
noncomputable def aa3(c:Code):Bool:=if q:c.ctorIdx=0 then H7 (motive:=λY=>Bool) c q λf a=>decide (f=.ref 480)&&(l0 a.pos&&l0 a.kw) else false
noncomputable def BG:zH:=λJ c T m k=>cond (aa3 c&&OG J T m) (some (.ref (m+4),T.put 16 (m+4) (tL (k+7) 128),m+3208,k+7+72*128)) none
noncomputable def qN:List Nat:=[0,1,4,5,7,8,9,10,474,475,479,480]
noncomputable def Ob(r:Option (gj×PT×Nat×Nat)):Option (gj×Nat×Nat×List (Option Obj)):=match r with
 |some (r,T,m,k)=>some (r,m,k,EV.map T.get)
 |none=>none
noncomputable def topRunG(H:iG)(w:bz):Option (gj×Nat×Nat×List (Option Obj)):=
 Ob (go (denote treeTable) ID H w.params BG qN 100000 SB default (topStub H).cur (ni (lH w.params)) 11 C2)
noncomputable def PR(w:bz):Option (gj×Nat×Nat×List (Option Obj)):=topRunG aL w
noncomputable def GC(w:bz):Option (gj×Nat×Nat×List (Option Obj)):=some (.ok (.ret .none),4138,10763,(K w.params).map λp=>some p.2)
theorem ajr:dP [topRunG].length 1=true:=by k_qdec
theorem aic:∀w:bz,PySem.W.Fast.tw16021049679824563551 aL w=GC w:=by
 intro w
 rfl'
theorem aib(w:bz):PR w=GC w:=(congrFun (congrFun PySem.W.Fast.te16021049679824563551 aL) w).trans (aic w)
def tE(t:Thread)(x:Step):Prop:=∀f s',x=.halt (.done f) s'->through t=true
theorem mw:tE t (.go s u):=λY Y h=>nomatch h
theorem Bu{c:Prop}[Decidable c](H:tE t a)(J:tE t b):tE t (if c then a else b):=by
 by_cases h:c
 ·exact(if_pos h).symm▸H
 ·exact(if_neg h).symm▸J
theorem vP:tE t (.halt (.unsupported x) s):=λY Y h=>nomatch h
theorem vO:tE t (.halt (.stuck x) s):=λY Y h=>nomatch h
theorem ZB{den:Code->Sem Fin}(s:aj)(t:Thread):tE t (step den prog w s t):=by
 obtain⟨J,H,drawn,U,os⟩:=s
 obtain⟨O,code,pos,stack⟩:=t
 cases O with
 |pure a=>cases a with
  |done g=>cases stack with
   |nil=>exactλY Y Y=>rfl
   |cons x r=>cases x<;>exact mw
  |again c=>exact mw
 |raise e=>cases stack with
  |nil=>exact Bu vP λY Y h=>nomatch h
  |cons x r=>cases x<;>exact mw
 |unsupported _=>exact vP
 |finish e=>exact Bu vP λY Y h=>nomatch h
 |load a _ k=>
  unfold step
  dsimp only
  generalize J.get? a=o
  cases o
  ·exact vO
  ·exact mw
 |update a _ f k=>exact Bu mw vO
 |register _ _=>exact vP
 |choose src n k=>exact Bu vO mw
 |genState g k=>
  unfold step
  dsimp only
  generalize H[g]?=o
  cases o
  ·exact vO
  ·exact mw
 |resume g r l k=>
  unfold step
  dsimp only
  generalize H[g]?=o
  cases o with
  |none=>exact vO
  |some x=>cases x with
   |fresh c=>cases r with
    |send v=>cases v<;>exact mw
    |throw e=>exact mw
   |_=>exact mw
 |«yield» v V l Z=>
  unfold step
  dsimp only
  generalize splitAtGen stack=o
  cases o
  ·exact vO
  ·exact mw
 |fork _ _=>exact vP
 |await _ _=>exact vP
 |_=>exact mw
theorem ZC{den:Code->Sem Fin}(h:step den prog w s t=.halt (.done f) s'):through t=true:=ZB s t f s' h
theorem MQ{den:Code->Sem Fin}:∀{n:Nat} {s s':aj} {t:Thread} {f:iH},runN den prog w n s t=.halted (.done f) s'->
  ∃k J,runN den prog w k s t=.running s' J/\through J=true/\s'.heap.life=s.heap.life
 |0,_,_,_,_,h=>by cases h
 |n+1,s,s',t,f,h=>by
  unfold runN at h
  cases H:step den prog w s t with
  |go s₂ O=>
   rw [H] at h
   obtain⟨k,J,a,b,c⟩:=MQ h
   exact⟨k+1,J,by unfold runN;rw [H];exact a,b,c.trans (step_life den prog w s s₂ t O H)⟩
  |halt U s₂=>
   rw [H] at h
   injection h with V Y
   subst V Y
   have e:=step_halt_same den prog w _ _ _ _ H
   subst e
   exact⟨0,t,rfl,ZC H,rfl⟩
theorem afd{M:iW}{P:aj->Prop}(J:s.asleep)
  (h:wF M ⟨.builtin "claim.caller" {},none,none,[],none⟩ t (Iu M ⟨.builtin "claim.caller" {},none,none,[],none⟩ λr s'=>((∃f,r=.ok f)/\s'.gens=#[]/\P s')/\leftWithCleanup s'.gens=false)
   (λe Y s'=>((∃f,Except.error e=(.ok f:gj))/\s'.gens=#[]/\P s')/\leftWithCleanup s'.gens=false) default s):
  ∃n s' V,schedN M.den M.prog M.w n (.single s ⟨t,.builtin "claim.caller" {},default,[]⟩)=.running (.single s' V)/\through V=true/\s'.heap.life=s.heap.life/\P s':=by
 obtain⟨n,r,s',hn,⟨f,rfl⟩,Z,hP⟩:=(wp_iff_halts t (λr s'=>(∃f,r=.ok f)/\s'.gens=#[]/\P s') default s).mp h
 obtain⟨H,hr,hf,hc⟩:=runNI_real M.den M.prog M.w hn rfl
 have e:H=s':=by
  obtain⟨h1,g1,d1,t1,o1⟩:=H
  obtain⟨h2,g2,d2,t2,o2⟩:=s'
  simp only [Shared.forget,Shared.mk.injEq] at hf
  obtain⟨a,b,c,d,e⟩:=hf
  dsimp only at Z
  subst Z a c d e
  have:g1=#[]:=by
   have:=congrArg Array.size b
   simp at this
   exact Array.eq_empty_of_size_eq_zero (by simpa using this)
  rw [this]
 subst e
 obtain⟨k,O,a,b,c⟩:=MQ hr
 have U:∀k s₂,runN M.den M.prog M.w k s ⟨t,.builtin "claim.caller" {},default,[]⟩≠.halted (.unsupported "lifetime:generator-with-cleanup-left-suspended") s₂:=by
  intro k s₂ hk
  have a:=runN_mono M.den M.prog M.w n k s _ _ H hr
  have b:=runN_mono M.den M.prog M.w k n s _ _ s₂ hk
  rw [CT,b] at a
  injection a with a1 _
  cases a1
 exact⟨k,H,O,(schedN_eq_runN M.den M.prog M.w s _ J ⟨hc,U⟩ k).trans (congrArg Run.lift a),b,c,hP⟩
theorem ahF(es:Array bY)(x:Str):nsFind es x=ia es.toList x:=by
 unfold nsFind findBy ia
 rw [←Array.find?_toList]
theorem Gx{T:PT}{a:Nat}{l:List bY}{h:cR}(O:∀a o,T.get a=some o->h.get? a=some o)(e:BY T a=some l):h.Ns a (ia l):=dz e λo J e=>by
 obtain⟨c,d,H,sl⟩:=o
 by_cases q:H.ctorIdx=3
 ·exact HY (motive:=λH=>∀q,HY (motive:=λY=>Option (List bY)) H q (λes Y=>cond (es.toList.all λe=>Mz e.key) (some es.toList) none)=some l->h.get? a=some ⟨c,d,H,sl⟩->h.Ns a (ia l)) H q
   (λes n Y e J=>qJ e λU e=>bT e▸⟨_,es,n,J,rfl,λx V=>CL (motive:=λv=>∃s t,v=.str s t) x.key (jJ (jM.mp U x (SM.mpr V))) λs t=>⟨s,t,rfl⟩,λx=>ahF es x⟩) q ((dif_pos q).symm.trans e) (O _ _ J)
 ·exact nn ((dif_neg q).symm.trans e)
theorem xS(h:vz v n=true):∃t,v=some (.int n t):=jg h λu e h=>Qc (M:=λu=>v=some u->∃t,v=some (.int n t)) h (λi t q e=>⟨t,aW q▸e⟩) e
def Holds(P:cE)(F:PT):Prop:=∀a o,(K P).lookup a=some o->F.get a=some o
theorem L8{g:cT->Option Obj}:∀{L:Frag} {as:List cT},as=L.map (·.1)->as.map g=L.map (λp=>some p.2)->∀a o,L.lookup a=some o->g a=some o
 |[],_,_,_,_,_,e=>nomatch e
 |(b,x)::r,_,J,H,a,o,e=>by
  subst J
  have H:=rM H
  rw [HN] at e
  cases q:a==b with
  |true=>rw [q] at e;exact eq_of_beq q▸bT e▸H.1
  |false=>rw [q] at e;exact L8 rfl H.2 a o e
theorem aa'(P:cE):EV=(K P).map (·.1):=by rfl'
theorem OF{T:PT}{G:af->PT->Nat->Nat->Prop}(e:BG O c T m k=some (v,T',m',k'))
  (f:c=.call (.ref 480) ⟨[],[]⟩->OG O T m=true->G (.ref (m+4)) (T.put 16 (m+4) (tL (k+7) 128)) (m+3208) (k+7+72*128)):G v T' m' k':=
 qJ e λU e=>aw U λJ U=>by
  have J:c=.call (.ref 480) ⟨[],[]⟩:=fg J λq h=>H7 (motive:=λc=>∀q,H7 (motive:=λY=>Bool) c q (λf a=>decide (f=.ref 480)&&(l0 a.pos&&l0 a.kw))=true->c=.call (.ref 480) ⟨[],[]⟩) c q (λf ⟨p,H⟩ Y h=>
   aw h λV h=>aw h λZ h3=>aW V▸jW (M:=λp=>Code.call (.ref 480) ⟨p,H⟩=_) Z (jW (M:=λH=>Code.call (.ref 480) ⟨[],H⟩=_) h3 rfl)) q h
  cases e
  exact f J U
theorem Dq(h:lI m n=true):m<n:=lK h
theorem Ay{w:bz}{F T:PT}{m k:Nat}{s₀ s:aj}(J:Holds w.params F)(K:Kept qN T F)(X:Agree s₀ T m k s){a:Nat}{o:Obj}(O:a∈qN)(U:(T.get a).isSome=true)(V:(Internal.K w.params).lookup a=some o):s.heap.get? a=some o:=by
 obtain⟨o',H⟩:=uA.mp U
 exact(X.tree a o' H).trans ((K a O o' H).symm.trans (J a o V))
theorem afE{w:bz}{F:PT}(hF:Holds w.params F):IX aL w BG qN F where
 sound:=λJ c T m k v O Z k' s₀ s p e hc K X=>OF (G:=λv O Z k'=>wpCode (model aL w) J (λr s'=>r=.ok (.ret v)/\Agree s₀ O Z k' s') p s) e λec U=>
  aw U λh1 U=>aw U λh2 U=>aw U λh3 U=>aw U λc1 U=>aw U λf1 U=>aw U λc2 U=>aw U λf2 ask=>jg ask λg hg ask=>jg ask λb hb ask=>jg ask λcc ZM ask=>
  aw ask λa1 ask=>aw ask λa2 ask=>aw ask λa3 ask=>aw ask λa4 ask=>aw ask λa5 ask=>aw ask λa6 ask=>aw ask λa7 ask=>aw ask λa8 ask=>aw ask λa9 ask=>aw ask λdm ask=>
  aw ask λcW ask=>aw ask λbS ask=>aw ask λcJ ask=>aw ask λbA bJ=>by
   have no:∀{x:Option af},x.isNone=true->x=none:=Option.isNone_iff_eq_none.mp
   have V:=Dq h3
   have RT:I1 s.heap (ia g) (ia b) 475:=
    ⟨⟨Gx X.tree hg,Gx X.tree hb,⟨_,Gx X.tree ZM,no bJ⟩,xS a1,xS a2,xS a3,xS a4,no a7,no a8,no a9,no dm,aW cW,aW bS,aW cJ,aW bA⟩,
     xS a5,aW a6,⟨_,_,_,_,Ay hF K X (a:=475) ∅ f1 (show _=some NK by rfl),rfl,⟨_,_,_,_,rfl,Ay hF K X (a:=474) ∅ c1 (show _=some NJ by rfl),rfl,rfl⟩⟩⟩
   have B:J.Below ⟨none,frameCount J.below,none,none,unitsOf J.below⟩:=⟨no h1,cY _,λY hl=>(nomatch hl),λY hl=>(nomatch hl),cY _⟩
   have tk:s.toks=k:=by obtain⟨h,e⟩:=X.same;exact e▸rfl
   refine afD (A:=⟨none,frameCount J.below,none,none,unitsOf J.below⟩) RT (Ay hF K X (a:=480) ∅ f2 (show _=some NN by rfl)) rfl ⟨_,_,_,_,rfl,Ay hF K X (a:=479) ∅ c2 (show _=some NL by rfl),rfl,rfl⟩ rfl (Dq h2) ?_ J p (hc.trans ec) B
   intro h' hs hr hk
   rw [X.size,tk] at hr
   rw [X.size] at hs
   refine⟨by rw [X.size],by obtain⟨h,e⟩:=X.same;exact⟨h',by rw [e,←tk,e]⟩,hs,λa o H=>?_,λa o H=>?_⟩
   ·rw [PT.mo _ _ _ _ _ (aa au 0x11100000511011401100444c350041004 V rfl)] at H
    by_cases q:a=m+4
    ·rw [if_pos q] at H;exact q▸H▸hr
    ·rw [if_neg q] at H;exact hk _ _ (X.tree _ _ H)
   ·rw [PT.mo _ _ _ _ _ (aa au 0x11100000511011401100444c350041004 V rfl)] at H
    by_cases q:a=m+4
    ·exact q▸(aa au 0x11ea6004140110044c350041004 V rfl)
    ·rw [if_neg q] at H;exact X.low _ _ H
 keeps:=λJ c T m k v O Z k' e X=>OF (G:=λv O Z k'=>Kept qN T O/\∀a o,O.get a=some o->a<Z) e λY U=>aw U λh1 U=>aw U λh2 U=>aw U λh3 Y=>by
  have V:=Dq h3
  refine⟨Kept.put (aa au 0x11ea6004140110044c350041004 V rfl) (.inl (RX.mpr λo e=>gQ.mpr (ki _ _) (X _ _ e))),λa o H=>?_⟩
  rw [PT.mo _ _ _ _ _ (aa au 0x11100000511011401100444c350041004 V rfl)] at H
  by_cases q:a=m+4
  ·exact q▸(bx au 0x1c8803100440110044 rfl)
  ·rw [if_neg q] at H;exact bN (X _ _ H) (ki _ _)
theorem zY:∀(l:List Obj) (n:Nat) (t:PT) (a:Nat),n+l.length<60000->
  ((l.zipIdx n).foldl (λt x=>t.put 16 x.2 x.1) t).get a=if n<=a/\a<n+l.length then l[a- n]? else t.get a
 |[],n,t,a,_=>by
  have:¬(n<=a/\a<n+([]:List Obj).length):=by simp only [rK];exact(bx aJ 0x110010041041000376 rfl)
  rw [if_neg this];rfl
 |o::l,n,t,a,h=>by
  simp only [fJ] at h
  rw [List.zipIdx_cons,wq,zY l (n+1) _ a (aa aJ 0x11ea6004110101100444ea6004110111040044 h rfl),PT.mo _ _ _ _ _ (by dsimp only;exact(aa aJ 0x111000005110110044ea6004110111040044 h rfl))]
  dsimp only
  simp only [fJ]
  by_cases H:n+1<=a/\a<n+1+l.length
  ·rw [if_pos H,if_pos (by exact(aa bL 0x1010111011204004104100037201011004410410101100437 H rfl))]
   obtain⟨b,rfl⟩:∃b,a=n+1+b:=⟨a- (n+1),(aa bL 0x10101100101110442052010111040045 (cG (aa bL 0x111010110043201011004410410101100437 H rfl)) rfl)⟩
   rw [show n+1+b- (n+1)=b by exact(aa bL 0x1110120005201011104410111040045 (cG (bx aJ 0x1101011004410110043 rfl)) rfl),show n+1+b- n=b+1 by exact(aa bL 0x1110110112040052010111044100045 (cG (bx aJ 0x11010110044003 rfl)) rfl),Cf]
  ·rw [if_neg H]
   by_cases J:a=n
   ·subst J;rw [if_pos rfl,if_pos (by exact(bx aJ 0x111011104004004000037 rfl)),CU];rfl
   ·rw [if_neg J,if_neg (by omega)]
theorem Jt(H:h.objs.size<60000)(J:h.objs.toList.all lZ=true)(e:(ni h).get a=some o):h.get? a=some o:=by
 unfold ni at e
 rw [zY _ _ _ _ (by simpa using H)] at e
 split at e
 ·rw [CV] at e
  have O:h.objs[a]?=some o:=by rw [←e];simp
  have U:lZ o=true:=jM.mp J o (rR e)
  unfold Heap.get?
  rw [O]
  obtain⟨c,d,V,sl⟩:=o
  cases V<;>first|rfl|cases U
 ·cases e
theorem Ju(H:h.objs.size<60000)(e:(ni h).get a=some o):a<h.objs.size:=by
 unfold ni at e
 rw [zY _ _ _ _ (by simpa using H)] at e
 split at e
 ·rename_i q;simpa using q.2
 ·cases e
theorem nj(P:cE):(lH P).objs.size=11:=by rfl
theorem Jv(P:cE):(lH P).objs.toList.all lZ=true:=by rfl
theorem Wa{P:cE}(h:a<11):∃o,(ni (lH P)).get a=some o/\(lH P).get? a=some o:=by
 have:∃o,(ni (lH P)).get a=some o:=by
  unfold ni
  rw [zY _ _ _ _ (by simp [nj]),if_pos (by simp [nj];exact h)]
  exact⟨_,by rw [CV];exact iy (by simp [nj];exact h)⟩
 obtain⟨o,e⟩:=this
 exact⟨o,e,Jt (by rw [nj];decide) (Jv P) e⟩
noncomputable def pairsOf(o:Obj):List (Str×af):=match o.data with
 |.dict es _=>es.toList.filterMap λe=>match e.key with|.str n _=>some (n,e.val)|_=>none
 |_=>[]
noncomputable def keysOf(o:Obj):List Str:=match o.data with
 |.dict es _=>es.toList.filterMap λe=>match e.key with|.str n _=>some n|_=>none
 |_=>[]
noncomputable def V5(P:cE):Option Str×List (Str×af):=((pairsOf (o0 P)).head?.map (·.1),(pairsOf (o0 P)).tail)
noncomputable def Ni:List Str:=[sl "__name__",sl "__doc__",sl "__package__",sl "__loader__",sl "__spec__",sl "__annotations__",sl "__builtins__",sl "__file__",sl "__cached__",sl "_wall",sl "PressError",sl "BadDistance",sl "BadArgument",sl "STATES",sl "LITERAL_STATES",sl "MOST_POSITIONS",sl "START",sl "LEAST_MATCH",sl "MOST_MATCH",sl "LENGTH_STATES",sl "LITERAL_ROW",sl "FIRST_DIRECT",sl "ALIGN_BITS",sl "SHORT_ROW",sl "Cells",sl "fresh",sl "Props",sl "after_literal",sl "after_match",sl "after_rep",sl "after_short",sl "is_after_literal",sl "length_state",sl "slot_base",sl "slot_of",sl "LengthModels",sl "Models",sl "Reps",sl "MODEL_BITS",sl "TOTAL",sl "LEARN",sl "LEAST_SPAN",sl "MOST_SPAN",sl "CARRY",sl "MAY_CARRY",sl "FLUSHED",sl "PRICE_STEPS",sl "BIT_PRICE",sl "CELL_BITS",sl "next_model",sl "need_bit",sl "need_value",sl "turned",sl "RangeWriter",sl "price_of",sl "price_rows",sl "PriceRows",sl "bit_price",sl "direct_price",sl "tree_price",sl "reverse_price",sl "KINDS",sl "need_whole",sl "need_number",sl "step_length",sl "repeats",sl "octet_behind",sl "StepCoder",sl "StepMeter",sl "LzmaWriter",sl "steps_price",sl "_law_jar",sl "_law_pick",sl "_law_steps",sl "_law_scene",sl "_law_path",sl "_law_letter",sl "_law_many",sl "_law_far",sl "_law_again",sl "_law_bits",sl "_law_due",sl "_law_rows",sl "_law_told",sl "_law_octets",sl "_law_spent",sl "_law_run",sl "law"]
theorem abe:Ni.all (λk=>startupNames.contains k||aL.boundNames.contains k)=true:=by rfl'
theorem blt_eq(P:cE):V5 P=bltViewBooted:=by rfl'
theorem abd(P:cE):keysOf (o3 P)=Ni:=by rfl'
theorem open_plain:opening aL=plainProg aL.main.scope.names:=by rfl'
theorem Y0:∀s,fenceModules? aL s=some s:=by intro s;rfl'
structure uH(w:bz)(s₀ s₁:aj):Prop where
 xE:s₀.heap=lH w.params
 same:∃h,s₁={s₀ with heap:=h,toks:=10763}
 gens:s₀.gens=#[]
 size:s₁.heap.objs.size=4138
 K:(Internal.K w.params).In s₁.heap
 old:∀(b:Nat) o,b<11->b≠2->b≠3->b≠6->s₀.heap.get? b=some o->s₁.heap.get? b=some o
theorem aeD(h:Ob x=some (r,m,k,l)):∃F,x=some (r,F,m,k)/\EV.map F.get=l:=by
 cases x with
 |none=>cases h
 |some y=>exact⟨y.2.1,(by cases h;rfl),(by cases h;rfl)⟩
theorem go_top(w:bz):∃F,go (denote treeTable) ID aL w.params BG qN 100000 SB default (topStub aL).cur (ni (lH w.params)) 11 C2=some (.ok (.ret .none),F,4138,10763)/\Holds w.params F:=by
 have h:=aib w
 unfold PR topRunG GC at h
 obtain⟨F,e,h⟩:=aeD h
 exact⟨F,e,L8 (aa' _) h⟩
theorem ab7:∀b,b<11->(b=2\/b=3\/b=6)\/b∈qN:=by decide
theorem ab9(b:Nat)(O:b<11)(H:b≠2)(J:b≠3)(U:b≠6):b∈qN:=(ab7 b O).resolve_left λh=>h.elim H λh=>h.elim J U
theorem abA:leftWithCleanup #[]=false:=by
 unfold leftWithCleanup;simp
theorem aid(w:bz)(s₀:aj)(U:s₀.heap=lH w.params)(Z:s₀.gens=#[])(ht:s₀.toks=C2):
  wF (model aL w) ⟨.builtin "claim.caller" {},none,none,[],none⟩ (topStub aL).cur
   (Iu (model aL w) ⟨.builtin "claim.caller" {},none,none,[],none⟩ λr s'=>((∃f,r=.ok f)/\s'.gens=#[]/\uH w s₀ s')/\leftWithCleanup s'.gens=false)
   (λe J s'=>((∃f,Except.error e=(.ok f:gj))/\s'.gens=#[]/\uH w s₀ s')/\leftWithCleanup s'.gens=false) default s₀:=by
 obtain⟨F,e,hF⟩:=go_top w
 have O:=afE hF
 have V:s₀.heap.objs.size=11:=by rw [U];exact nj _
 have X:Agree s₀ (ni (lH w.params)) 11 C2 s₀:=⟨⟨s₀.heap,by rw [←ht]⟩,V,λa o q=>by rw [U];exact Jt (by rw [nj];decide) (Jv _) q,
  λa o q=>Nat.lt_trans (Ju (by rw [nj];decide) q) (by rw [nj];decide)⟩
 have I:kW (ni (lH w.params)) 11:=λa o q=>by have:=Ju (by rw [nj];decide) q;rwa [nj] at this
 have KF:=(vj (λe X=>O.keeps _ _ _ _ _ _ _ _ _ e X) _ e I).1
 refine Lm (F:=F) (by rw [←table_eq_tree]) rfl O (λe X=>O.keeps _ _ _ _ _ _ _ _ _ e X) _ e (λJ J J q=>q) (s₀:=s₀) (s:=s₀) (R:=λr s'=>((∃f,r=.ok f)/\s'.gens=#[]/\uH w s₀ s')/\leftWithCleanup s'.gens=false) X λs' Y=>?_
 obtain⟨h,hs⟩:=Y.same
 have H:s'.gens=#[]:=by rw [hs];exact Z
 refine⟨⟨⟨_,rfl⟩,H,U,⟨h,hs⟩,Z,Y.size,λa o q=>Y.tree _ _ (hF a o q),λb o hb n2 n3 n6 q=>?_⟩,by rw [H];exact abA⟩
 obtain⟨o',a1,a2⟩:=Wa (P:=w.params) hb
 rw [U,a2] at q
 cases q
 refine Y.tree _ _ (KF b ?_ _ a1)
 refine ab9 b hb n2 n3 n6
section
variable {P:cE}{h:cR}
theorem C7(X:(K P).In h):h.get? builtinsNs=some (o0 P):=X _ _ rfl
theorem zG(X:(K P).In h):h.get? cStatics=some (o2):=X _ _ rfl
theorem rX(X:(K P).In h):h.get? mainNs=some (o3 P):=X _ _ rfl
theorem ER(e:h.get? a=some o)(O:o.data=.dict es n)(H:es.toList.all (λe=>match e.key with|.str _ _=>true|_=>false)=true):h.isNs a=true:=by
 unfold Heap.isNs
 rw [e];dsimp only;rw [O];dsimp only
 rw [←Array.all_toList];exact H
theorem vG(X:(K P).In h):h.isNs mainGlobals=true:=ER (rX X) rfl rfl
theorem zV(X:(K P).In h):h.isNs builtinsNs=true:=ER (C7 X) rfl (by rfl')
theorem ahp(X:(K P).In h):h.isNs cStatics=true:=ER (zG X) rfl rfl
theorem Gp(e:h.get? cStatics=some (o2))(k:Str):staticOf h k=none:=by
 unfold staticOf;rw [e];rfl
theorem aem(e:h.get? a=some o):h.nsKeys a=keysOf o:=by
 unfold Heap.nsKeys keysOf;rw [e];rfl
theorem Ff(e:h.get? a=some o):h.nsPairs a=pairsOf o:=by
 unfold Heap.nsPairs pairsOf;rw [e];rfl
theorem V6(X:(K P).In h):h.bltView=bltViewBooted:=by
 unfold Heap.bltView
 rw [Ff (C7 X)]
 exact blt_eq P
theorem Wb(X:(K P).In h):namesBound aL h=true:=by
 unfold namesBound
 rw [vG X,aem (a:=mainGlobals) (rX X),abd]
 exact abe
theorem abq(X:(K P).In h)(H:xN=lH P):∀n∈laidNames,globalOf h n=globalOf xN n:=by
 subst H
 have J:(lH P).get? mainNs=some (boot_o_3 P):=by rfl
 intro n O
 unfold globalOf
 rw [rX X,J]
 have:n=sl "__package__"\/n=sl "__loader__"\/n=sl "__spec__"\/n=sl "__file__"\/n=sl "__cached__":=by
  simpa [laidNames] using O
 rcases this with rfl|rfl|rfl|rfl|rfl<;>rfl
end
theorem aia(T:uH w s₀ s₁)(V:schedN (denote table) aL w n (.single s₀ (topStub aL))=.running (.single s₁ t))(Z:through t=true)(Y:s₁.heap.life=s₀.heap.life):
  TopRan aL w s₀ s₁:=by
 obtain⟨h,U⟩:=T.same
 have J:s₁.os=s₀.os:=by rw [U]
 have H:s₁.gens=#[]:=by rw [U];exact T.gens
 have s2:s₀.heap.get? cStatics=some (o2):=by rw [T.xE];rfl
 have b4:s₁.heap.get? (4:Nat)=some (boot_o_4 w.params):=T.old 4 _ ∅ ∅ ∅ ∅ (by rw [T.xE];rfl)
 refine⟨⟨n,t,V,Z⟩,Y,T9 J,λb o e O=>?_,λk v e=>?_,λk=>.inl ?_,Pin.keysAreStrs_of (vG T.K),λx hx=>(Pin.builtinOf_eq (zV T.K) x).trans (Heap.of_bltView (zV T.K) (V6 T.K) x hx),?_,?_,names_of_bound (Wb T.K),abq T.K T.xE⟩
 ·have hb:@LT.lt Nat _ b 11:=by have:=jl e;rw [T.xE,nj] at this;exact this
  refine T.old b o hb (λq=>O (.inr (.inl q))) (λq=>O (.inl q)) (λq=>O (.inr (.inr ?_))) e
  rw [T.xE,q];rfl
 ·rw [Gp (zG T.K)] at e;cases e
 ·rw [Gp (zG T.K),Gp s2]
 ·exact⟨4,_,by unfold globalOf;rw [rX T.K];rfl,b4,rfl,rfl⟩
 ·rw [H];intro g hg;simp at hg
theorem PS(w:bz):(∃s,AfterRun (opening aL) w s)/\∀s,AfterRun (opening aL) w s->∃s₀,fenceModules? aL s=some s₀/\s₀.gens=#[]/\∃s₁,TopRan aL w s₀ s₁/\s₁.asleep/\s₁.gens=#[]/\uH w s₀ s₁:=by
 have h:=boot_open (N:=600) open_plain rfl Y0 w
 obtain⟨s₀,O,U⟩:=Hl.mp h
 rw [←table_eq_tree] at O
 obtain⟨s,h4,Y⟩:=Sm.mp O
 have A:=AfterImport.of_importEnds h4
 refine⟨⟨s,A⟩,λs' J=>?_⟩
 obtain rfl:s'=s:=AfterImport.unique J A
 have z:s₀.asleep:=Hr (fence_lifeW Y) A.life
 simp only [Prod.mk.injEq] at U
 obtain⟨a1,a2,a3,a4⟩:=U
 have H:s₀.gens=#[]:=a2
 obtain⟨n,s₁,t,b1,b2,Z,V⟩:=afd z (aid w s₀ a1 H a4)
 have R:=aia V b1 b2 Z
 refine⟨s₀,Y,H,s₁,R,Hr Z z,?_,V⟩
 obtain⟨h,hs⟩:=V.same
 rw [hs];exact H
section
open Sem (wp)
noncomputable def lg:Code->Bool
 |.builtin id _=>wG.contains id
 |_=>false
def o9(J:Ctx):Prop:=lg J.code=false/\∀x∈J.below,lg x.1=false
theorem o9.enter(h:o9 J)(H:lg c=false)(O:Option af)(p:Pos):o9 (J.enter c O p):=by
 refine⟨H,λx hx=>?_⟩
 rcases eJ.mp hx with rfl|hx
 ·exact h.1
 ·exact h.2 x hx
theorem o9.goto(h:o9 J)(H:lg c=false):o9 (J.goto c):=⟨H,h.2⟩
def ao{α:Type}(M:iW)(A:cu)(t:Sem α)(Q:α->aj->Prop)(E:af->aj->Prop)(s:aj):Prop:=
 ∀J p,J.In A->o9 J->wp M J t (λa Y s'=>Q a s') (λe Y s'=>E e s') p s
def fE(M:iW)(A:cu)(c:Code)(R:gj->aj->Prop)(s:aj):Prop:=
 ∀J p,J.code=c->J.Below A->o9 J->wpCode M J R p s
section
variable {α β:Type}{M:iW}{A:cu}{E:af->aj->Prop}{s:aj}
theorem up{Q:α->aj->Prop}(h:wpAny M A t Q E s):ao M A t Q E s:=λJ p H Y=>h J p H
theorem aF{f:α->Sem β}{Q:β->aj->Prop}(h:ao M A m (λa s'=>ao M A (f a) Q E s') E s):ao M A (m>>=f) Q E s:=λJ p H O=>by
 rw [Sem.wp_bind']
 exact zm M J m (λY U Y z=>z J U H O) (λY Y Y z=>z) p s (h J p H O)
theorem kg{Q J:α->aj->Prop}{O:af->aj->Prop}(h:ao M A t Q E s)(V:∀a s,Q a s->J a s)(Z:∀e s,E e s->O e s):ao M A t J O s:=
 λU p H hc=>zm M U t (λa Y s=>V a s) (λe Y s=>Z e s) p s (h U p H hc)
theorem aS{Q:α->aj->Prop}(h:Q a s):ao M A (pure a) Q E s:=up (cH h)
theorem cz{Q:α->aj->Prop}(h:ao M A m Q E s):ao M A (holding vs m) Q E s:=λJ p H O=>by rw [Sem.wp_holding];exact h J p H O
theorem aiB{Q:α->aj->Prop}(h:ao M A m Q E s):ao M A (m.keep vs) Q E s:=λJ p H O=>by rw [Sem.wp_keep];exact h J p H O
theorem ud{Q:af->aj->Prop}(h:ao M A m Q E s):ao M A (operate vs m) Q E s:=λJ p H O=>by rw [Sem.wp_operate];exact h J p H O
theorem aiA{Q:Except af α->aj->Prop}(h:ao M A m (λa=>Q (.ok a)) (λe=>Q (.error e)) s):ao M A m.attempt Q E s:=λJ p H O=>by rw [Sem.wp_attempt];exact h J p H O
theorem p9{k:af->Sem Unit}{Q:α->aj->Prop}(h:ao M A m Q (λY Y=>False) s):ao M A (m.onRaise k) Q E s:=λJ p H O=>by
 rw [Sem.wp_onRaise]
 exact zm M J m (λY Y Y z=>z) (λY Y Y z=>z.elim) p s (h J p H O)
theorem GN{Q:iH->aj->Prop}(h:fE M (A.mark O) c (λr s'=>match r with|.ok f=>Q f s'|.error e=>E e s') s)(V:lg c=false)(H:O≠some byPass:=by intro x;cases x):
  ao M A (run c O) Q E s:=λY p J U=>by rw [Sem.wp_run];exact h _ p rfl (J.enter c O p H) (U.enter V O p)
theorem Qn{Q:af->aj->Prop}(h:fE M A c (λr s'=>match r with|.ok (.ret v)=>Q v s'|.ok _=>False|.error e=>E e s') s)(J:lg c=false):ao M A (runValue c) Q E s:=
 λO p H U=>by rw [Sem.wp_runValue];exact h _ p rfl (H.enter c none p (by intro x;cases x)) (U.enter J none p)
theorem v9{Q:af->aj->Prop}(h:fE M A (.call f ⟨pos,J⟩) (λr s'=>match r with|.ok (.ret v)=>Q v s'|.ok _=>False|.error e=>E e s') s):
  ao M A (call f pos J) Q E s:=Qn h rfl
theorem pA{R:gj->aj->Prop}(h:ao M (A.under c) (M.den c) (λH s'=>match H with|.done f=>R (.ok f) s'|.again J=>J.quiet=true/\lg J=false/\fE M A J R s')
  (λe s'=>R (.error e) s') s):fE M A c R s:=λV p Z O U=>by
 rw [Ib,Z]
 refine zm M V _ (λH p' s' z=>?_) (λY Y Y z=>z) p s (h V p (Z▸O.in) U)
 cases H with
 |done f=>exact z
 |again J=>exact⟨z.1,z.2.2 (V.goto J) p' rfl (O.goto J) (U.goto z.2.1)⟩
theorem xh{R J:gj->aj->Prop}(h:fE M A c R s)(O:∀r s,R r s->J r s):fE M A c J s:=λV p Y H U=>wpCode_mono O (h V p Y H U)
theorem DI{R:gj->aj->Prop}(O:c.quiet=true)(U:lg c=false)(I:Nat->aj->Prop)
  (turn:∀n s,I n s->ao M (A.under c) (M.den c)
   (λH s'=>match H with|.done f=>R (.ok f) s'|.again J=>(J=c/\∃m,m<n/\I m s')\/(J.quiet=true/\lg J=false/\fE M A J R s')) (λe s'=>R (.error e) s') s)
  (n:Nat) (h:I n s):fE M A c R s:=by
 induction n using Nat.strongRecOn generalizing s with
 |ind n V=>
  refine pA (kg (turn n s h) (λH s' z=>?_) λY Y z=>z)
  cases H with
  |done f=>exact z
  |again J=>
   rcases z with⟨rfl,m,Z,hI⟩|z
   ·exact⟨O,U,V m Z hI⟩
   ·exact z
theorem GM{c:Prop}[Decidable c]{Q:α->aj->Prop}(H:c->ao M A a Q E s)(O:¬c->ao M A b Q E s):ao M A (if c then a else b) Q E s:=by
 by_cases h:c
 ·rw [if_pos h];exact H h
 ·rw [if_neg h];exact O h
theorem bD{f:α->Sem β}{Q:β->aj->Prop}{P:α->aj->Prop}(h:ao M A m P E s)(k:∀a s',P a s'->ao M A (f a) Q E s'):ao M A (m>>=f) Q E s:=aF (kg h k λY Y z=>z)
theorem dj{f:Unit->Sem β}{Q:β->aj->Prop}(h:ao M A (f ()) Q E s):ao M A (standAt pos>>=f) Q E s:=aF (up (qf h))
theorem dF{c:Prop}[Decidable c]{f:c->Bool}{g:¬c->Bool}(H:∀h,f h=false)(J:∀h,g h=false):dite c f g=false:=by
 by_cases h:c
 ·exact(dif_pos h).trans (H h)
 ·exact(dif_neg h).trans (J h)
theorem YT{self:af}{Q:Bool->aj->Prop}(Z:A.guards=some [])(h:Q false s):ao M A (Cg self) Q E s:=λJ p H U=>by
 unfold Cg
 show Q (((J.code,p)::J.below).any _) s
 have V:guardsOf ((J.code,p)::J.below)=[]:=(guardsOf_cons ..).trans (H.2.2.2.1 [] Z)
 have key:∀x∈(J.code,p)::J.below,lg x.1=false/\x.1.isGuard=false:=λx O=>
  ⟨(eJ.mp O).elim (λe=>e▸U.1) (U.2 x),y9.mpr λhq=>absurd (CD.mpr ⟨jN.mpr ⟨x,O,rfl⟩,hq⟩:x.1∈guardsOf ((J.code,p)::J.below)) (by rw [show List.filter Code.isGuard (((J.code,p)::J.below).map (·.1))=[] from V];exact Cy)⟩
 rw [Tk.mpr λx O=>?_]
 ·exact h
 ·obtain⟨h1,h2⟩:=key x O
  obtain⟨c,q⟩:=x
  cases c with
  |builtin id args=>
   refine y9.mp ?_
   have no:∀{i:String},guardIds.contains i=true->id=i->False:=λhi e=>nomatch (show true=false from(e▸hi:guardIds.contains id=true).symm.trans h2)
   delta Builtin.Bytes.exported.match_1 Cg._sparseCasesOn_1
   refine dF (c:=id="bytearray.__contains__") (λh=>(no (i:="bytearray.__contains__") (by decide+kernel) h).elim) λY=>dF (c:=id="bytearray.__mod__") (λh=>(no (i:="bytearray.__mod__") (by decide+kernel) h).elim) λY=>dF (c:=id="bytearray.__rmod__") (λh=>(no (i:="bytearray.__rmod__") (by decide+kernel) h).elim) λY=>dF (c:=id="_struct.pack_into.held") (λh=>(no (i:="_struct.pack_into.held") (by decide+kernel) h).elim) λY=>dF (c:=id="bytearray.find.held") (λh=>(no (i:="bytearray.find.held") (by decide+kernel) h).elim) λY=>?_
   obtain⟨pos,kw⟩:=args
   cases pos with
   |nil=>rfl
   |cons v r=>exact(congrArg (Builtin.Bytes.sameRef v self&& ·) h1).trans (Ua _)
  |_=>exact jK
end
end
section
variable {M:iW}{A:cu}{E:af->aj->Prop}{s:aj}{env:Env}
theorem YS{st J}{Q:iH->aj->Prop}(h:ao M A (exec st env) (λf s'=>match f with|.next=>ao M A (execs J env) Q E s'|f=>Q f s') E s):ao M A (execs (st::J) env) Q E s:=by
 rw [execs_cons]
 refine bD h λf s' z=>?_
 cases f<;>first|exact z|exact aS z
theorem UE{Q:af->aj->Prop}(h:ao M A (isTrue t env (eval t env)) (λc s₁=>if c then ao M A (eval a env) Q E s₁ else ao M A (eval b env) Q E s₁) E s):ao M A (eval (.IfExp t a b pos) env) Q E s:=by
 rw [arm_eval_IfExp]
 refine bD h λc s₁ z=>?_
 cases c<;>exact z
theorem I4{Q:af->aj->Prop}(h:ao M A (eval x env) (λv s₁=>ao M A (unaryOp O v) Q E s₁) E s):ao M A (eval (.UnaryOp O x pos) env) Q E s:=by
 rw [arm_eval_UnaryOp]
 exact bD h λv s₁ z=>dj (cz z)
theorem Uk{l O r pos}{Q:af->aj->Prop}(h:ao M A (eval l env) (λa s₁=>ao M A (eval r env) (λb s₂=>ao M A (binaryOp O a b) Q E s₂) E s₁) E s):ao M A (eval (.BinOp l O r pos) env) Q E s:=by
 rw [eval_BinOp]
 exact bD h λa s₁ z=>bD (cz z) λb s₂ y=>dj (ud y)
theorem Ut{l O r pos}{Q:af->aj->Prop}(h:ao M A (eval l env) (λa s₁=>ao M A (eval r env) (λb s₂=>ao M A (compareOp O a b) Q E s₂) E s₁) E s)(H:behindInMarks O r=false):
  ao M A (eval (.Compare l [O] [r] pos) env) Q E s:=by
 rw [eval_Compare1,Sn H]
 exact bD h λa s₁ z=>bD (cz z) λb s₂ y=>dj (ud y)
theorem UU{l U r pos O}{Q:Bool->aj->Prop}(h:ao M A (eval l env) (λa s₁=>ao M A (eval r env) (λb s₂=>ao M A (compareOp U a b) (λc J=>ao M A (truthy c) Q E J) E s₂) E s₁) E s)(H:behindInMarks U r=false):
  ao M A (isTrue (.Compare l [U] [r] pos) env O) Q E s:=by
 rw [isTrue_Compare1,Sn H]
 exact bD h λa s₁ z=>bD (cz z) λb s₂ y=>dj (bD (ud y) λc J x=>cz x)
theorem WJ{l O J ops H U Y pos}{Q:af->aj->Prop}(h:ao M A (eval l env) (λa s₁=>ao M A (compareChain pos a (O::J::ops) (eval H env::eval U env::evalEach Y env)) Q E s₁) E s)
  (V:lastMarks (O::J::ops) (H::U::Y)=false):ao M A (eval (.Compare l (O::J::ops) (H::U::Y) pos) env) Q E s:=by
 show ao M A (eval l env>>=λv=>compareChain pos v (O::J::ops) (markedEach (O::J::ops) (H::U::Y) (evalEach (H::U::Y) env))) Q E s
 rw [S3 _ _ _ V]
 exact aF h
theorem UV{l O J ops H U rs pos Y}{Q:Bool->aj->Prop}(h:ao M A (eval l env) (λa s₁=>ao M A (testChain pos a (O::J::ops) (eval H env::eval U env::evalEach rs env)) Q E s₁) E s)
  (V:lastMarks (O::J::ops) (H::U::rs)=false):ao M A (isTrue (.Compare l (O::J::ops) (H::U::rs) pos) env Y) Q E s:=by
 show ao M A (eval l env>>=λv=>testChain pos v (O::J::ops) (markedEach (O::J::ops) (H::U::rs) (evalEach (H::U::rs) env))) Q E s
 rw [S3 _ _ _ V]
 exact aF h
theorem abF{Q:af->aj->Prop}(h:ao M A r (λb s₁=>ao M A (compareOp O a b) Q E s₁) E s):ao M A (compareChain pos a [O] [r]) Q E s:=by
 exact bD (cz h) λb s₁ z=>dj (ud z)
theorem UX{Q:Bool->aj->Prop}(h:ao M A r (λb s₁=>ao M A (compareOp O a b) (λc s₂=>ao M A (truthy c) Q E s₂) E s₁) E s):ao M A (testChain pos a [O] [r]) Q E s:=by
 exact bD (cz h) λb s₁ z=>dj (bD (ud z) λc s₂ y=>cz y)
theorem abE{Q:af->aj->Prop}
  (h:ao M A r (λb s₁=>ao M A (compareOp U a b) (λc s₂=>ao M A (truthy c) (λt J=>if t then ao M A (compareChain pos b (O::ops) (V::Z)) Q E J else Q c J) E s₂) E s₁) E s):
  ao M A (compareChain pos a (U::O::ops) (r::V::Z)) Q E s:=by
 show ao M A (holding [a] r>>=λH=>standAt pos>>=λY=>holding [a,H] (compareOp U a H)>>=λc=>release [a,H] [c]>>=λY=>holding [c,H] (truthy c)>>=λt=>
  if t then compareChain pos H (O::ops) (V::Z) else pure c) Q E s
 refine bD (cz h) λb s₁ z=>dj (bD (cz z) λc s₂ y=>aF (up (zf (bD (cz y) λt J x=>?_))))
 cases t with
 |false=>exact aS x
 |true=>exact x
theorem UW{Q:Bool->aj->Prop}
  (h:ao M A r (λb s₁=>ao M A (compareOp U a b) (λc s₂=>ao M A (truthy c) (λt J=>if t then ao M A (testChain pos b (O::ops) (V::Z)) Q E J else Q false J) E s₂) E s₁) E s):
  ao M A (testChain pos a (U::O::ops) (r::V::Z)) Q E s:=by
 show ao M A (holding [a] r>>=λH=>standAt pos>>=λY=>holding [a,H] (compareOp U a H)>>=λc=>release [a,H] [c]>>=λY=>holding [c,H] (truthy c)>>=λt=>
  if t then testChain pos H (O::ops) (V::Z) else pure false) Q E s
 refine bD (cz h) λb s₁ z=>dj (bD (cz z) λc s₂ y=>aF (up (zf (bD (cz y) λt J x=>?_))))
 cases t with
 |false=>exact aS x
 |true=>exact x
theorem Ty{J O U pos}{Q:af->aj->Prop}(h:ao M A (eval J env) (λv s₁=>ao M A (truthy v) (λc s₂=>if c then ao M A (eval (.BoolOp .And (O::U) pos) env) Q E s₂ else Q v s₂) E s₁) E s):
  ao M A (eval (.BoolOp .And (J::O::U) pos) env) Q E s:=by
 show ao M A (eval J env>>=λv=>standAt pos>>=λY=>holding [v] (truthy v)>>=λc=>match BoolOp.And,c with
  |.And,false|.Or,true=>pure v
  |_,_=>boolOp pos .And (eval O env::evalEach U env)) Q E s
 refine bD h λv s₁ z=>dj (bD (cz z) λc s₂ y=>?_)
 cases c with
 |false=>exact aS y
 |true=>exact y
theorem UM{J O U pos}{Q:af->aj->Prop}(h:ao M A (eval J env) (λv s₁=>ao M A (truthy v) (λc s₂=>if c then Q v s₂ else ao M A (eval (.BoolOp .Or (O::U) pos) env) Q E s₂) E s₁) E s):
  ao M A (eval (.BoolOp .Or (J::O::U) pos) env) Q E s:=by
 show ao M A (eval J env>>=λv=>standAt pos>>=λY=>holding [v] (truthy v)>>=λc=>match BoolOp.Or,c with
  |.And,false|.Or,true=>pure v
  |_,_=>boolOp pos .Or (eval O env::evalEach U env)) Q E s
 refine bD h λv s₁ z=>dj (bD (cz z) λc s₂ y=>?_)
 cases c with
 |false=>exact y
 |true=>exact aS y
theorem I2{x J pos O}{Q:Bool->aj->Prop}(h:ao M A (isTrue x env (eval x env)) (λc s'=>if c then ao M A (isTrue (.BoolOp .And J pos) env O) Q E s' else Q false s') E s):ao M A (isTrue (.BoolOp .And (x::J) pos) env O) Q E s:=by
 show ao M A (isTrue x env (eval x env)>>=λc=>match BoolOp.And,c with
  |.And,false=>pure false
  |.Or,true=>pure true
  |_,_=>allTrue .And J env) Q E s
 refine bD h λc s' z=>?_
 cases c with
 |false=>exact aS z
 |true=>exact z
theorem I3{x J pos O}{Q:Bool->aj->Prop}(h:ao M A (isTrue x env (eval x env)) (λc s'=>if c then Q true s' else ao M A (isTrue (.BoolOp .Or J pos) env O) Q E s') E s):ao M A (isTrue (.BoolOp .Or (x::J) pos) env O) Q E s:=by
 show ao M A (isTrue x env (eval x env)>>=λc=>match BoolOp.Or,c with
  |.And,false=>pure false
  |.Or,true=>pure true
  |_,_=>allTrue .Or J env) Q E s
 refine bD h λc s' z=>?_
 cases c with
 |false=>exact z
 |true=>exact aS z
theorem BU{Q:List af->aj->Prop}(h:ao M A x (λv s₁=>ao M A (spliced J) (λvs s₂=>Q (v::vs) s₂) E s₁) E s):ao M A (spliced ((false,x)::J)) Q E s:=by
 rw [spliced]
 refine bD h λv s₁ z=>?_
 simp only [Cr,if_false]
 exact aF (aS (bD (cz z) λvs s₂ y=>aS y))
theorem YR{Q:Args->aj->Prop}(h:ao M A (spliced ((false,x)::J)) (λvs s'=>Q ⟨vs,[]⟩ s') E s):ao M A (evalArgs f true ((false,x)::J) []) Q E s:=by
 unfold evalArgs
 exact bD h λvs s' z=>cz (aF (aS (aF (aS (aS z)))))
theorem wI{id:Str}{args:List aG}{Q:af->aj->Prop}(h:ao M A (eval (.Name id p) env) (λf s₁=>ao M A (callWith pos f [] (backTo pos (starEach args env)) []) Q E s₁) E s):
  ao M A (eval (.Call (.Name id p) args [] pos) env) Q E s:=by
 show ao M A (eval (.Name id p) env>>=λf=>callWith pos f [] (backTo pos (starEach args env)) (backToKw pos (keywordEach [] env))) Q E s
 exact aF h
theorem wZ{first:List af}{P:cR->Prop}{args:List (Bool×Sem af)}{Q:af->aj->Prop}(O:(args.any (·.1))=false)
  (V:∀h,P h->∃k,(k=Ug\/k=Ub\/k=Tn)/\Looks M h (keeperOf f) k)
  (h:ao M A (evalArgs f true args []) (λa s₁=>P s₁.heap/\ao M A (call f (first++a.pos) a.kw) Q E s₁) E s):ao M A (callWith pos f first args []) Q E s:=by
 unfold callWith
 refine bD (cz h) λa s₁ z=>dj ?_
 obtain⟨k,U,L⟩:=V _ z.1
 rw [show(args.any (·.1)||([]:List (Option Str×Sem af)).any (·.1.isNone))=false by rw [O];rfl]
 refine aF (up (L.here ?_))
 have H:∀{t:Sem af},ao M A t Q E s₁->ao M A (t>>=λr=>holding [r] point>>=λY=>pure r) Q E s₁:=λZ=>bD Z λr s₂ x=>aF (cz (up (Iv (aS x))))
 have J (mk:af):ao M A (callMarked mk f (first++a.pos) a.kw) Q E s₁:=by unfold callMarked;exact aiB z.2
 rcases U with rfl|rfl|rfl
 ·exact GM (c:=args.length+2*([]:List (Option Str×Sem af)).length>30) (λY=>H z.2) λY=>H (J plainCall)
 ·exact H z.2
 ·exact GM (c:=args.length+2*([]:List (Option Str×Sem af)).length>30) (λY=>H z.2) λY=>H (J callOfAMethodObject)
theorem IJ{Q:iH->aj->Prop}(h:ao M A (eval value env) (λv s₁=>ao M A (storeName env x v) (λY=>Q .next) E s₁) E s)(J:swapsWith value (some (.Name x p)) pos.line env=pure false):
  ao M A (exec (.Assign [.Name x p] value pos) env) Q E s:=by
 rw [exec_Assign_Name env x p value pos J]
 refine dj (bD h λv s₁ z=>dj (aF ?_))
 intro O U H V
 rw [TU]
 exact kg z (λY Y y=>aS y) (λY Y y=>y) O U H V
theorem VT{Q:Unit->aj->Prop}(h:ao M A (storeName env x v) Q E s):ao M A (bindName env x v) Q E s:=λJ p H O=>by rw [TU];exact h J p H O
theorem Uj{Q:iH->aj->Prop}
  (h:ao M A (loadName env x) (λO s₁=>ao M A (eval value env) (λv s₂=>ao M A (inplaceOp U O v) (λr J=>ao M A (storeName env x r) (λY=>Q .next) E J) E s₂) E s₁) E s):
  ao M A (exec (.AugAssign (.Name x p) U value pos) env) Q E s:=by
 rw [exec_AugAssign_Name]
 exact dj (bD h λO s₁ z=>bD (cz z) λv s₂ y=>dj (bD (ud y) λr J x=>dj (bD (VT x) λY Y q=>aS q)))
theorem UF{Q:iH->aj->Prop}(h:ao M A (isTrue t env (eval t env)) (λc s₂=>if c then ao M A (execs a env) Q E s₂ else ao M A (execs b env) Q E s₂) E s):ao M A (exec (.If t a b pos) env) Q E s:=by
 rw [exec_If]
 refine dj (bD h λc s₂ z=>?_)
 cases c<;>exact z
theorem UO{Q:iH->aj->Prop}(h:ao M A (eval e env) (λv=>Q (.ret v)) E s):ao M A (exec (.Return (some e) pos) env) Q E s:=by
 rw [exec_Return_some]
 exact dj (bD h λv s₁ z=>aS z)
theorem Uz{Q:iH->aj->Prop}(h:ao M A (eval e env) (λv s'=>match v with|.ref _=>False|_=>Q .next s') E s)(O:interactive env=false)(J:swapsWith e none pos.line env=pure false):
  ao M A (exec (.Expr e pos) env) Q E s:=by
 rw [exec_Expr env e pos O J]
 refine dj (bD h λv s' z=>?_)
 have H:∀a,v≠.ref a:=λa q=>by subst q;exact z
 rw [dropValue_plain H]
 refine aS ?_
 cases v<;>first|exact z|exact(H _ rfl).elim
theorem zK{Q:af->aj->Prop}(h:ao M A (eval value env) (λo s₁=>ao M A (eval J env) (λi s₂=>ao M A (subscriptTail value J o i) Q E s₂) E s₁) E s):ao M A (eval (.Subscript value J pos) env) Q E s:=by
 rw [eval_Subscript]
 exact bD h λo s₁ z=>bD (cz z) λi s₂ y=>dj y
end
section
variable {prog:iG}{w:bz}{A:cu}{E:af->aj->Prop}{s:aj}{env:Env}
theorem UZ{Q:af->aj->Prop}(h:ao (model prog w) A (spliced (backTo pos (starEach es env))) (λvs s₁=>vs.length<=sizeLine/\Q (.ref s₁.heap.objs.size) {s₁ with heap:=s₁.heap.push {cls:=.type "tuple",data:=.seq vs.toArray}}) E s):
  ao (model prog w) A (eval (.Tuple es k pos) env) Q E s:=by
 rw [arm_eval_Tuple]
 exact dj (bD h λvs s₁ z=>up (wpAny_newTuple z.2 z.1))
theorem UI{Q:af->aj->Prop}(h:ao (model prog w) A (spliced (backTo pos (starEach es env))) (λvs s₁=>vs.length<=sizeLine/\Q (.ref s₁.heap.objs.size) {s₁ with heap:=s₁.heap.push {cls:=.type "list",data:=.seq vs.toArray}}) E s):
  ao (model prog w) A (eval (.List es pos) env) Q E s:=by
 rw [arm_eval_List]
 exact dj (bD h λvs s₁ z=>up (wpAny_newList z.2 z.1))
theorem IK{Q:af->aj->Prop}(h:ao (model prog w) A (eval value env) (λo s₁=>ao (model prog w) A (getAttr o J true) Q E s₁) E s)
  (H:∀O,attributeBase value J env O=O):ao (model prog w) A (eval (.Attribute value J pos) env) Q E s:=by
 show ao _ _ (attributeBase value J env (eval value env)>>=λo=>standAt pos.atName>>=λY=>holding [o] (getAttr o J true)>>=λr=>letTemporaryGo value o r>>=λY=>pure r) _ _ _
 rw [H]
 exact bD h λo s₁ z=>dj (bD (cz z) λr s₂ y=>aF (up (SN (aS y))))
theorem Ui{Q:iH->aj->Prop}
  (h:ao (model prog w) A (eval o env) (λH s₁=>ao (model prog w) A (getAttr H J true) (λO s₂=>ao (model prog w) A (eval value env) (λv V=>ao (model prog w) A (inplaceOp op O v) (λnew Z=>
   ao (model prog w) A (setAttr H J new) (λY=>Q .next) E Z) E V) E s₂) E s₁) E s):ao (model prog w) A (exec (.AugAssign (.Attribute o J U) op value pos) env) Q E s:=by
 have e:exec (.AugAssign (.Attribute o J U) op value pos) env=(standAt pos>>=λY=>eval o env>>=λH=>holding [H] (standAt U.atName>>=λY=>getAttr H J true>>=λO=>holding [O] (eval value env)>>=λv=>
  standAt pos>>=λY=>operate [O,v] (inplaceOp op O v))>>=λnew=>standAt U.atName>>=λY=>holding [new,H] (setAttr H J new)>>=λY=>release [new,H] []>>=λY=>pure .next):=rfl
 rw [e]
 refine dj (bD h λH s₁ z=>aF (cz (dj (bD z λO s₂ y=>bD (cz y) λv V x=>dj (ud (kg x (λnew Z q=>?_) λY Y q=>q))))))
 exact dj (bD (cz q) λY Y r=>aF (up (zf (aS r))))
theorem WV{R:gj->aj->Prop}{body:List cy}
  (H:A.depth<recursionLimit) (ho:s.heap.get? a=some o) (J:o.data=.func fd) (Z:s.heap.NoLimit) (xD:s.heap.CodeRec fd.code fd.qualname)
  (O:fd.body=.stmts body) (U:BindsTo s fd ⟨vals,[]⟩ binds) (ZO:fd.closure=[])
  (V:∀x∈binds,fd.scope.names.lookup x.1=some .local\/(fd.scope.names.lookup x.1=some .cell/\((cellsFrom (s.heap.objs.size+1) fd.scope.names []).lookup x.1).isSome=true))
  (h:∀s₁,InCallC s (callEnvC fd s.heap.objs.size a).locals (bindL (callEnvC fd s.heap.objs.size a).kindOf binds λY=>none) (callEnvC fd s.heap.objs.size a).cells
    (bindC (callEnvC fd s.heap.objs.size a).kindOf binds λY=>none) s₁->
   ao (model prog w) (A.deeper (callEnvC fd s.heap.objs.size a)) (execs body (callEnvC fd s.heap.objs.size a)) (λf s'=>R (.ok (.ret (match f with|.ret v=>v|_=>.none))) s') (λY Y=>False) s₁)
  (ZQ:fd.scope.isCoroutine=false) (Z0:fd.scope.isGenerator=false) (hk:fd.scope.kind=.function):
  fE (model prog w) A (.call (.ref a) ⟨vals,[]⟩) R s:=by
 refine pA ?_
 show ao _ A.in1 (load a>>=_) _ _ s
 refine aF (up (qs ho ?_))
 obtain⟨c,oc,vs,tq,hc,EB,ZS,hq⟩:=xD
 simp only [J,callFunction,ZQ,Z0,O,hc]
 refine aF (m:=field (.ref c) 1) (up (wz EB ZS hq (aF (aS ?_))))
 rw [ZO]
 refine aF (up (U _ _ _ _ (aF (up (wpAny_newFunctionEnv_cells hk V λenv he s' x=>?_)))))
 subst he
 have ZN:newEnv fd.scope s.heap.objs.size fd.globals (cellsFrom (s.heap.objs.size+1) fd.scope.names []) (fd.qualname++".<locals>.") (some a) (.ref c) none fd.builtins=callEnvC fd s.heap.objs.size a:=by unfold callEnvC;rw [hc]
 rw [ZN] at x⊢
 refine aF (up (wpAny_enterFrame (Z.keeps x.toInCall.keep) H (aS ⟨rfl,rfl,?_⟩)))
 refine pA ?_
 show ao _ (A.deeper (callEnvC fd s.heap.objs.size a)) (point>>=λY=>(execs body (callEnvC fd s.heap.objs.size a)).onRaise (leaving (callEnvC fd s.heap.objs.size a))>>=λf=>match f with|.ret v=>ret v|_=>ret .none) _ _ s'
 refine aF (up (Iv (aF (p9 (kg (h s' x) (λf pT z=>?_) λY Y q=>q)))))
 cases f<;>exact aS z
end
section
variable {prog:iG}{w:bz}{A:cu}{E:af->aj->Prop}{R:gj->aj->Prop}{s:aj}{env:Env}
theorem U1{J body O pos}{Q:iH->aj->Prop}(I:Nat->aj->Prop)
  (turn:∀n s,I n s->ao (model prog w) A (isTrue J env (eval J env)) (λb s₂=>
    if b then ao (model prog w) A (execs body env) (λf H=>match f with
      |.next|.cont=>∃m,m<n/\I m H
      |.brk=>Q .next H
      |.ret v=>Q (.ret v) H) (λY Y=>False) s₂
    else ao (model prog w) A (execs O env) Q (λY Y=>False) s₂) (λY Y=>False) s)
  (n:Nat) (h:I n s):ao (model prog w) A (exec (.While J body O pos) env) Q E s:=by
 rw [exec_While]
 refine dj ?_
 unfold runOwn
 refine p9 (GN ?_ rfl)
 refine DI (c:=.whileLoop J body O env) rfl rfl I (λn s U=>?_) n h
 show ao _ A ((whileTurn J body O env).onRaise (λx=>do noteFrame x env;theTreesLotGoes x)) _ _ s
 refine p9 ?_
 simp only [whileTurn]
 refine bD (turn n s U) λb s₂ Z=>?_
 cases b with
 |false=>
  simp only [Cr,if_false] at Z⊢
  exact bD Z λf H z=>aS z
 |true=>
  simp only [if_true] at Z⊢
  refine bD Z λf H z=>?_
  cases f with
  |next=>exact aS (.inl ⟨rfl,z⟩)
  |cont=>exact aS (.inl ⟨rfl,z⟩)
  |brk=>exact aS z
  |ret v=>exact aS z
theorem WY{body:List cy}(I:Nat->aj->Prop){Q:iH->aj->Prop}
  (turn:∀n s,I n s->ao (model prog w) A (pyNext it) (λr s₁=>match r with
   |none=>ao (model prog w) A (execs O env) Q (λY Y=>False) s₁
   |some v=>ao (model prog w) A (letOwnedTupleGo target it v) (λY U=>
     ao (model prog w) A (assign target env v) (λY s₂=>ao (model prog w) A (execs body env) (λf J=>match f with
      |.next|.cont=>∃m,m<n/\I m J
      |.brk=>Q .next J
      |.ret v=>Q (.ret v) J) (λY Y=>False) s₂) (λY Y=>False) U) (λY Y=>False) s₁) (λY Y=>False) s)
  (n:Nat) (h:I n s):fE (model prog w) A (.forLoop target it body O env) (λr s'=>match r with|.ok f=>Q f s'|.error _=>False) s:=by
 refine DI (c:=.forLoop target it body O env) rfl rfl I (λn s hI=>?_) n h
 show ao _ A ((forTurn target it body O env).onRaise (λx=>do noteFrame x env;theTreesLotGoes x)) _ _ s
 refine p9 ?_
 simp only [forTurn]
 refine dj (aF (p9 (kg (turn n s hI) (λr s₁ V=>?_) λY Y z=>z)))
 cases r with
 |none=>
  refine aS (.inr ⟨rfl,rfl,pA ?_⟩)
  exact aF (p9 (kg V (λf s' z=>aS z) λY Y z=>z))
 |some v=>
  refine bD V λY U Z=>bD Z λY s₂ xO=>bD xO λf J H=>?_
  cases f with
  |next=>exact aS (.inl ⟨rfl,H⟩)
  |cont=>exact aS (.inl ⟨rfl,H⟩)
  |brk=>exact aS H
  |ret v=>exact aS H
theorem UD{iter:aG}{body:List cy}{Q:iH->aj->Prop}
  (h:ao (model prog w) A (eval iter env) (λx s₁=>ao (model prog w) A (pyIter x) (λit s₂=>
   fE (model prog w) A (.forLoop target it body O env) (λr s'=>match r with|.ok f=>Q f s'|.error _=>False) s₂) E s₁) E s)
  (H:∀x,foldedSetIterable iter env x=pure x):ao (model prog w) A (exec (.For target iter body O pos) env) Q E s:=by
 rw [exec_For]
 refine dj (bD h λx s₁ z=>?_)
 rw [H x]
 refine aF (aS (dj (bD (cz z) λit s₂ y=>?_)))
 unfold runOwn
 exact p9 (GN (xh y λr s' q=>by cases r<;>exact q) rfl)
variable {K:Frag}{xN:cR}{L:cT}{m:Str->Option af}{ox:Obj}{od:Option Obj}{x C f:cT}
theorem DG{id:String}{args:Args}(O:entryFor table id=some b)
  (h:ao (model prog w) (A.under (.builtin id args)) (b args) (λH s'=>match H with|.done f=>R (.ok f) s'|.again J=>J.quiet=true/\lg J=false/\fE (model prog w) A J R s') (λe s'=>R (.error e) s') s):
  fE (model prog w) A (.builtin id args) R s:=by
 refine pA ?_
 show ao _ _ (match entryFor table id with|some b=>b args|none=>unsupported ((withoutEnding? id "#data").getD id)) _ _ s
 rw [O];exact h
theorem Pi{name:Str}{args:List af}{Q:Option af->aj->Prop}(X:K.In s.heap)(I:InstAt s.heap x ox C od)(H:findIn K (.ref C) name=some (some (.ref f)))(J:typeIn K (.ref f)=some (.type "function"))
  (h:ao (model prog w) A (call (.ref f) (.ref x::args)) (λv=>Q (some v)) E s):ao (model prog w) A (callSpecial? (.ref x) name args) Q E s:=
 aF (aF (up (I.type.here (up ((Ij X H).here (cz (aF (up ((bind_fn X _ J).here (bD h λY Y z=>aS z))))))))))
theorem ahz{Q:af->aj->Prop}(X:K.In s.heap)(I:InstAt s.heap x ox C od)(V:findIn K (.ref C) "__getitem__"=some (some (.ref f)))(H:fnIn K f=true)(O:isFn K (.ref f)=true)
  (h:ao (model prog w) A.in1 (call (.ref f) [.ref x,i]) Q E s)
  (U:subscripted J true (.ref x) i=runValue (.builtin "lifetime.subscript" ⟨[.ref x,i],[]⟩)):ao (model prog w) A (subscriptTail value J (.ref x) i) Q E s:=by
 unfold fnIn at H
 split at H
 ·rename_i e
  unfold subscriptTail getitemInPython
  refine aF (aF (aF (up (I.type.here (up ((Ij X V).here ?_))))))
  refine aF (up (qs (X _ _ e) (aS ?_)))
  rw [U]
  refine aF (Qn (DG entry_sub ?_) rfl)
  unfold nX.«lifetime.subscript»
  refine aF (Pi X I V (beq_iff_eq.mp O) (kg h (λv s' z=>?_) λY Y z=>z))
  refine aS ?_
  exact aF (up (SN (aS z)))
 ·cases H
theorem af0{Q:Unit->aj->Prop}(X:K.In s.heap)(I:InstAt s.heap x ox C od)(H:noSeq K C=true)(J:findIn K (.ref C) "__setitem__"=some (some (.ref f)))(O:isFn K (.ref f)=true)
  (h:ao (model prog w) A (call (.ref f) [.ref x,i,v]) (λY s'=>Q () s') E s):ao (model prog w) A (setItem (.ref x) i v) Q E s:=by
 unfold setItem sequenceKey
 refine cz (aF (aF (up (I.type.here ?_))))
 refine aF (up ((anyM_none X H).here ?_))
 rw [if_pos (show(!false)=true from rfl)]
 exact aS (aF (Pi X I J (beq_iff_eq.mp O) (kg h (λY Y z=>aS z) λY Y z=>z)))
theorem DH{id:String}{args:Args}(U:(CW id args).quiet=true)(V:lg (.builtin id args)=false)(Y:entryFor table id=some b)
  (H:∀(Q:Unit->aj->Prop),Q () s->wpAny (model prog w) A.in1 (checkBuiltinCall id args) Q (λe s'=>R (.error e) s') s)
  (h:ao (model prog w) (A.under (.builtin id args)) (b args) (λJ s'=>match J with|.done f=>R (.ok f) s'|.again O=>O.quiet=true/\lg O=false/\fE (model prog w) A O R s') (λe s'=>R (.error e) s') s):
  fE (model prog w) A (.call (.builtin id) args) R s:=by
 refine pA ?_
 exact aF (up (H _ (aS ⟨U,V,DG Y h⟩)))
end
theorem qH{M:iW}{E:af->aj->Prop}{first:List af}{args:List (Bool×Sem af)}{Q:af->aj->Prop}(J:∀a,f≠.ref a)(O:args.any (·.1)=false)
  (h:ao M A (evalArgs f true args []) (λa s₁=>ao M A (call f (first++a.pos) a.kw) Q E s₁) E s):ao M A (callWith pos f first args []) Q E s:=
 wZ (P:=λY=>True) O (λh Y=>⟨.machine,.inr (.inl rfl),Looks.of_pure (by unfold keeperOf;cases f<;>first|rfl|exact absurd rfl (J _))⟩) (kg h (λa s₁ z=>⟨trivial,z⟩) λY Y z=>z)
theorem Uh{M:iW}{E:af->aj->Prop}{Q:iH->aj->Prop}
  (h:ao M A (eval value env) (λv s₁=>ao M A (assign (.Tuple J k U) env v) (λY=>Q .next) E s₁) E s)
  (H:swapsWithSole [.Tuple J k U] value pos.line env=pure false) (O:swappedStores [.Tuple J k U] value env=pure none):ao M A (exec (.Assign [.Tuple J k U] value pos) env) Q E s:=by
 rw [Iw]
 refine dj ?_
 rw [H]
 refine aF (aS ?_)
 rw [if_neg ∅]
 refine bD h λv s₁ z=>?_
 rw [O]
 refine aF (aS ?_)
 exact bD z λY Y y=>aS y
theorem TT{M:iW}{E:af->aj->Prop}{Q:iH->aj->Prop}
  (h:ao M A (eval value env) (λv s₁=>ao M A (unpackItems v J.length none) (λH s₂=>ao M A (assignInOrder (J.reverse.map λn=>bindName env n) H.reverse) (λY=>Q .next) E s₂) E s₁) E s)
  (V:swapsWithSole [.Tuple O k U] value pos.line env=pure false) (Z:swappedStores [.Tuple O k U] value env=pure (some J)):ao M A (exec (.Assign [.Tuple O k U] value pos) env) Q E s:=by
 rw [Iw]
 refine dj ?_
 rw [V]
 refine aF (aS ?_)
 rw [if_neg ∅]
 refine bD h λv s₁ z=>?_
 rw [Z]
 refine aF (aS ?_)
 exact aF (up (oY (bD z λH s₂ y=>bD y λY Y x=>aS x)))
theorem UK{M:iW}{E:af->aj->Prop}{Q:af->aj->Prop}(h:ao M A (loadName env x) Q E s)(O:(x==("__debug__":Str))=false):ao M A (eval (.Name x pos) env) Q E s:=by
 rw [eval_Name env x pos O]
 exact dj h
theorem Ul{M:iW}{E:af->aj->Prop}{Q:af->aj->Prop}(h:ao M A (eval e env) Q E s):ao M A (eval (.BoolOp O [e] pos) env) Q E s:=h
section
variable {prog:iG}{w:bz}{A:cu}{C:cT}{R:gj->aj->Prop}{h:cR}{g:Array GenState}{d:Drawn}{t:Nat}{os:OsState}
theorem ad3{α:Type}{M:iW}{Q:α->aj->Prop}{E:af->aj->Prop}{k:Obj->Sem α}(J:s.heap.get? a=some o)(h:ao M A (k o) Q E s):ao M A (.load a p k) Q E s:=λO q H U=>⟨o,J,h O q H U⟩
theorem ab3(Y:Makes (model prog w) h C)(hi:Looks (model prog w) h (typeLookup (.ref C) "__init__") (some J))
  (hb:∀self,Looks (model prog w) h (bindSpecial J self) (J,[self])) (V:(some J !=some (Ue "object.__init__"))=true\/(O=[]/\U=[]))
  (hq:fE (model prog w) (A.under (.builtin "type.__call__" ⟨.ref C::O,U⟩)) (.call J ⟨.ref (h.objs.size+1)::O,U⟩) (InitBack (h.objs.size+1) R) ⟨(h.push emptyDict).push (instObj C h.objs.size),g,d,t,os⟩):
  fE (model prog w) A (.call (.ref C) ⟨O,U⟩) R ⟨h,g,d,t,os⟩:=by
 have Y':=Y
 obtain⟨⟨oc,od,cd,sl,hC,e1,e2,e4⟩,H,ai0,self,top,call,Z⟩:=Y
 refine pA ?_
 refine ad3 hC ?_
 show ao _ _ (callAny.viaDunder (.ref C) _) _ _ _
 unfold callAny.viaDunder
 refine aF (up (call.at ?_))
 dsimp only
 rw [tc_bind]
 refine aF (aS (aF (aS ?_)))
 refine aS (a:=Fin.again (.call (.builtin "type.__call__") ⟨.ref C::O,U⟩)) ⟨rfl,rfl,?_⟩
 refine DH (Tf _ (by decide+kernel)) (show wG.contains "type.__call__"=false by decide+kernel) entry_typeCall (λQ q=>check_slot tc_kind tc_split Z (tc_args _ _ _) q) ?_
 unfold nX.«type.__call__»
 have hm:Looks (model prog w) h (mroOf (.ref C)) cd.mro:=((Looks.ld (part:=none) hC).andThen .now).andThen .now
 have hx:((h.push emptyDict).push (instObj C h.objs.size)).get? (h.objs.size+1)=some (instObj C h.objs.size):=by
  have:=gM (h.push emptyDict) (o:=instObj C h.objs.size) rfl
  rwa [iY] at this
 have k:∀b o,h.get? b=some o->((h.push emptyDict).push (instObj C h.objs.size)).get? b=some o:=λb o e=>dZ _ (dZ _ e)
 have t1:Looks (model prog w) ((h.push emptyDict).push (instObj C h.objs.size)) (typeOf (.ref (h.objs.size+1))) (.ref C):=(Looks.ld hx).andThen .now
 have s1:=self.keeps k
 have i1:=hi.keeps k
 have b1:=(hb (.ref (h.objs.size+1))).keeps k
 dsimp only
 rw [if_neg (λq=>by cases beq_iff_eq.mp q)]
 refine aF (up (hm.at ?_))
 rw [if_neg (by rw [e4];exact jK)]
 refine aF (up (H.at ?_))
 refine aF (aS (aF (cz (up (wpAny_call (new_K Y' hi V ?_))))))
 refine aF (up (((t1.andThen s1):Looks (model prog w) _ (isInstance (.ref (h.objs.size+1)) (.ref C)) true).at ?_))
 rw [if_neg ∅]
 unfold callSpecial? specialOf
 refine aF (cz (aF (aF (up (t1.at (up (i1.at (cz (aF (up (b1.at (aF (v9 (xh hq λr s' z=>?_))))))))))))))
 rcases r with e|(v|_|_|_)<;>first|exact z|exact z.elim|skip
 obtain⟨rfl,z⟩:=z
 exact aS (aS z)
end
def C4:Prop:=∀(w:bz) (s:aj) (l:cT) (vs:Array af) (n:Nat) (xs:List Int),(K w.params).In s.heap->s.gens=#[]->4138<=l->
 s.heap.get? l=some {cls:=.type "list",data:=.seq vs n}->wE vs.toList xs->xs.length<=63->WData.layableAll [.list (xs.map .int)]=true->4138<=s.heap.objs.size->
 ao (model aL w) callerA (call (.ref (4137:Nat)) [.ref l]) (λv s'=>v=.bool true/\OldK s.heap s'.heap/\s'.os=s.os/\zt s'.gens) (λY Y=>False) s
theorem aby{P:cE}(X:(K P).In h):isTheDefsW aL h (sl "law"):=by
 have e:h.get? (4137:Nat)=some (NI):=X _ _ rfl
 refine⟨4137,_,_,Pp (aY 83),iF (aY 83),gg (aY 83),?_,e,rfl,by rfl',rfl,rfl,rfl,rfl,rfl,rfl,rfl,rfl,?_⟩
 ·unfold globalOf;rw [rX X];rfl'
 ·exact⟨.inl ⟨rfl,rfl⟩,[],rfl,.inl ⟨rfl,rfl⟩⟩
theorem ab1{P:cE}(X:(K P).In h):h.nsMap mainGlobals (sl "law")=some (.ref (4137:Nat)):=by
 unfold Heap.nsMap;rw [show h.get? mainGlobals=some (o3 P) from rX X];rfl'
theorem FS{R:WRecords}{cl:Str->Option cT}:∀{vs:List af} {xs:List Int} {as:List cT},ReadsAllW R cl h vs (xs.map .int) as->wE vs xs/\as=[]
 |[],[],_,r=>by cases r;exact⟨.nil,rfl⟩
 |[],_::_,_,r=>nomatch r
 |_::_,[],_,r=>nomatch r
 |v::vs,x::xs,_,r=>by
  cases r with
  |cons a b=>
   obtain⟨q,rfl⟩:=FS b
   cases a with
   |int i t=>exact⟨IntsAre.cons _ _ q,rfl⟩
theorem ahI:aL.tablesWhole=true:=by rfl'
theorem ae8:aL.bare:=⟨rfl,rfl,rfl,rfl,rfl,ahI⟩
theorem ae9:opensWell aL=true:=by rfl'
theorem OE:fq.row.toRowW.promised:=⟨[.list []],by decide+kernel,by decide+kernel⟩
noncomputable abbrev gB:RowW:=fq.row.toRowW
theorem Zd:frees gB=true:=by rfl
theorem aeT{R:WRecords}{xs:List Int}(h:WTm.holds R gB.pre {args:=[WData.list (xs.map WData.int)]}=true):xs.length<=63:=TG λq=>by
 have H:WTm.value R gB.pre {args:=[WData.list (xs.map WData.int)]}=some (.bool false):=by
  rw [show gB.pre=.and (.not (.lt (.lit (.int 63)) (.len (.arg 0)))) (.lit (.bool true)) from rfl]
  have J:(63:Int)<(xs.length:Nat):=wy.mpr q
  simp [WTm.value,less?,Num.less?,J]
 unfold WTm.holds at h
 rw [H] at h
 exact nomatch h
theorem aeO(args H:List WData):gB.claim.post args (.bool true) H=true:=by
 have J:gB.claim.post args (.bool true) H=(WShape.has gB.records (.bool true) gB.returns&&gB.post.holds gB.records {args:=args,res:=some (.bool true),after:=H}):=rfl
 rw [J,show gB.post=.eq .res (.lit (.bool true)) from rfl,show gB.returns=.bool from rfl]
 simp [WTm.holds,WTm.value,WShape.has,WShape.arms,same]
theorem aeL{R:WRecords}{cl:Str->Option cT}{P:cE}{ord:List bY->List bY}(h:layAllW R cl P ord [.list U] s=some ([.ref l],s₁)):
  ∃vs n,s₁.heap.get? l=some {cls:=.type "list",data:=.seq vs n}/\s.heap.objs.size<=l:=by
 obtain⟨a,q,H,J,O⟩:=layAllW_cons h
 simp only [layAllW,Option.some.injEq] at J
 subst J
 unfold layW at H
 set_option tactic.hygienic true in split at H
 ·rename_i r V
  cases H
  cases O
  exact⟨_,_,gM _ rfl,(layAllW_grows _ _ _ V).size⟩
 ·cases H
theorem WC:o9 (⟨.builtin "claim.caller" {},none,none,[],none⟩:Ctx):=⟨(show wG.contains "claim.caller"=false by decide+kernel),λx O=>nomatch O⟩
theorem ahT{R:gj->aj->Prop}(J:s.asleep)
  (h:ao (model prog w) callerA t (λH s'=>∃f,H=.done f/\(R (.ok f) s'/\leftWithCleanup s'.gens=false)) (λe s'=>R (.error e) s'/\leftWithCleanup s'.gens=false) s):
  ∃n r s' O,runN (denote table) prog w n s ⟨t,.builtin "claim.caller" {},default,[]⟩=.halted (outcomeOf r) s'/\
   schedN (denote table) prog w n (.single s ⟨t,.builtin "claim.caller" {},default,[]⟩)=.halted (outcomeOf r) s'/\s'.forget=O.forget/\R r O:=by
 obtain⟨n,r,s₁,s₂,V,Z,U,hR⟩:=wp_halts_full (M:=model prog w) (R:=R) J
  (zm _ _ t (λH p' s' z=>by obtain⟨f,rfl,q⟩:=z;exact q) (λY Y Y z=>z) default s (h _ default caller_in WC))
 exact⟨n,r,s₂,s₁,Z,V,U,hR⟩
theorem afc{c:ClaimW}{t:Sem PySem.Fin}{w:bz}{s s₁:aj}{args:List WData}{vs:List af}{H:cR->Prop}(V:s₁.asleep)
  (O:ao (model c.prog w) callerA t (λY s'=>∃f,Y=.done f/\(c.Ends s args vs s₁ (.ok f) s'/\s'.os=s.os/\zt s'.gens/\H s'.heap)) (λe s'=>c.Ends s args vs s₁ (.error e) s'/\s'.os=s.os/\zt s'.gens/\H s'.heap) s₁)
  {G:Prop} (K:∀k r s',schedN (denote table) c.prog w k (.single s₁ ⟨t,.builtin "claim.caller" {},default,[]⟩)=.halted (outcomeOf r) s'->c.Ends s args vs s₁ r s'->s'.os=s.os->H s'.heap->s'.heap.life=s₁.heap.life->G):G:=by
 obtain⟨k,r,s',pT,Z,J,ZZ,U,hos,Es⟩:=ahT (R:=λr s'=>c.Ends s args vs s₁ r s'/\s'.os=s.os/\H s'.heap) V
  (kg O (λY s' z=>by obtain⟨f,e,h⟩:=z;exact⟨f,e,⟨h.1,h.2.1,h.2.2.2⟩,RZ h.2.2.1⟩) λe s' h=>⟨⟨h.1,h.2.1,h.2.2.2⟩,RZ h.2.2.1⟩)
 have z:=Shared.forget_eq ZZ
 exact K k r s' J (U.congr z.1) (z.2.2.2.1.trans hos) (z.1▸Es) (runN_life _ _ _ Z)
theorem Wu{c:ClaimW}{tree:List af->Sem PySem.Fin}{w:bz}{s:aj}{free:cT->Prop}{gens:Prop}{H:cR->Prop}(hz:s.asleep)(U:s.gens=#[])
  (V:∀args,c.pre args=true->WData.layableAll args=true->∀ord:List bY->List bY,(∀l,(ord l).Perm l)->∀{G:Prop},(∀vs s₁,layAllW c.records (classAt s.heap) w.params ord args s=some (vs,s₁)->
    ao (model c.prog w) callerA (tree vs) (λfin s'=>∃f,fin=.done f/\(c.Ends s args vs s₁ (.ok f) s'/\s'.os=s.os/\zt s'.gens/\H s'.heap))
     (λe s'=>c.Ends s args vs s₁ (.error e) s'/\s'.os=s.os/\zt s'.gens/\H s'.heap) s₁->G)->G):
  c.CallFrom (λvs=>⟨tree vs,.builtin "claim.caller" {},default,[]⟩) w free gens H s:=λargs aaw aad ord aau=>
 V args aaw aad ord aau λvs s₁ J Z=>have AN:=Ik _ _ _ J;afc (Hr AN.2.2.2 hz) Z λk r s' O ZL hos Es aae=>
  ⟨vs,s₁,J,k,_,s',O,ZL.elim (λzz=>by obtain⟨v,e,d⟩:=zz;exact .inl ⟨v,congrArg outcomeOf e,d.1,d.2.1,d.2.2.1,λb o y Y=>d.2.2.2.1 b o y,d.2.2.2.2⟩)
   (λzz=>by obtain⟨e,ob,cls,q,d⟩:=zz;exact .inr ⟨e,ob,cls,congrArg outcomeOf q,d.1,d.2.1,d.2.2.1,d.2.2.2.1,λb o y Y=>d.2.2.2.2 b o y⟩),(λY i x hx=>nomatch (U▸hx:(#[]:Array GenState)[i]?=some x)),Es,(congrArg _ (aae.trans AN.2.2.2)),T9 hos⟩
theorem Vh{args:List WData}(O:gB.claim.pre args=true):∃xs:List Int,args=[.list (xs.map .int)]/\xs.length<=63:=by
 have H:=pre_splitW (r:=gB) O
 obtain⟨d,r,J,Z,hr⟩:=hasAllW_cons (R:=gB.records) (e:=.list .int) (es:=[]) H.1
 obtain⟨ds,V,U⟩:=hasW_list Z
 obtain⟨xs,Y⟩:=items_int U
 have e:args=[.list (xs.map .int)]:=by rw [J,hasAllW_nil hr,V,Y]
 exact⟨xs,e,aeT (e▸H.2)⟩
theorem abp{R:WRecords}{cl:Str->Option cT}{xs:List Int}(r:ReadsAllW R cl h [v] [.list (xs.map .int)] as):
  ∃l o vs n,v=.ref l/\as=[l]/\h.get? l=some o/\o.data=.seq vs n/\wE vs.toList xs:=by
 cases r with
 |cons O H=>
  cases H
  cases O with
  |list U Y V J=>exact⟨_,_,_,_,rfl,congrArg (_:: ·) (congrArg (· ++[]) (FS J).2),U,V,(FS J).1⟩
theorem abx{args:List WData}{ord:List bY->List bY}(hg:s.gens=#[])(O:gB.claim.pre args=true)(U:WData.layableAll args=true)(H:∀l,(ord l).Perm l){G:Prop}
  (k:∀l s₁ (xs:List Int) vs n,layAllW gB.claim.records (classAt s.heap) w.params ord args s=some ([.ref l],s₁)->args=[.list (xs.map .int)]->Laid gB.claim.records w s s₁ args [.ref l] [l]->s₁.heap.get? l=some {cls:=.type "list",data:=.seq vs n}->wE vs.toList xs->xs.length<=63->s.heap.objs.size<=l->G):G:=by
 obtain⟨xs,ea,V⟩:=Vh O
 obtain⟨⟨vs,s₁⟩,J⟩:=uA.mp (layAllW_isSome (R:=gB.claim.records) (cl:=classAt s.heap) (P:=w.params) (ord:=ord) (λc hc=>nomatch hc) args gB.args s (pre_splitW (r:=gB) O).1)
 have Z:=Ik _ _ _ J
 obtain⟨as,Mh,Z6,aas⟩:=reads_layAllW H _ _ _ J U s₁.heap (λY Y e=>e)
 have L:Laid gB.claim.records w s s₁ args vs as:=⟨⟨ord,H,J⟩,Mh,Z6,aas,layAllW_keeps _ _ _ J,Z.1.trans hg,Z.2.2.1⟩
 subst ea
 obtain⟨⟨v,s₂⟩,q,h1,h2,h3⟩:=layAllW_cons J
 cases h2
 cases h3
 obtain⟨l,o,us,n,hv,has,e1,e3,hI⟩:=abp Mh
 subst hv has
 obtain⟨Ql,n',Kl,AP⟩:=aeL J
 have eo:=bT (e1.symm.trans Kl)
 have eu:us=Ql:=(Data.seq.inj (e3.symm.trans (congrArg Obj.data eo))).1
 exact k l _ xs Ql n' J rfl L Kl (eu▸hI) V AP
theorem WA (H : C4) {w : bz} {s₀ s : aj} (hz : s.asleep) (hg : s.gens = #[]) (T : uH w s₀ s) :
    ClaimW.CallFrom (callStub fq.row.name) fq.row.claim w (fun b => fq.row.writes = true ∧ madeByTheTop s₀ s b) (fq.row.writes = false)
      (fun h' => fq.row.writes = true → namesKept fq.row.claim.prog fq.row.keeps s.heap h' ∧ ∀ x ∈ fq.row.claim.records, ∀ a, classAt s.heap x.1 = some a → recordClass h' a x.1 (x.2.map (·.1)) = true) s :=
  Wu (c := gB.claim) (tree := fun vs => do match ← nsGet mainNs (sl "law") with
      | some f => do ret (← PySem.call f vs)
      | none => unsupported "claim.caller:no-such-global") hz hg fun args O U ord V {G} K => abx hg O U V fun l s₁ xs vs n J ea L e1 hI Z hl => by
    have fp := frees_parts Zd
    have AN := Ik _ _ _ J
    have K1 : (Internal.K w.params).In s₁.heap := T.K.keeps (layAllW_keeps _ _ _ J)
    subst ea
    refine K _ s₁ J (aF (up (wpAny_nsGet (CE (vG K1)) ?_)))
    rw [show s₁.heap.nsMap mainNs (sl "law") = some (.ref (4137 : Nat)) from ab1 K1]
    refine aF (kg (H w s₁ l vs n xs K1 (AN.1.trans hg) (T.size ▸ hl) e1 hI Z U (jl (K1 4137 _ rfl))) (fun v s' q => ?_) fun Y Y q => q.elim)
    obtain ⟨rfl, q1, q2, q3⟩ := q
    have z := GoodWG.laid (c := gB.claim) (r := .ok (.ret (.bool true))) (s' := s') fp.1 rfl (ident_freeW fp.2.1 fp.2.2.1 fp.2.2.2.1) L ⟨.inl ⟨_, _, [], rfl, fun Y => rfl, ReadsW.bool true, aeO _ _, fun Y => ⟨zg, fun Y hm => (nomatch hm)⟩⟩, q1, q2, q3⟩
    exact aS ⟨_, rfl, z.1, z.2.1, z.2.2, fun q => TA (show false = true from q)⟩
theorem mt:namesResolve aL=true:=by rfl'
theorem lo5:noRoadLSs {strict:=!(importedModules aL.main.body).all cThrough.contains,foot:=none,bare:=(["vars","dir","locals"]:List Str).filter (readsOut aL aL.main.body)} aL.main.body=true:=by rfl'
theorem lo6:(namesMeet aL aL.main.body λY n=>attrL n)=true:=by rfl'
theorem abP:looksOpen aL=true:=by
 unfold looksOpen
 rw [mt,lo5,lo6]
 rfl'
theorem aeF:fq.row.partSaid=true:=by
 unfold OpenRow.partSaid
 rw [show looksOpen fq.row.prog=true from abP]
 rfl'
theorem afA:fq.row.wellSaid=true:=by
 unfold OpenRow.wellSaid
 rw [aeF]
 rfl'
theorem la4:noClassBlock fq.prog fq.footing=true:=by rfl'
theorem la5:noRoadLSs {strict:=true,foot:=some fq.bound',writes:=fq.writes,may:=fq.may} fq.footing=true:=by rfl'
theorem la9:fq.bound'.all (λn=>!builtinNamed n||fq.about==[n]||!rw_tg0046_01.reads n)=true:=by rfl'
theorem abl:namesMeet fq.prog fq.above (λY n=>!rw_tg0046_01.own.contains n)=true:=by rfl'
theorem afT:fq.wellSaid=true:=by
 unfold OpenLaw.wellSaid
 rw [afA,la4,la5,la9,abl]
 rfl'
set_option maxHeartbeats 8000000 in
theorem aat(H:C4):fq.Holds:=by
 refine holds_law afT λJ=>?_
 refine⟨J,OE,⟨ae8,ae9,rfl⟩,OE.witness,λw=>⟨(PS w).1,λs' O=>?_⟩⟩
 obtain⟨s₀,Y,U,s₁,Z,hz,hg,T⟩:=(PS w).2 s' O
 refine⟨s₀,Y,U,s₁,Z,λn hn=>?_,λx V=>(nomatch V),λx V=>(nomatch V),?_⟩
 ·obtain rfl:n=sl "law":=by simpa [show fq.row.pinned=true from rfl,show fq.row.name=sl "law" from rfl] using hn
  exact aby T.K
 ·exact WA H hz hg T
section
variable {M:iW}{A:cu}{s:aj}{env:Env}
def xj(M:iW)(A:cu)(use:Option (af->Sem Unit))(Q:af->aj->Prop)(acc:af)(C:cT)(r:gj)(s':aj):Prop:=
 match r,use with
 |.ok _,none=>∃m,s'.heap.Ns C m/\∀h',kq C s'.heap h'->Q acc {s' with heap:=h'}
 |.ok _,some u=>ao M A (u acc) (λY H=>∃m,H.heap.Ns C m/\∀h',kq C H.heap h'->Q .none {H with heap:=h'}) (λY Y=>False) s'
 |.error _,_=>False
theorem ahn{α:Type}{c:Bool}{pos:Pos}{k:Unit->Sem α}{Q:α->aj->Prop}{E:af->aj->Prop}(h:ao M A (k ()) Q E s):ao M A (if c then(standAt pos>>=k) else k ()) Q E s:=by
 split
 ·exact dj h
 ·exact h
theorem W4{first:Sem af}{use:Option (af->Sem Unit)}{Q:af->aj->Prop}
  (AO:clausesOf e=g::gs) (hs:∀x,foldedSetIterable g.iter env x=pure x) (U:closureFor scope env=pure cl)
  (V:scope.kind=.function) (H:∀x∈scope.names,x.2=.local->scope.names.lookup x.1=some .local)
  (h:ao M A first (λx s₁=>ao M A (pyIter x) (λit s₂=>ao M A J (λacc O=>
   ao M A (newFunctionEnv scope env.globals cl [] env.qual none .none (some env)) (λcenv Z=>
    fE M A (.compStart e 0 it acc {cenv with scope:=relabel scope env}) (xj M A use Q acc cenv.locals) Z) (λY Y=>False) O) (λY Y=>False) s₂) (λY Y=>False) s₁) (λY Y=>False) s):
  ao M A (comprehension e scope env pos J false first use) Q (λY Y=>False) s:=by
 unfold comprehension
 rw [U,AO]
 refine bD h λx s₁ AZ=>dj (aF (up (iZ (hs x) (bD (cz AZ) λit s₂ xO=>ahn (bD xO λacc O xP=>aF (aS (bD xP λcenv Z aaP=>?_)))))))
 dsimp only
 have hv:∀x∈(scope.names.filter λx=>(x.2==.local||x.2==.cell)&&x.1 !=(".0":Str)).reverse,x.2=.local->
   Env.kindOf {cenv with scope:=relabel scope env} x.1=some .local:=λx hx hl=>lookup_relabel_local (H x (CD.mp (TH.mp hx)).1 hl)
 have gc:∀x∈(scope.names.filter λx=>(x.2==.local||x.2==.cell)&&x.1 !=(".0":Str)).reverse.drop 1++(scope.names.filter λx=>(x.2==.local||x.2==.cell)&&x.1 !=(".0":Str)).reverse.take 1,
   x.2=.local->Env.kindOf {cenv with scope:=relabel scope env} x.1=some .local:=λx hx hl=>by
  rcases kj.mp hx with h1|h1
  ·exact hv x (SO h1) hl
  ·exact hv x (SP h1) hl
 refine cz (aF (aiA (cz (GN (xh aaP λr s' hr=>?_) rfl))))
 cases r with
 |ok f=>
  cases use with
  |none=>
   obtain⟨m,hn,hr⟩:=hr
   exact aF (cz (up (wpAny_comp_letGo (cenv:={cenv with scope:=relabel scope env}) V _ s' m hv hn λh' m' Y xM=>aS (hr h' xM))))
  |some u=>
   refine aF (up (oY (bD (cz hr) λY pT xK=>?_)))
   obtain⟨m,hn,xK⟩:=xK
   exact aF (up (wpAny_comp_letGo (cenv:={cenv with scope:=relabel scope env}) V _ pT m gc hn λh' m' Y xM=>aS (xK h' xM)))
 |error x=>cases use<;>exact(hr:False).elim
end
section
variable {prog:iG}{w:bz}{A:cu}{R:gj->aj->Prop}{s:aj}{env:Env}
theorem WX{iter:aG}
  (V:fE (model prog w) A (.compLoop (.ListComp U (⟨target,iter,ifs,0⟩::O) J pos) 0 it acc env) R s)
  (h:ao (model prog w) A (pyIter it) (λH s'=>fE (model prog w) A (.compLoop (.ListComp U (⟨target,iter,ifs,0⟩::O) J pos) 0 H acc env) R s') (λY Y=>False) s):
  fE (model prog w) A (.compStart (.ListComp U (⟨target,iter,ifs,0⟩::O) J pos) 0 it acc env) R s:=by
 refine pA ?_
 refine p9 ?_
 unfold compStart
 refine aF (up (wpAny_askSetting (GM (λY=>?_) λY=>?_)))
 ·first
   |exact aF (aS (aS ⟨rfl,rfl,V⟩))
   |exact aS ⟨rfl,rfl,V⟩
 ·refine aF (up (oY ?_))
  exact dj (bD h λH s' z=>aS ⟨rfl,rfl,z⟩)
theorem WW{iter:aG}(I:Nat->aj->Prop)
  (turn:∀n s,I n s->ao (model prog w) A (pyNext it) (λr s₁=>match r with
   |none=>R (.ok .next) s₁
   |some v=>ao (model prog w) A (letOwnedTupleGo target it v) (λY s₂=>ao (model prog w) A (assign target env v) (λY s₂=>
     ao (model prog w) A (forIn ifs true λc r=>if r=true then do let ok←isTrue c env (eval c env);pure (mV ok) else pure (mV r)) (λok J=>
      if ok=true then ao (model prog w) A (eval ju env) (λx Z=>ao (model prog w) A (call (.builtin "list.append") [acc,x]) (λY H=>∃m,m<n/\I m H) (λY Y=>False) Z) (λY Y=>False) J
      else∃m,m<n/\I m J) (λY Y=>False) s₂) (λY Y=>False) s₂) (λY Y=>False) s₁) (λY Y=>False) s)
  (n:Nat) (h:I n s):fE (model prog w) A (.compLoop (.ListComp ju [⟨target,iter,ifs,0⟩] V pos) 0 it acc env) R s:=by
 refine DI rfl rfl I (λn s hI=>?_) n h
 show ao _ A ((compTurn (.ListComp ju [⟨target,iter,ifs,0⟩] V pos) 0 it acc env).onRaise (λx=>do noteFrame x env;theTreesLotGoes x)) _ _ s
 refine p9 ?_
 rw [compTurn_list]
 refine dj (bD (turn n s hI) λr s₁ O=>?_)
 cases r with
 |none=>exact aS O
 |some v=>
  refine bD O λY s₂ xO=>bD xO λY J xP=>bD xP λok Z U=>?_
  cases ok with
  |false=>exact aS (.inl ⟨rfl,U⟩)
  |true=>exact aF (bD U λx H aaQ=>bD aaQ λY Gv aaR=>aS (aS (.inl ⟨rfl,aaR⟩)))
theorem ahN{Q:Bool->aj->Prop}(h:Q true s):ao (model prog w) A (forIn ([]:List aG) true λc r=>if r=true then do let O←isTrue c env (eval c env);pure (mV O) else pure (mV r)) Q (λY Y=>False) s:=aS h
theorem ahO{Q:Bool->aj->Prop}(h:ao (model prog w) A (isTrue c env (eval c env)) Q (λY Y=>False) s):
  ao (model prog w) A (forIn [c] true λc r=>if r=true then do let O←isTrue c env (eval c env);pure (mV O) else pure (mV r)) Q (λY Y=>False) s:=by
 simp only [TV,List.forIn_nil,if_true]
 exact aF (bD h λb s' H=>aS (aS H))
end
section
noncomputable abbrev bu:=Fin 49
noncomputable def ahE:List Str:=[sl "count",sl "learnt",sl "lc",sl "lp",sl "pb",sl "positions",sl "choice",sl "low",sl "mid",sl "high",sl "props",sl "is_match",sl "is_rep",sl "is_rep0",sl "is_rep1",sl "is_rep2",sl "is_rep0_long",sl "slots",sl "special",sl "align",sl "literals",sl "lengths",sl "rep_lengths",sl "row",sl "made",sl "span",sl "cache",sl "held",sl "closed",sl "models",sl "writer",sl "spent",sl "place",sl "state",sl "reps",sl "lit",sl "match",sl "rep",sl "short",sl "ahead",sl "text",sl "back",sl "steps",sl "kept",sl "distance",sl "length",sl "octet",sl "index",sl "step"]
noncomputable def bu.str(a:bu):Str:=ahE.getD a.val (sl "")
theorem bu.aaU:∀a b:bu,a.str=b.str->a=b:=by decide+kernel
theorem bu.str_inj{a b:bu}(h:a.str=b.str):a=b:=bu.aaU a b h
inductive V where
 |none|bool (b:Bool)|int (i:Int)|str (s:bu)|bytes (b:Array UInt8)|tup (l:List V)|ref (n:Nat)|st (v:af)
inductive AC where
 |list (l:List V)
 |bQ (l:List (Int×V))
 |gX (l:List (bu×V))
 |obj (C:Nat) (l:List (bu×V))
 |ba (b:Array UInt8)
 |jT (l:List V) (o:Obj)
noncomputable abbrev AH:=List AC
structure Wd where
 π:Nat->Nat
 δ:Nat->Nat
inductive UY(h:cR)(P:List af->Prop)(w:af):Prop
 |mk (a:Nat) (ws:List af) (e:w=.ref a) (t:mL h a (dG ws)) (l:P ws)
inductive Uw(P:af->Prop)(Q:List af->Prop)(ws:List af):Prop
 |mk (w:af) (r:List af) (e:ws=w::r) (a:P w) (b:Q r)
inductive Uv(k:Int)(P:af->Prop)(Q:List bY->Prop)(es:List bY):Prop
 |mk (t:Tok) (u:af) (r:List bY) (e:es=⟨hashInt k,.int k t,u⟩::r) (a:P u) (b:Q r)
inductive Ux(w:bz)(k:Str)(P:af->Prop)(Q:List bY->Prop)(es:List bY):Prop
 |mk (t:Tok) (u:af) (r:List bY) (e:es=⟨hashStr w k,.str k t,u⟩::r) (a:P u) (b:Q r)
inductive Uu(k:Str)(P:af->Prop)(Q:List bY->Prop)(es:List bY):Prop
 |mk (e:bY) (r:List bY) (t:Tok) (q:es=e::r) (k:e.key=.str k t) (a:P e.val) (b:Q r)
mutual
def R(h:cR)(W:Wd)(N:Nat):V->af->Prop
 |.none,w=>w=.none
 |.bool b,w=>w=.bool b
 |.int i,w=>∃t,w=.int i t
 |.str s,w=>∃t,w=.str s.str t
 |.bytes b,w=>∃t,w=.bytes b t
 |.tup l,w=>UY h (RL h W N l) w
 |.ref n,w=>n<N/\w=.ref (W.π n)
 |.st v,w=>w=v
def RL(h:cR)(W:Wd)(N:Nat):List V->List af->Prop
 |[],H=>H=[]
 |v::l,H=>Uw (R h W N v) (RL h W N l) H
end
def RI(w:bz)(h:cR)(W:Wd)(N:Nat):List (Int×V)->List bY->Prop
 |[],es=>es=[]
 |(k,v)::l,es=>Uv k (R h W N v) (RI w h W N l) es
def RS(w:bz)(h:cR)(W:Wd)(N:Nat):List (bu×V)->List bY->Prop
 |[],es=>es=[]
 |(k,v)::l,es=>Ux w k.str (R h W N v) (RS w h W N l) es
def RF(h:cR)(W:Wd)(N:Nat):List (bu×V)->List bY->Prop
 |[],es=>es=[]
 |(k,v)::l,es=>Uu k.str (R h W N v) (RF h W N l) es
def dw(h h':cR):Prop:=∀a H,mL h a H->mL h' a H
theorem dw.refl(h:cR):dw h h:=λY Y x=>x
theorem dw.trans(x:dw J O)(y:dw O U):dw J U:=λa H z=>y a H (x a H z)
structure fy(h:cR)(W:Wd)(N:Nat)(h':cR)(W':Wd)(N':Nat):Prop where
 tup:dw h h'
 le:N<=N'
 pi:∀n,n<N->W'.π n=W.π n
 de:∀n,n<N->W'.δ n=W.δ n
theorem fy.refl(h:cR)(W:Wd)(N:Nat):fy h W N h W N:=⟨dw.refl h,cY _,λY Y=>rfl,λY Y=>rfl⟩
theorem fy.trans(x:fy J aI O U cM Y)(y:fy U cM Y xP iL UL):fy J aI O xP iL UL:=
 ⟨x.tup.trans y.tup,bo x.le y.le,λn H=>(y.pi n (bN H x.le)).trans (x.pi n H),λn H=>(y.de n (bN H x.le)).trans (x.de n H)⟩
section
variable {w:bz}{h h':cR}{W W':Wd}{N N':Nat}
mutual
theorem R.mono(G:fy h W N h' W' N'):∀{v:V} {u:af},R h W N v u->R h' W' N' v u
 |.none,_,x=>x
 |.bool _,_,x=>x
 |.int _,_,x=>x
 |.str _,_,x=>x
 |.bytes _,_,x=>x
 |.tup _,_,⟨a,H,e,t,l⟩=>⟨a,H,e,G.tup _ _ t,RL.mono G l⟩
 |.ref n,_,⟨a,b⟩=>⟨bN a G.le,by rw [G.pi n a];exact b⟩
 |.st _,_,x=>x
theorem RL.mono(G:fy h W N h' W' N'):∀{l:List V} {us:List af},RL h W N l us->RL h' W' N' l us
 |[],_,x=>x
 |_::_,_,⟨u,r,e,a,b⟩=>⟨u,r,e,R.mono G a,RL.mono G b⟩
end
theorem RI.mono(G:fy h W N h' W' N'):∀{l:List (Int×V)} {us:List bY},RI w h W N l us->RI w h' W' N' l us
 |[],_,x=>x
 |(_,_)::_,_,⟨t,u,r,e,a,b⟩=>⟨t,u,r,e,a.mono G,RI.mono G b⟩
theorem RS.mono(G:fy h W N h' W' N'):∀{l:List (bu×V)} {us:List bY},RS w h W N l us->RS w h' W' N' l us
 |[],_,x=>x
 |(_,_)::_,_,⟨t,u,r,e,a,b⟩=>⟨t,u,r,e,a.mono G,RS.mono G b⟩
theorem RF.mono(G:fy h W N h' W' N'):∀{l:List (bu×V)} {us:List bY},RF h W N l us->RF h' W' N' l us
 |[],_,x=>x
 |(_,_)::_,_,⟨e,r,t,q,k,a,b⟩=>⟨e,r,t,q,k,a.mono G,RF.mono G b⟩
theorem RL.length:∀{l:List V} {us:List af},RL h W N l us->us.length=l.length
 |[],_,x=>by cases x;rfl
 |_::_,_,⟨u,r,e,_,b⟩=>by subst e;simp [RL.length b]
theorem RL.get:∀{l:List V} {us:List af} {i:Nat} {v:V},RL h W N l us->l[i]?=some v->∃u,us[i]?=some u/\R h W N v u
 |[],_,_,_,_,e=>by simp at e
 |_::_,_,0,_,⟨u,r,q,a,_⟩,e=>by subst q;simp at e;subst e;exact⟨u,rfl,a⟩
 |_::_,_,i+1,_,⟨u,r,q,_,b⟩,e=>by
  subst q
  rw [Cf] at e
  obtain⟨u',a1,a2⟩:=RL.get b e
  exact⟨u',by rw [Cf];exact a1,a2⟩
theorem RL.append:∀{l l':List V} {us U:List af},RL h W N l us->RL h W N l' U->RL h W N (l++l') (us++U)
 |[],_,_,_,x,y=>by cases x;exact y
 |_::_,_,_,_,⟨u,r,q,a,b⟩,y=>by subst q;exact⟨u,r++_,rfl,a,RL.append b y⟩
theorem RL.take:∀{l:List V} {us:List af} (n:Nat),RL h W N l us->RL h W N (l.take n) (us.take n)
 |_,_,0,_=>by simp [RL]
 |[],_,n+1,x=>by cases x;simp [RL]
 |_::_,_,n+1,⟨u,r,q,a,b⟩=>by subst q;exact⟨u,r.take n,rfl,a,RL.take n b⟩
theorem RL.drop:∀{l:List V} {us:List af} (n:Nat),RL h W N l us->RL h W N (l.drop n) (us.drop n)
 |_,_,0,x=>x
 |[],_,n+1,x=>by cases x;simp [RL]
 |_::_,_,n+1,⟨u,r,q,a,b⟩=>by subst q;exact RL.drop n b
theorem RL.set:∀{l:List V} {us:List af} {i:Nat} {v:V} {u:af},RL h W N l us->R h W N v u->RL h W N (l.set i v) (us.set i u)
 |[],_,_,_,_,x,_=>by cases x;simp [RL]
 |_::_,_,0,_,_,⟨u,r,q,a,b⟩,y=>by subst q;exact⟨_,r,rfl,y,b⟩
 |_::_,_,i+1,_,_,⟨u,r,q,a,b⟩,y=>by subst q;exact⟨u,_,rfl,a,RL.set b y⟩
theorem RL.replicate(x:R h W N v u):∀n,RL h W N (dO n v) (dO n u)
 |0=>rfl
 |n+1=>⟨u,_,rfl,x,RL.replicate x n⟩
end
noncomputable abbrev iM(b:Array UInt8):Obj:={cls:=.type "bytearray",data:=.bytearray b}
inductive Un(h:cR)(p:Nat)(P:List af->Prop):Prop
 |mk (xs:List af) (ep:Nat) (e:h.get? p=some {cls:=.type "list",data:=.seq (dG xs) ep}) (a:P xs)
inductive Um(h:cR)(p:Nat)(l:List (Int×V))(P:List bY->Prop):Prop
 |mk (es:List bY) (ep:Nat) (e:h.get? p=some (dictOf es ep)) (a:P es) (n:(l.map (·.1)).Nodup) (q:ep=l.length)
inductive Up(h:cR)(p:Nat)(P:List bY->Prop):Prop
 |mk (es:List bY) (ep:Nat) (e:h.get? p=some (dictOf es ep)) (a:P es)
inductive Uo(h:cR)(p d C:Nat)(P:List bY->Prop):Prop
 |mk (e:h.get? p=some (instObj C d)) (n:p≠d) (es:List bY) (ep:Nat) (e':h.get? d=some (dictOf es ep)) (a:P es) (q:es.length<=1000)
def kA(w:bz)(h:cR)(W:Wd)(N:Nat)(n:Nat):AC->Prop
 |.list l=>Un h (W.π n) (RL h W N l)
 |.bQ l=>Um h (W.π n) l (RI w h W N l)
 |.gX l=>Up h (W.π n) (RS w h W N l)
 |.obj C l=>Uo h (W.π n) (W.δ n) C (RF h W N l)
 |.ba b=>h.get? (W.π n)=some (iM b)
 |.jT l o=>h.get? (W.π n)=some o/\∃xs ep,o={cls:=.type "list",data:=.seq (dG xs) ep}/\RL h W N l xs
noncomputable def abY:AC->Option (List V)
 |.list l=>some l
 |.jT l _=>some l
 |_=>none
noncomputable def nI(σ:AH)(n:Nat):Option (List V):=(σ[n]?).bind abY
def Lv(h:cR)(a:Nat):Prop:=∃o,h.get? a=some o
structure St(w:bz)(s₀:aj)(W:Wd)(σ:AH)(s:aj):Prop where
 same:∃h k,s={s₀ with heap:=h,toks:=k}
 K:(Internal.K w.params).In s.heap
 cell:∀n c,σ[n]?=some c->kA w s.heap W σ.length n c
 ge:∀n,n<σ.length->4138<=W.π n/\4138<=W.δ n
 apart:∀n m,n<σ.length->m<σ.length->n≠m->W.π n≠W.π m/\W.π n≠W.δ m/\W.δ n≠W.π m/\W.δ n≠W.δ m
 lt:∀n,n<σ.length->Lv s.heap (W.π n)/\Lv s.heap (W.δ n)
structure Step(X:List Nat)(W:Wd)(σ:AH)(s:aj)(W':Wd)(σ':AH)(s':aj):Prop where
 grow:fy s.heap W σ.length s'.heap W' σ'.length
 fresh:∀n,σ.length<=n->n<σ'.length->¬Lv s.heap (W'.π n)/\¬Lv s.heap (W'.δ n)
 keep:∀(b:Nat) o,s.heap.get? b=some o->(∀n,n<σ.length->b≠W.π n/\b≠W.δ n)->b∉X->s'.heap.get? b=some o
 live:∀b,Lv s.heap b->Lv s'.heap b
theorem Step.refl(X:List Nat)(W:Wd)(σ:AH)(s:aj):Step X W σ s W σ s:=⟨fy.refl _ _ _,λn H J=>absurd J (gQ.mpr H),λY Y e Y Y=>e,λY h=>h⟩
theorem Step.trans{X:List Nat}(x:Step X aI aD s₁ cM bR s₂)(y:Step X cM bR s₂ O J U):Step X aI aD s₁ O J U where
 grow:=x.grow.trans y.grow
 fresh:=λn Y Z=>by
  rcases ux n bR.length with q|q
  ·have:=x.fresh n Y q
   rw [y.grow.pi n q,y.grow.de n q];exact this
  ·have:=y.fresh n q Z
   exact⟨λz=>this.1 (x.live _ z),λz=>this.2 (x.live _ z)⟩
 keep:=λb o e H V=>by
  refine y.keep b o (x.keep b o e H V) (λn hn=>?_) V
  rcases ux n aD.length with q|q
  ·rw [x.grow.pi n q,x.grow.de n q];exact H n q
  ·have:=x.fresh n q hn
   exact⟨λz=>this.1 (z▸⟨o,e⟩),λz=>this.2 (z▸⟨o,e⟩)⟩
 live:=λb h=>y.live b (x.live b h)
theorem Step.wide{X:List Nat}{W:Wd}(x:Step X W σ s W' σ' s')(h:∀a∈X,a∈Y):Step Y W σ s W' σ' s':=
 ⟨x.grow,x.fresh,λb o e O H=>x.keep b o e O λq=>H (h b q),x.live⟩
end
theorem Jf:mroOf (.type "bytearray")=pure [.type "bytearray",.type "object"]:=by rw [mroOf_type];rfl'
theorem Vy:typeLookup (.type "bytearray") "__new__"=pure (some (.builtin "bytearray.__new__")):=by rw [mW,mP];rfl'
theorem VF:Slot "bytearray" "__init__" "bytearray.__init__":=
 .of (owner:="bytearray") (n:="__init__") (by rw [mW,mP];rfl') (by decide+kernel) (by decide+kernel) (by decide+kernel)
  (by first|exact .inl (by decide+kernel)|exact .inr (by decide+kernel)) (by rw [wt];rfl')
theorem Vq:TypeCalled "bytearray" "bytearray.__new__" "bytearray.__init__":=
 ⟨by decide+kernel,by decide+kernel,⟨_,_,Jf⟩,madeBy_type Jf Vy (by decide+kernel),by decide+kernel,by rw [wt];rfl',VF⟩
theorem VG:checkTypeCall "bytearray" ⟨[],[]⟩=pure ():=by rfl'
theorem VA:checkBuiltinCall "bytearray.__new__" ⟨[.type "bytearray"],[]⟩=pure ():=by rfl'
theorem Jh:plainId "bytearray.__new__"=true:=by decide+kernel
theorem Vv:entryFor table "bytearray.__new__"=some nX.«list.__new__»:=
 entryFor_alias (id':="list.__new__") (by rfl') (by first|rfl|decide+kernel|(unfold String.splitOn;simp+decide [String.splitOnAux])) (by decide+kernel) (by rfl')
theorem Vu:entryFor table "bytearray.__init__"=some nX.«bytearray.__init__»:=by first|exact HO (by rfl')|exact HP (by rfl')
set_option maxRecDepth 1000000 in
set_option maxHeartbeats 4000000 in
theorem VD:("bytearray.__new__".splitOn ".__new__").headD ""="bytearray":=by simp+decide [String.splitOn,String.splitOnAux]
theorem Dl:isSubtype (.type "bytearray") (.type "bytearray")=pure true:=by rw [wt];rfl'
theorem Vo(a:af):argsOk "bytearray.__init__" ⟨[a],[]⟩:=by unfold argsOk;rfl'
section
variable {prog:iG}{w:bz}{A:cu}{E:af->aj->Prop}{s:aj}
theorem Vz{Q₁:af->aj->Prop}(h:Q₁ (.ref s.heap.objs.size) {s with heap:=s.heap.push {cls:=.type "bytearray",data:=.bytearray #[]}}):
  codeAny (model prog w) A (.call (.builtin "bytearray.__new__") ⟨[.type "bytearray"],[]⟩) (wants Q₁ E) s:=by
 refine codeAny_of_tree ?_
 refine aM (iZ VA (cH ⟨rL Jh _,codeAny_builtin_stack Vv rfl λp st=>?_⟩))
 rw [uf Jh _]
 have J:=Dl
 have H:=VD
 obtain⟨hp,g,d,O,os⟩:=s
 simp only [H]
 wp_walk
 exact h
theorem Ww{T:String}{args:List af}{Q Q₁:af->aj->Prop}(H:TypeCalled T ad7 J)(En:checkTypeCall T ⟨args,[]⟩=pure ())(U:entryFor table J=some Bi)
  (ZR:wG.contains J=false)
  (Z:codeAny (model prog w) A.in1 (.call (.builtin ad7) ⟨.type T::args,[]⟩) (wants Q₁ (λY Y=>False)) s)
  (V:∀O s₁,Q₁ O s₁->s₁.TypeIs O T/\argsOk J ⟨O::args,[]⟩/\ao (model prog w) A.in1.in1 (Bi ⟨O::args,[]⟩) (λfin s'=>fin=.done (.ret .none)/\Q O s') (λY Y=>False) s₁):
  ao (model prog w) A (call (.type T) args) Q (λY Y=>False) s:=by
 obtain⟨c,tl,aal⟩:=H.mro
 refine v9 (pA ?_)
 refine aS ⟨Tf _ (by decide+kernel),(show wG.contains "type.__call__"=false by decide+kernel),DG F.entry_type_call ?_⟩
 rw [Around.under_plain (weight_type_call_type T args []) rfl]
 have h1:=H.notType
 have h2:=H.canCreate
 unfold nX.«type.__call__»
 dsimp only
 rw [if_neg (by rw [h1];exact jK)]
 rw [if_neg (by rw [h2];exact jK)]
 refine aF (up (iZ En ?_))
 refine aF (up (iZ aal ?_))
 rw [if_neg (by exact jK)]
 refine aF (up (iZ H.made ?_))
 refine aF (aS (aF (cz (up (wpAny_call (codeAny_mono Z λr s₁ hr=>?_))))))
 cases r with
 |error e=>exact hr
 |ok fl=>
  cases fl with
  |ret O=>
   obtain⟨hT,hok,hsi⟩:=V _ _ hr
   refine aF (up (wk hT H.sub ?_))
   rw [if_neg ∅]
   unfold callSpecial?
   refine aF (cz (aF (up (kR hT H.init.lookup ?_))))
   refine cz (aF (up (iZ (H.init.bind O) ?_)))
   refine aF (v9 ?_)
   refine DH (rL H.init.plain _) ZR U (λQ' q=>H.init.check _ _ _ _ _ _ _ _ hT hok q) ?_
   rw [uf H.init.plain _]
   refine kg hsi (λfin s' ⟨e,q⟩=>?_) λY Y q=>q
   subst e
   refine aS ?_
   exact aS q
  |_=>exact hr.elim
end
theorem VE:typeLookup (.type "bytearray") "__release_buffer__"=pure (some (.builtin "bytearray.__release_buffer__")):=by rw [mW,mP];rfl'
theorem Dk:typeLookup (.type "bytearray") "__buffer__"=pure (some (.builtin "bytearray.__buffer__")):=by rw [mW,mP];rfl'
theorem Vp:Builtin.Bytes.bindOptional "bytearray.__init__" "bytearray" ["source","encoding","errors"] [] []=pure [none,none,none]:=by rfl'
section
variable {prog:iG}{w:bz}{A:cu}{E:af->aj->Prop}{s:aj}
theorem Jj(O:s.TypeIs (.ref D) "bytearray"){Q:Bool->aj->Prop}(h:Q true s):wpAny (model prog w) A (uC (.ref D) "__release_buffer__") Q E s:=by
 unfold uC
 refine aM (kR O VE ?_)
 dsimp only
 have J:(!("bytearray.__release_buffer__":String).endsWith ("."++"__release_buffer__"))=false:=by decide+kernel
 rw [if_neg (by rw [J];exact jK)]
 have H:("bytearray.__release_buffer__":String).dropRight ("__release_buffer__".length+1)="bytearray":=by decide+kernel
 rw [H]
 exact wk O Dl h
theorem Vw(J:s.heap.get? D=some (iM b)){Q:Nat->aj->Prop}(h:Q 0 s):wpAny (model prog w) A (Hh (.ref D)) Q E s:=by
 unfold Hh
 exact aM (qs J (cH h))
theorem Je(H:A.guards=some [])(J:s.heap.get? D=some (iM b)){Q:Bool->aj->Prop}(h:Q false s):
  ao (model prog w) A (Cg (.ref D)<||>(do return(←Hh (.ref D))>0)) Q (λY Y=>False) s:=by
 unfold orM
 refine aF (YT H ?_)
 exact aF (up (Vw J (aS h)))
theorem zS{f:Array UInt8->Array UInt8}(J:s.heap.get? D=some (iM b))(H:(f b).size<=60000){Q:Unit->aj->Prop}
  (h:∀h',h'.get? D=some (iM (f b))->kq D s.heap h'->Q () {s with heap:=h'}):wpAny (model prog w) A (S4 (.ref D) f) Q E s:=by
 unfold S4 updateBytearray
 refine aM (qs J ?_)
 refine aM (wpAny_update J ?_)
 have g:(s.heap.update D (HQ f)).get? D=some (iM (f b)):=qu (HQ f) J rfl
 refine wpAny_lookBehind (s:={s with heap:=s.heap.update D (HQ f)}) g ?_ (h _ g (nY ..))
 show(if(f b).size>sizeLine then some "bytearray:memory" else none)=none
 rw [if_neg (by rw [qo];exact(aa au 0x1100100000007146ea60041003 H rfl))]
theorem Ji(H:A.guards=some [])(J:s.heap.get? D=some (iM b)){Q:Unit->aj->Prop}(h:Q () s):ao (model prog w) A (Sg (.ref D)) Q (λY Y=>False) s:=by
 unfold Sg
 refine aF (Je H J ?_)
 rw [if_neg ∅]
 exact aS h
theorem Wx(V:A.guards=some []){Q:af->aj->Prop}(Z:∀h',(∀b o,s.heap.get? b=some o->h'.get? b=some o)->h'.get? s.heap.objs.size=some (iM #[])->Q (.ref s.heap.objs.size) {s with heap:=h'}):
  ao (model prog w) A (call (.type "bytearray") []) Q (λY Y=>False) s:=by
 refine Ww (Q₁:=λO s₁=>O=.ref s.heap.objs.size/\s₁={s with heap:=s.heap.push (iM #[])}) Vq VG Vu (by decide+kernel) (Vz ⟨rfl,rfl⟩) λO s₁ J=>?_
 obtain⟨rfl,rfl⟩:=J
 have H:(s.heap.push (iM #[])).get? s.heap.objs.size=some (iM #[]):=gM _ rfl
 have U:Shared.TypeIs {s with heap:=s.heap.push (iM #[])} (.ref s.heap.objs.size) "bytearray":=⟨_,H,rfl⟩
 refine⟨U,Vo _,?_⟩
 unfold nX.«bytearray.__init__»
 unfold Cd
 refine aF (aF (up (Jj U (aS ?_))))
 rw [if_neg ∅]
 refine aF (up (iZ Vp ?_))
 dsimp only
 refine aF (aS (aF (aS (aF (Je (show A.in1.in1.guards=some [] from V) H ?_)))))
 rw [if_neg ∅]
 refine aF (up (zS (b:=#[]) H ∅ λh' g hs=>?_))
 rw [if_neg ∅]
 try rw [if_neg ∅]
 first|refine aF (aS (aS ⟨rfl,?_⟩))|refine aS ⟨rfl,?_⟩
 refine Z h' (λb o e=>?_) g
 have:b≠s.heap.objs.size:=λq=>qg _ (q▸jl e)
 exact(hs.2 b this).trans (dZ _ e)
end
theorem Jg:PlainAttrs "bytearray":=
 ⟨⟨"bytearray.__getattribute__",by rw [mW,mP];rfl',by decide+kernel⟩,by rw [mW,mP];rfl'⟩
theorem Jk:Slot "bytearray" "append" "bytearray.append":=
 .of (owner:="bytearray") (n:="append") (by rw [mW,mP];rfl') (by decide+kernel) (by decide+kernel) (by decide+kernel)
  (by first|exact .inl (by decide+kernel)|exact .inr (by decide+kernel)) (by rw [wt];rfl')
theorem Jl:Slot "bytearray" "extend" "bytearray.extend":=
 .of (owner:="bytearray") (n:="extend") (by rw [mW,mP];rfl') (by decide+kernel) (by decide+kernel) (by decide+kernel)
  (by first|exact .inl (by decide+kernel)|exact .inr (by decide+kernel)) (by rw [wt];rfl')
theorem VH:typeOf (.builtin "bytearray.append")=pure (.type "method_descriptor"):=by show builtinType _=_;rw [S6];rfl'
theorem VI:typeOf (.builtin "bytearray.extend")=pure (.type "method_descriptor"):=by show builtinType _=_;rw [S6];rfl'
theorem Vr:entryFor table "bytearray.append"=some nX.«bytearray.append»:=by first|exact HO (by rfl')|exact HP (by rfl')
theorem Vt:entryFor table "bytearray.extend"=some nX.«bytearray.extend»:=by first|exact HO (by rfl')|exact HP (by rfl')
theorem Vm(a b:af):argsOk "bytearray.append" ⟨[a,b],[]⟩:=by unfold argsOk;rfl'
theorem Vn(a b:af):argsOk "bytearray.extend" ⟨[a,b],[]⟩:=by unfold argsOk;rfl'
theorem uR:typeLookup (.type "bytes") "__buffer__"=pure (some (.builtin "bytes.__buffer__")):=by rw [mW,mP];rfl'
theorem Wg:typeLookup (.type "bytes") "__release_buffer__"=pure none:=by rw [mW,mP];rfl'
theorem Wh:isSubtype (.type "bytes") (.type "bytes")=pure true:=by rw [wt];rfl'
theorem VB:typeLookup (.type "bytearray") "__bytes__"=pure none:=by rw [mW,mP];rfl'
theorem VC:typeLookup (.type "bytearray") "__index__"=pure none:=by rw [mW,mP];rfl'
section
variable {prog:iG}{w:bz}{A:cu}{E:af->aj->Prop}{s:aj}
theorem JD{T id:String}{name:Str}{self:af}{Q:af->aj->Prop}(h:Slot T name id)(O:s.TypeIs self T)(U:entryFor table id=some b)(V:wG.contains id=false)
  (Z:ao (model prog w) A.in1 (b ⟨self::J,[]⟩) (λH s'=>∃v,H=.done (.ret v)/\Q v s') (λY Y=>False) s) (ha:argsOk id ⟨self::J,[]⟩):ao (model prog w) A (call (.builtin id) (self::J)) Q (λY Y=>False) s:=by
 refine v9 (DH (rL h.plain _) V U (λQ' q=>h.check _ _ _ _ _ _ _ _ O ha q) ?_)
 rw [uf h.plain _]
 refine kg Z (λH s' ⟨v,e,q⟩=>?_) λY Y q=>q
 subst e;exact q
theorem Vl(H:A.guards=some [])(J:s.heap.get? D=some (iM b))(O:0<=c)(U:c<=255)(V:b.size<=50000){Q:af->aj->Prop}
  (Z:∀h',h'.get? D=some (iM (b.push c.toNat.toUInt8))->kq D s.heap h'->Q .none {s with heap:=h'}):ao (model prog w) A (call (.builtin "bytearray.append") [.ref D,.int c t]) Q (λY Y=>False) s:=by
 refine JD Jk ⟨_,J,rfl⟩ Vr (by decide+kernel) ?_ (Vm _ _)
 unfold nX.«bytearray.append»
 refine aF (m:=selfAndOne "bytearray.append" _) (aS ?_)
 refine aF ?_
 unfold Builtin.Bytes.byteValue
 refine aF (m:=asIndex (.int c t)) (aS ?_)
 have e:(decide (c<0)||decide (c>=256))=false:=by
  simp only [Bool.or_eq_false_iff,decide_eq_false_iff_not];exact(aq az 0x11101001000310600100167ff021000000010 O U rfl)
 rw [if_neg (by rw [e];exact jK)]
 refine aS (aF (Ji (show A.in1.guards=some [] from H) J ?_))
 exact aF (up (zS J (by simp;exact(aa au 0x11ea5f041003c350041003 V rfl)) λh' g hs=>aS ⟨_,rfl,Z h' g hs⟩))
theorem Wi{id:String}{Q:Option (Array UInt8×Option af)->aj->Prop}(h:Q (some (x,none)) s):wpAny (model prog w) A (RY id (.bytes x t) 0) Q E s:=by
 have O:=Il s x t
 have Y:∀{Q:Bool->aj->Prop} {E:af->aj->Prop},Q true s->wpAny (model prog w) A (uC (.bytes x t) "__buffer__") Q E s:=by
  intro Q E h
  unfold uC
  refine aM (kR O uR ?_)
  dsimp only
  have J:(!("bytes.__buffer__":String).endsWith ("."++"__buffer__"))=false:=by decide+kernel
  rw [if_neg (by rw [J];exact jK)]
  have U:("bytes.__buffer__":String).dropRight ("__buffer__".length+1)="bytes":=by decide+kernel
  rw [U]
  exact wk O Wh h
 have H:∀{Q:Bool->aj->Prop} {E:af->aj->Prop},Q false s->wpAny (model prog w) A (Cd (.bytes x t)) Q E s:=by
  intro Q E h
  unfold Cd uC
  exact aM (aM (kR O Wg (cH (cH h))))
 unfold RY
 refine aM (Ia ?_)
 unfold Builtin.Bytes.takeBuffer?
 refine aM (kR O uR ?_)
 try dsimp only
 refine aM (Y ?_)
 rw [if_neg ∅]
 refine aM (kR O uR ?_)
 refine aM ?_
 unfold Cj
 refine aM (kR O uR ?_)
 try dsimp only
 refine aM (Y ?_)
 rw [if_neg ∅]
 refine aM (kR O uR ?_)
 refine aM (H ?_)
 rw [if_neg ∅]
 exact aM (cH (cH (cH (cH h))))
theorem Vx(Z:A.guards=some [])(J:s.heap.get? D=some (iM b))(O:b.size+x.size<=50000){Q:af->aj->Prop}
  (V:∀h',h'.get? D=some (iM (b++x))->kq D s.heap h'->Q .none {s with heap:=h'}):ao (model prog w) A (call (.builtin "bytearray.extend") [.ref D,.bytes x t]) Q (λY Y=>False) s:=by
 refine JD Jl ⟨_,J,rfl⟩ Vt (by decide+kernel) ?_ (Vn _ _)
 unfold nX.«bytearray.extend»
 refine aF (m:=selfAndOne "bytearray.extend" _) (aS ?_)
 refine aF (up (kR (Il s x t) uR ?_))
 rw [if_pos (show(some (Ue "bytes.__buffer__")).isSome=true from rfl)]
 refine aF (up (oY ?_))
 refine aF ?_
 unfold Sz Sv
 refine aF (aF (up (qs J (aS (aS ?_)))))
 refine aF (up (Wi ?_))
 dsimp only
 rw [if_pos (show(none:Option af).isNone=true from rfl)]
 k_delta "addAtEnd"
 by_cases U:x.isEmpty=true
 ·rw [if_neg (by rw [U];decide)]
  refine aF (up (zS J (by simp;exact(aa aJ 0x11ea60041100043c350041100043 O rfl)) λh' g H=>aS ⟨_,rfl,V h' g H⟩))
 ·have e:(!x.isEmpty)=true:=by simpa using U
  rw [if_pos e]
  refine aF (Ji (show A.in1.guards=some [] from Z) J ?_)
  exact aF (up (zS J (by simp;exact(aa aJ 0x11ea60041100043c350041100043 O rfl)) λh' g H=>aS ⟨_,rfl,V h' g H⟩))
end
section
variable {w:bz}{h h':cR}{W W':Wd}{N N' n:Nat}
theorem kA.mono(G:fy h W N h' W' N')(O:n<N)(H:∀o,h.get? (W.π n)=some o->h'.get? (W.π n)=some o)(U:∀o,h.get? (W.δ n)=some o->h'.get? (W.δ n)=some o):
  ∀{c:AC},kA w h W N n c->kA w h' W' N' n c:=by
 intro c x
 have e:=G.pi n O
 cases c with
 |list l=>obtain⟨xs,ep,a,b⟩:=x;exact⟨xs,ep,e▸H _ a,b.mono G⟩
 |bQ l=>obtain⟨es,ep,a,d,z,Z⟩:=x;exact⟨es,ep,e▸H _ a,d.mono G,z,Z⟩
 |gX l=>obtain⟨es,ep,a,d⟩:=x;exact⟨es,ep,e▸H _ a,d.mono G⟩
 |obj C l=>obtain⟨V,Y,es,ep,a,d,z⟩:=x;have J:=G.de n O;exact⟨e▸J▸H _ V,e▸J▸Y,es,ep,J▸U _ a,d.mono G,z⟩
 |ba b=>exact(congrArg h'.get? e).trans (H _ x)
 |jT l o=>obtain⟨a,xs,ep,q,b⟩:=x;exact⟨e▸H _ a,xs,ep,q,b.mono G⟩
end
section
variable {w:bz}{s₀ s s':aj}{W:Wd}{σ:AH}{X:List Nat}
theorem Nd:∀{L:Frag} {a:cT} {o:Obj} {b:Nat},L.all (λp=>lI p.1 b)=true->L.lookup a=some o->@LT.lt Nat _ a b
 |[],_,_,_,_,e=>by cases e
 |(c,x)::r,a,o,b,h,e=>by
  simp only [wu,HR] at h
  simp only [Iz] at e
  split at e
  ·rename_i q;rw [beq_iff_eq.mp q];exact lK h.1
  ·exact Nd h.2 e
theorem A7{P:cE}(e:(K P).lookup a=some o):@LT.lt Nat _ a 4138:=Nd (by rfl') e
theorem Lv.lt(x:Lv h a):@LT.lt Nat _ a h.objs.size:=by obtain⟨_,e⟩:=x;exact jl e
theorem Lv.not(x:h.objs.size<=a):¬Lv h a:=λy=>qg _ (bN y.lt x)
theorem Lv.lj(H:kq a h h')(x:Lv h' a):∀b,Lv h b->Lv h' b:=λb ⟨o,e⟩=>by
 by_cases q:b=a
 ·subst q;exact x
 ·exact⟨o,(H.2 b q).trans e⟩
theorem St.wS(S:St w s₀ W σ s):4138<=s.heap.objs.size:=by
 obtain⟨o,e⟩:=uA.mp (show((Internal.K w.params).lookup (4137:Nat)).isSome=true by rfl')
 exact(jl (S.K _ o e):@LT.lt Nat _ 4137 s.heap.objs.size)
theorem St.below(S:St w s₀ W σ s)(n:Nat)(H:n<σ.length):W.π n<s.heap.objs.size/\W.δ n<s.heap.objs.size:=⟨(S.lt n H).1.lt,(S.lt n H).2.lt⟩
theorem St.lst(S:St w s₀ W σ s)(e:σ[n]?=some (.list l)):∃xs,s.heap.IsList (W.π n) (dG xs)/\RL s.heap W σ.length l xs:=by
 obtain⟨xs,ep,a,b⟩:=S.cell n _ e
 exact⟨xs,⟨_,a,rfl,ep,rfl⟩,b⟩
theorem St.E7(S:St w s₀ W σ s)(e:nI σ n=some l):∃xs,s.heap.IsList (W.π n) (dG xs)/\RL s.heap W σ.length l xs:=by
 obtain⟨c,J,e⟩:=Sm.mp e
 cases c with
 |list _=>exact bT e▸S.lst J
 |jT _ _=>exact by obtain⟨a,xs,ep,q,b⟩:=S.cell n _ J;exact⟨xs,⟨_,a,q▸rfl,ep,q▸rfl⟩,bT e▸b⟩
 |_=>exact Te rfl (heq_of_eq e)
theorem St.ow(_S:St w s₀ W σ s)(e:σ[n]?=some c):n<σ.length:=(gC.mp e).1
theorem St.turned(S:St w s₀ W σ s):∃h H,({s with heap:=h',toks:=k}:aj)={s₀ with heap:=h,toks:=H}:=by obtain⟨_,_,e⟩:=S.same;exact⟨h',k,e▸rfl⟩
theorem St.ext(S:St w s₀ W σ s)(J:∀(b:Nat) o,s.heap.get? b=some o->b∉X->h'.get? b=some o)(V:∀b∈X,4138<=b/\∀n,n<σ.length->b≠W.π n/\b≠W.δ n)
  (Z:dw s.heap h') (hv:∀b∈X,Lv h' b):
  St w s₀ W σ {s with heap:=h',toks:=k}/\Step X W σ s W σ {s with heap:=h',toks:=k}:=by
 have G:fy s.heap W σ.length h' W σ.length:=⟨Z,cY _,λY Y=>rfl,λY Y=>rfl⟩
 have U:∀b,Lv s.heap b->Lv h' b:=λb ⟨o,e⟩=>by
  by_cases q:b∈X
  ·exact hv b q
  ·exact⟨o,J b o e q⟩
 exact⟨⟨S.turned,λa o e=>J a o (S.K a o e) λO=>gQ.mpr (V a O).1 (A7 e),
  λn c e=>have H:=S.ow e;kA.mono G H (λo q=>J _ o q λO=>((V _ O).2 n H).1 rfl) (λo q=>J _ o q λO=>((V _ O).2 n H).2 rfl) (S.cell n c e),
  S.ge,S.apart,λn H=>⟨U _ (S.lt n H).1,U _ (S.lt n H).2⟩⟩,⟨G,λn h1 h2=>absurd h2 (gQ.mpr h1),λb o e Y hb=>J b o e hb,U⟩⟩
theorem dw.of_keeps(k:∀(b:Nat) o,h.get? b=some o->h'.get? b=some o):dw h h':=λa H ⟨o,e,r⟩=>⟨o,k _ _ e,r⟩
theorem dw.lj(e:h.get? a=some o)(O:o.cls≠.type "tuple")(k:∀(b:Nat) o,h.get? b=some o->b≠a->h'.get? b=some o):dw h h':=λb U ⟨o',H,J,r⟩=>
 ⟨o',k _ _ H (λq=>O (bT ((q▸H:).symm.trans e)▸J)),J,r⟩
theorem St.more(S:St w s₀ W σ s)(X:List Nat)(H:∀(b:Nat) o,s.heap.get? b=some o->h'.get? b=some o):
  St w s₀ W σ {s with heap:=h',toks:=k}/\Step X W σ s W σ {s with heap:=h',toks:=k}:=by
 have z:=S.ext (X:=[]) (h':=h') (k:=k) (λb o e Y=>H b o e) (λY h=>nomatch h) (.of_keeps H) (λY h=>nomatch h)
 exact⟨z.1,z.2.wide λY h=>nomatch h⟩
theorem St.tok(S:St w s₀ W σ s)(X:List Nat)(k:Nat):St w s₀ W σ {s with toks:=k}/\Step X W σ s W σ {s with toks:=k}:=S.more X (h':=s.heap) λY Y e=>e
theorem sW{P:Nat->Prop}(h:n<N+1)(a:n<N->P n)(b:P N):P n:=(Tg (To h)).elim a λe=>e▸b
theorem St.adopt(S:St w s₀ W σ s)(hp:4138<=p/\∀n,n<σ.length->p≠W.π n/\p≠W.δ n)(hd:4138<=d/\∀n,n<σ.length->d≠W.π n/\d≠W.δ n)(lp:Lv s.heap p)(ld:Lv s.heap d)
  (hc:∀W',fy s.heap W σ.length s.heap W' (σ.length+1)->W'.π σ.length=p->W'.δ σ.length=d->kA w s.heap W' (σ.length+1) σ.length c):
  ∃W',W'.π σ.length=p/\W'.δ σ.length=d/\St w s₀ W' (σ++[c]) s/\(∀{X J jo s₁},Step X J jo s₁ W σ s->¬Lv s₁.heap p->¬Lv s₁.heap d->Step X J jo s₁ W' (σ++[c]) s)/\
   ∀a,(∀n,n<σ.length->a≠W.π n/\a≠W.δ n)->a≠p->a≠d->∀n,n<(σ++[c]).length->a≠W'.π n/\a≠W'.δ n:=by
 obtain⟨W',O,Z,f1,f2⟩:∃W':Wd,W'.π σ.length=p/\W'.δ σ.length=d/\(∀n,n<σ.length->W'.π n=W.π n)/\∀n,n<σ.length->W'.δ n=W.δ n:=
  ⟨⟨λn=>if n=σ.length then p else W.π n,λn=>if n=σ.length then d else W.δ n⟩,if_pos rfl,if_pos rfl,λn H=>if_neg (dW H),λn H=>if_neg (dW H)⟩
 have V:(σ++[c]).length=σ.length+1:=bZ
 have G:fy s.heap W σ.length s.heap W' (σ.length+1):=⟨dw.refl _,mH _,f1,f2⟩
 have ap:∀n,n<σ.length->(p≠W'.π n/\p≠W'.δ n)/\d≠W'.π n/\d≠W'.δ n:=λn H=>by rw [f1 n H,f2 n H];exact⟨hp.2 n H,hd.2 n H⟩
 refine⟨W',O,Z,⟨S.same,S.K,λn c' e=>?_,λn H=>sW (P:=λn=>4138<=W'.π n/\4138<=W'.δ n) (V▸H) (λq=>by rw [f1 n q,f2 n q];exact S.ge n q) (by rw [O,Z];exact⟨hp.1,hd.1⟩),
  λn m H hm U=>?_,λn H=>sW (P:=λn=>Lv s.heap (W'.π n)/\Lv s.heap (W'.δ n)) (V▸H) (λq=>by rw [f1 n q,f2 n q];exact S.lt n q) (by rw [O,Z];exact⟨lp,ld⟩)⟩,
  λ{X J jo s₁} st n1 n2=>⟨st.grow.trans (V▸G),λk Ep Er=>sW (P:=λk=>jo.length<=k->¬Lv s₁.heap (W'.π k)/\¬Lv s₁.heap (W'.δ k)) (V▸Er) (λq h=>by rw [f1 k q,f2 k q];exact st.fresh k h q) (λY=>by rw [O,Z];exact⟨n1,n2⟩) Ep,st.keep,st.live⟩,
  λa h1 h2 h3 n H=>sW (P:=λn=>a≠W'.π n/\a≠W'.δ n) (V▸H) (λq=>by rw [f1 n q,f2 n q];exact h1 n q) (by rw [O,Z];exact⟨h2,h3⟩)⟩
 ·rw [V]
  refine sW (P:=λn=>(σ++[c])[n]?=some c'->kA w s.heap W' (σ.length+1) n c') (V▸(gC.mp e).1) (λq e=>kA.mono G q (λo z=>z) (λo z=>z) (S.cell n c' ((lJ q).symm.trans e))) (λe=>?_) e
  rw [Cc] at e
  exact bT e▸hc W' G O Z
 ·refine sW (P:=λn=>n≠m->W'.π n≠W'.π m/\W'.π n≠W'.δ m/\W'.δ n≠W'.π m/\W'.δ n≠W'.δ m) (V▸H) (λH U=>?_) (λU=>?_) U
  ·exact sW (P:=λm=>n≠m->W'.π n≠W'.π m/\W'.π n≠W'.δ m/\W'.δ n≠W'.π m/\W'.δ n≠W'.δ m) (V▸hm) (λhm U=>by rw [f1 n H,f2 n H,f1 m hm,f2 m hm];exact S.apart n m H hm U)
    (λY=>by rw [O,Z];have z:=ap n H;exact⟨z.1.1.symm,z.2.1.symm,z.1.2.symm,z.2.2.symm⟩) U
  ·have z:=ap m ((Tg (To (V▸hm:m<σ.length+1))).resolve_right (eN U))
   rw [O,Z];exact⟨z.1.1,z.1.2,z.2.1,z.2.2⟩
theorem St.new(S:St w s₀ W σ s)(X:List Nat)(Z:∀(b:Nat) o,s.heap.get? b=some o->h'.get? b=some o)(hp:s.heap.objs.size<=p)(V:s.heap.objs.size<=d)(H:Lv h' p)(J:Lv h' d)
  (hc:∀W',fy s.heap W σ.length h' W' (σ.length+1)->W'.π σ.length=p->W'.δ σ.length=d->kA w h' W' (σ.length+1) σ.length c):
  ∃W',W'.π σ.length=p/\W'.δ σ.length=d/\St w s₀ W' (σ++[c]) {s with heap:=h',toks:=k}/\Step X W σ s W' (σ++[c]) {s with heap:=h',toks:=k}:=by
 have z:=S.more X (k:=k) Z
 have O:∀p,s.heap.objs.size<=p->4138<=p/\∀n,n<σ.length->p≠W.π n/\p≠W.δ n:=λp hp=>⟨bo S.wS hp,λn Y=>⟨gZ (bN (S.below n Y).1 hp),gZ (bN (S.below n Y).2 hp)⟩⟩
 obtain⟨W',e1,e2,T',U,_⟩:=z.1.adopt (c:=c) (O p hp) (O d V) H J λW' G=>hc W' (z.2.grow.trans G)
 exact⟨W',e1,e2,T',U z.2 (Lv.not hp) (Lv.not V)⟩
theorem St.put(S:St w s₀ W σ s)(X:List Nat)(J:n<σ.length)(O:∀(b:Nat),b≠W.π n->b≠W.δ n->h'.get? b=s.heap.get? b)(hT:dw s.heap h')(Z:∀b,Lv s.heap b->Lv h' b)
  (hc:fy s.heap W σ.length h' W σ.length->kA w h' W σ.length n c):
  St w s₀ W (σ.set n c) {s with heap:=h',toks:=k}/\Step X W σ s W (σ.set n c) {s with heap:=h',toks:=k}:=by
 have V:(σ.set n c).length=σ.length:=lN
 have G:fy s.heap W σ.length h' W σ.length:=⟨hT,cY _,λY Y=>rfl,λY Y=>rfl⟩
 refine⟨⟨S.turned,λa o e=>(O a (dW (bN (A7 e) (S.ge n J).1)) (dW (bN (A7 e) (S.ge n J).2))).trans (S.K a o e),λm c' e=>?_,λm H=>S.ge m (V▸H),λm m' h1 h2=>S.apart m m' (V▸h1) (V▸h2),
  λm H=>⟨Z _ (S.lt m (V▸H)).1,Z _ (S.lt m (V▸H)).2⟩⟩,⟨V.symm▸G,λm h1 h2=>absurd (V▸h2) (gQ.mpr h1),λb o e hb Y=>(O b (hb n J).1 (hb n J).2).trans e,Z⟩⟩
 rw [V]
 by_cases q:m=n
 ·subst q
  exact bT ((Ch J).symm.trans e)▸hc G
 ·have e:=(qw (eN q)).symm.trans e
  have H:=S.ow e
  have U:=S.apart m n H J q
  exact kA.mono G H (λo z=>(O _ U.1 U.2.1).trans z) (λo z=>(O _ U.2.2.1 U.2.2.2).trans z) (S.cell m c' e)
end
section
noncomputable abbrev lR:=Fin 45
inductive qA where
 |abs|jU|len|isInt|isBool|vA|qV|max2|min2|sum|bytesOf|q8|listOf
 deriving DecidableEq
set_option genCtorIdx false in
mutual
inductive XE where
 |var (i:Nat)
 |const (v:V)
 |bin (op:nW) (a b:XE)
 |neg (a:XE)
 |eI (a:XE)
 |aw (a b:XE)
 |dD (a b:XE)
 |bj (t a b:XE)
 |cmp (op:CmpOp) (a b:XE)
 |k8 (op rj:CmpOp) (a b c:XE)
 |tup (l:XL)
 |list (l:XL)
 |oA
 |dict (ks:List bu) (l:XL)
 |attr (e:XE) (x:bu)
 |sub (a i:XE)
 |rows (i:XE)
 |sliceTo (a k:XE)
 |sliceFrom (a k:XE)
 |fn (a:Nat) (l:XL)
 |cls (C:Nat) (l:XL)
 |prim (p:qA) (l:XL)
 |aZ (o:XE) (x:lR) (l:XL)
 |comp (bH:Nat) (ju:XE) (it:XI)
 |nt (bH:Nat) (ju:XE) (it:XI) (c:XE)
inductive XL where
 |nil
 |cons (e:XE) (l:XL)
inductive XI where
 |range (l:XL)
 |gv (e:XE)
 |val (e:XE)
end
set_option genCtorIdx false in
inductive XT where
 |var (i:Nat)
 |tup (l:List Nat)
 |attr (o:XE) (x:bu)
 |sub (o i:XE)
set_option genCtorIdx false in
mutual
inductive XS where
 |expr (e:XE)
 |assign (t:XT) (e:XE)
 |sj (i:Nat) (op:nW) (e:XE)
 |g9 (o:XE) (x:bu) (op:nW) (e:XE)
 |bj (c:XE) (a b:XB)
 |loop (t:XT) (it:XI) (b:XB)
 |while (c:XE) (b:XB)
 |ret (e:XE)
 |lu
 |cont
 |bad
inductive XB where
 |nil
 |cons (s:XS) (b:XB)
end
noncomputable abbrev M(α:Type):=AH->Option (α×AH)
noncomputable def M.bw{α β:Type}(m:M α)(f:α->M β):M β:=λσ=>match m σ with
 |some (a,σ')=>f a σ'
 |none=>none
noncomputable def M.ret{α:Type}(a:α):M α:=λσ=>some (a,σ)
noncomputable def M.no{α:Type}:M α:=λY=>none
noncomputable abbrev bc:=List (Option V)
noncomputable abbrev bK:=Nat->Option (List V->M V)
section
variable {β:Type}{r:β}{G:Prop}
theorem bI{α:Type}{o:Option α}{f:α->Option β}{a:α}{x:Option β}(h:o=some a)(k:f a=x):o.bind f=x:=h▸k
@[elab_as_elim] theorem jc{α:Type}{o:Option α}{k:α->β}{P:β->Prop}(h:o.map k=some r)(f:∀a,o=some a->P (k a)):P r:=by
 cases o with
 |none=>exact nn h
 |some a=>exact bT h▸f a rfl
@[elab_as_elim] theorem fU{a:β}{P:β->Prop}(h:some a=some r)(f:P a):P r:=bT h▸f
theorem cf{c:Prop}[Decidable c]{a:Option β}(h:(if c then a else none)=some r)(k:c->a=some r->G):G:=by
 by_cases q:c
 ·exact k q ((if_pos q).symm.trans h)
 ·exact nn ((if_neg q).symm.trans h)
theorem mi{c:Prop}[Decidable c]{f:c->Option β}(h:dite c f (λY=>none)=some r)(k:∀q,f q=some r->G):G:=by
 by_cases q:c
 ·exact k q ((dif_pos q).symm.trans h)
 ·exact nn ((dif_neg q).symm.trans h)
noncomputable def eA(a b:Option β):Option β:=match a with
 |some x=>some x
 |none=>b
theorem fj{a b:Option β}(h:eA a b=some r)(k:a=some r->G)(H:b=some r->G):G:=by
 cases a with
 |none=>exact H h
 |some a=>exact k h
theorem bg{α:Type}{m:M α}{f:α->M β}{σ σ':AH}(h:m.bw f σ=some (r,σ'))(k:∀a aD,m σ=some (a,aD)->f a aD=some (r,σ')->G):G:=by
 unfold M.bw at h
 cases e:m σ with
 |none=>rw [e] at h;exact nn h
 |some p=>rw [e] at h;exact k p.1 p.2 e h
@[elab_as_elim] theorem bX{P:β->AH->Prop}{a b:β}{σ σ':AH}(h:some (a,σ)=some (b,σ'))(k:P a σ):P b σ':=by cases h;exact k
@[elab_as_elim] theorem pairE{P:β->AH->Prop}{o:Option β}{σ σ':AH}(h:(o.map λv=>(v,σ))=some (r,σ'))(k:∀v,o=some v->P v σ):P r σ':=by
 cases o with
 |none=>exact nn h
 |some v=>exact bX h (k v rfl)
@[elab_as_elim] theorem yF{P:Bool->AH->Prop}{a b:Bool}{σ σ':AH}(h:some (V.bool a,σ)=some (V.bool b,σ'))(k:P a σ):P b σ':=by cases h;exact k
noncomputable def vB(v:V)(k:Bool->Option β):Option β:=if q:v.ctorIdx=1 then V.bool.elim (motive_1:=λY=>Option β) v q k else none
theorem kP{v:V}{k}(h:vB v k=some r)(f:∀a,v=.bool a->k a=some r->G):G:=mi h λq h=>V.bool.elim (motive_1:=λv=>∀q,V.bool.elim (motive_1:=λY=>Option β) v q k=some r->(∀a,v=.bool a->k a=some r->G)->G) v q (λa Y h f=>f a rfl h) q h f
noncomputable def vI(v:V)(k:Int->Option β):Option β:=if q:v.ctorIdx=2 then V.int.elim (motive_1:=λY=>Option β) v q k else none
theorem rE{v:V}{k}(h:vI v k=some r)(f:∀a,v=.int a->k a=some r->G):G:=mi h λq h=>V.int.elim (motive_1:=λv=>∀q,V.int.elim (motive_1:=λY=>Option β) v q k=some r->(∀a,v=.int a->k a=some r->G)->G) v q (λa Y h f=>f a rfl h) q h f
noncomputable def vS(v:V)(k:bu->Option β):Option β:=if q:v.ctorIdx=3 then V.str.elim (motive_1:=λY=>Option β) v q k else none
theorem Qf{v:V}{k}(h:vS v k=some r)(f:∀a,v=.str a->k a=some r->G):G:=mi h λq h=>V.str.elim (motive_1:=λv=>∀q,V.str.elim (motive_1:=λY=>Option β) v q k=some r->(∀a,v=.str a->k a=some r->G)->G) v q (λa Y h f=>f a rfl h) q h f
noncomputable def rD(v:V)(k:Array UInt8->Option β):Option β:=if q:v.ctorIdx=4 then V.bytes.elim (motive_1:=λY=>Option β) v q k else none
theorem P6{v:V}{k}(h:rD v k=some r)(f:∀a,v=.bytes a->k a=some r->G):G:=mi h λq h=>V.bytes.elim (motive_1:=λv=>∀q,V.bytes.elim (motive_1:=λY=>Option β) v q k=some r->(∀a,v=.bytes a->k a=some r->G)->G) v q (λa Y h f=>f a rfl h) q h f
noncomputable def vT(v:V)(k:List V->Option β):Option β:=if q:v.ctorIdx=5 then V.tup.elim (motive_1:=λY=>Option β) v q k else none
theorem v8{v:V}{k}(h:vT v k=some r)(f:∀a,v=.tup a->k a=some r->G):G:=mi h λq h=>V.tup.elim (motive_1:=λv=>∀q,V.tup.elim (motive_1:=λY=>Option β) v q k=some r->(∀a,v=.tup a->k a=some r->G)->G) v q (λa Y h f=>f a rfl h) q h f
noncomputable def vR(v:V)(k:Nat->Option β):Option β:=if q:v.ctorIdx=6 then V.ref.elim (motive_1:=λY=>Option β) v q k else none
theorem p8{v:V}{k}(h:vR v k=some r)(f:∀a,v=.ref a->k a=some r->G):G:=mi h λq h=>V.ref.elim (motive_1:=λv=>∀q,V.ref.elim (motive_1:=λY=>Option β) v q k=some r->(∀a,v=.ref a->k a=some r->G)->G) v q (λa Y h f=>f a rfl h) q h f
noncomputable def cL(v:AC)(k:List V->Option β):Option β:=if q:v.ctorIdx=0 then AC.list.elim (motive:=λY=>Option β) v q k else none
theorem Jz{v:AC}{k}(h:cL v k=some r)(f:∀a,v=.list a->k a=some r->G):G:=mi h λq h=>AC.list.elim (motive:=λv=>∀q,AC.list.elim (motive:=λY=>Option β) v q k=some r->(∀a,v=.list a->k a=some r->G)->G) v q (λa Y h f=>f a rfl h) q h f
noncomputable def cI(v:AC)(k:List (Int×V)->Option β):Option β:=if q:v.ctorIdx=1 then AC.bQ.elim (motive:=λY=>Option β) v q k else none
theorem Jy{v:AC}{k}(h:cI v k=some r)(f:∀a,v=.bQ a->k a=some r->G):G:=mi h λq h=>AC.bQ.elim (motive:=λv=>∀q,AC.bQ.elim (motive:=λY=>Option β) v q k=some r->(∀a,v=.bQ a->k a=some r->G)->G) v q (λa Y h f=>f a rfl h) q h f
noncomputable def cS(v:AC)(k:List (bu×V)->Option β):Option β:=if q:v.ctorIdx=2 then AC.gX.elim (motive:=λY=>Option β) v q k else none
theorem Wr{v:AC}{k}(h:cS v k=some r)(f:∀a,v=.gX a->k a=some r->G):G:=mi h λq h=>AC.gX.elim (motive:=λv=>∀q,AC.gX.elim (motive:=λY=>Option β) v q k=some r->(∀a,v=.gX a->k a=some r->G)->G) v q (λa Y h f=>f a rfl h) q h f
noncomputable def cB(v:AC)(k:Array UInt8->Option β):Option β:=if q:v.ctorIdx=4 then AC.ba.elim (motive:=λY=>Option β) v q k else none
theorem Jx{v:AC}{k}(h:cB v k=some r)(f:∀a,v=.ba a->k a=some r->G):G:=mi h λq h=>AC.ba.elim (motive:=λv=>∀q,AC.ba.elim (motive:=λY=>Option β) v q k=some r->(∀a,v=.ba a->k a=some r->G)->G) v q (λa Y h f=>f a rfl h) q h f
noncomputable def cO(v:AC)(k:Nat->List (bu×V)->Option β):Option β:=if q:v.ctorIdx=3 then AC.obj.elim (motive:=λY=>Option β) v q k else none
theorem JA{v:AC}{k}(h:cO v k=some r)(f:∀C l,v=.obj C l->k C l=some r->G):G:=mi h λq h=>AC.obj.elim (motive:=λv=>∀q,AC.obj.elim (motive:=λY=>Option β) v q k=some r->(∀C l,v=.obj C l->k C l=some r->G)->G) v q (λC l Y h f=>f C l rfl h) q h f
variable {σ:AH}{n:Nat}
noncomputable def ie(σ:AH)(n:Nat)(k:List V->Option β):Option β:=(σ[n]?).bind λc=>cL c k
theorem jr{k}(h:ie σ n k=some r)(f:∀l,σ[n]?=some (.list l)->k l=some r->G):G:=dz h λY e h=>Jz h λl q h=>f l (q▸e) h
noncomputable def sf(σ:AH)(n:Nat)(k:List (Int×V)->Option β):Option β:=(σ[n]?).bind λc=>cI c k
theorem uN{k}(h:sf σ n k=some r)(f:∀l,σ[n]?=some (.bQ l)->k l=some r->G):G:=dz h λY e h=>Jy h λl q h=>f l (q▸e) h
noncomputable def zQ(σ:AH)(n:Nat)(k:Array UInt8->Option β):Option β:=(σ[n]?).bind λc=>cB c k
theorem Dj{k}(h:zQ σ n k=some r)(f:∀l,σ[n]?=some (.ba l)->k l=some r->G):G:=dz h λY e h=>Jx h λl q h=>f l (q▸e) h
noncomputable def uO(σ:AH)(n:Nat)(k:Nat->List (bu×V)->Option β):Option β:=(σ[n]?).bind λc=>cO c k
theorem wR{k}(h:uO σ n k=some r)(f:∀C l,σ[n]?=some (.obj C l)->k C l=some r->G):G:=dz h λY e h=>JA h λC l q h=>f C l (q▸e) h
end
noncomputable def yi(a b:Int):Bool:=!(decide (eF a>shortFactorBits)&&decide (eF b>shortFactorBits)&&Builtin.Int.intTooBig (eF a+eF b))
noncomputable def intOp(O:nW)(x y:Int):Option Int:=match O with
 |.Add=>some (x+y)
 |.Sub=>some (x- y)
 |.Mult=>if yi x y then some (x*y) else none
 |.MatMult=>none
 |.Div=>none
 |.Mod=>if 0<y then some (x.fmod y) else none
 |.Pow=>if 0<=y/\y<=1000/\x.natAbs<2^64 then some (x^y.toNat) else none
 |.LShift=>if 0<=y/\y<=1000/\x.natAbs<2^64 then some (x*2^y.toNat) else none
 |.RShift=>if 0<=y then some (x.fdiv (2^y.toNat)) else none
 |.BitOr=>some (CO x y)
 |.BitXor=>none
 |.BitAnd=>some (ul x y)
 |.FloorDiv=>if 0<y/\y<1073741824 then some (x.fdiv y) else none
noncomputable def oq(c:AC):M V:=λσ=>some (.ref σ.length,σ++[c])
noncomputable def most:Nat:=1000
noncomputable def ou(O:nW)(x y:Int):M V:=λσ=>(intOp O x y).map λz=>(.int z,σ)
noncomputable def kZ(O:nW)(a b:V):M V:=λσ=>eA (vI a λx=>vI b λy=>ou O x y σ)
 (eA (vR a λm=>ie σ m λl=>eA (vR b λn=>ie σ n λl'=>if O=.Add/\l.length+l'.length<=most then oq (.list (l++l')) σ else none)
  (vI b λk=>if O=.Mult/\l.length*k.toNat<=most/\ -1000<=k/\k<=1000 then oq (.list (dO k.toNat l).flatten) σ else none))
 (rD a λH=>vI b λk=>if O=.Mult/\0<H.size/\H.size<=16/\ -1000<=k/\k<=1000 then some (.bytes (dO k.toNat H.toList).flatten.toArray,σ) else none))
noncomputable def nu{α:Type}(f:α->α->Option Bool):List α->List α->Option Bool
 |a::l,b::l'=>(f a b).bind λx=>(nu f l l').map λy=>x&&y
 |[],_=>some true
 |_::_,[]=>some true
noncomputable def jy(l:List (Int×V))(k:Int):Option V:=(l.find? λp=>p.1==k).map (·.2)
noncomputable def pY(l:List (bu×V))(k:bu):Option V:=(l.find? λp=>p.1==k).map (·.2)
noncomputable def iQ(l:List (Int×V))(k:Int)(v:V):List (Int×V):=match l with
 |[]=>[(k,v)]
 |(H,v')::r=>if H=k then(H,v)::r else(H,v')::iQ r k v
noncomputable def jZ(l:List (bu×V))(k:bu)(v:V):List (bu×V):=match l with
 |[]=>[(k,v)]
 |(H,v')::r=>if H=k then(H,v)::r else(H,v')::jZ r k v
noncomputable def nv(l l':List (Int×V)):Option Bool:=
 if l.length=l'.length then go l else some false
where go:List (Int×V)->Option Bool
 |[]=>some true
 |(k,v)::r=>match jy l' k with
  |none=>some false
  |some v'=>vI v λa=>vI v' λb=>(go r).map (decide (a=b)&& ·)
noncomputable def xr(f:V->V->Option Bool)(σ:AH)(x y:Nat):Option Bool:=eA (ie σ x λl=>ie σ y λl'=>if l.length=l'.length then nu f l l' else some false) (sf σ x λl=>sf σ y λl'=>nv l l')
noncomputable def xw(a b:V):Option Bool:=match a with
 |.none=>if b.ctorIdx=0 then some true else none
 |.bool a=>vB b λb=>some (a==b)
 |.int a=>vI b λb=>some (a==b)
 |.str a=>vS b λb=>some (decide (a=b))
 |.bytes a=>rD b λb=>some (a.toList==b.toList)
 |.tup _=>none
 |.ref _=>none
 |.st _=>none
noncomputable def su(a b:V):Option Bool:=eA (xw a b) (vT a λl=>vT b λl'=>(nu xw l l').map (· &&l.length==l'.length))
noncomputable def i8:Nat->AH->V->V->Option Bool
 |0,_,a,b=>su a b
 |n+1,σ,a,b=>eA (su a b) (vR a λx=>vR b λy=>if x=y then some true else xr (i8 n σ) σ x y)
noncomputable def qU(a:V):List V->Option Bool
 |[]=>some false
 |b::l=>(su b a).bind λx=>(qU a l).map λy=>x||y
noncomputable def isNone(v:V):Option Bool:=match v with
 |.none=>some true
 |.int _=>some false
 |.ref _=>some false
 |.tup _=>some false
 |.bool _=>none
 |.str _=>none
 |.bytes _=>none
 |.st _=>none
noncomputable def sq(σ:AH)(a b:V):Option Bool:=eA (su a b) (vR a λx=>vR b λy=>if x≠y then xr (i8 3 σ) σ x y else none)
noncomputable def EQ(b:V)(a:V):Option Bool:=if b.ctorIdx=0 then isNone a else none
noncomputable def JR(O:CmpOp)(x y:Int):Option Bool:=match O with
 |.Lt=>some (decide (x<y))
 |.LtE=>some (decide (x<=y))
 |.Gt=>some (decide (x>y))
 |.GtE=>some (decide (x>=y))
 |.Eq=>none
 |.NotEq=>none
 |.Is=>none
 |.IsNot=>none
 |.In=>none
 |.NotIn=>none
noncomputable def xg(O:CmpOp)(a b:V):Option Bool:=vI a λx=>vI b λy=>JR O x y
noncomputable def dX(O:CmpOp)(a b:V)(σ:AH):Option Bool:=match O with
 |.Eq=>sq σ a b
 |.NotEq=>(sq σ a b).map not
 |.Lt=>xg .Lt a b
 |.LtE=>xg .LtE a b
 |.Gt=>xg .Gt a b
 |.GtE=>xg .GtE a b
 |.Is=>EQ b a
 |.IsNot=>(EQ b a).map not
 |.In=>vT b λl=>qU a l
 |.NotIn=>eA (vT b λl=>(qU a l).map not) (vR b λn=>ie σ n λl=>(qU a l).map not)
noncomputable def idx(k:Int)(n:Nat):Option Nat:=if 0<=k/\k<n then some k.toNat else if k<0/\ -(n:Int)<=k then some (k+n).toNat else none
noncomputable def u8(b:UInt8):V:=.int b.toNat
noncomputable def ly(front:Bool)(a k:V):M V:=λσ=>vR a λm=>vI k λk=>(nI σ m).bind λl=>if(-1000000<=k/\k<=1000000)/\l.length<=most then oq (.list (if front then l.take (clipAt l.length k) else l.drop (clipAt l.length k))) σ else none
noncomputable def Np:List (Nat×lR×Nat):=[(154,5,130),(154,6,144),(154,7,151),(238,5,228),(238,8,235),(294,5,256),(294,8,263),(294,9,270),(294,10,277),(294,11,284),(294,12,291),(352,5,314),(352,13,328),(352,14,335),(352,15,342),(352,16,349),(464,5,398),(464,17,405),(464,18,412),(464,19,419),(464,20,426),(464,21,433),(464,22,440),(464,23,447),(464,24,461),(104,5,80),(3895,5,3864),(3895,20,3871),(3895,21,3878),(3895,22,3885),(3895,23,3892),(4021,5,3913),(4021,34,3934),(4021,35,3941),(4021,36,3948),(4021,37,3955),(4021,38,3962),(4021,39,3969),(4021,40,3976),(4021,41,3990),(4021,42,3997),(4021,43,4004),(4021,44,4011),(4021,25,3787),(4021,26,3794),(4021,27,3801),(4021,28,3808),(4021,29,3815),(4021,30,3822),(4021,31,3829),(4021,32,3836),(4021,33,3843)]
noncomputable def oQ(C:Nat)(m:lR):Option Nat:=(Np.find? λr=>dP r.1 C&&dP r.2.1.val m.val).map (·.2.2)
noncomputable def DC:List Nat:=[104,154,238,294,352,464,3895,4021]
noncomputable def D3:List bu:=[0,1,2,3,4,5,6,7,8,9,10,11,12,13,14,15,16,17,18,19,21,22,23,24,25,26,27,28,29,30,31,32,33,34]
noncomputable def ny(C:Nat)(x:bu):Bool:=(D3.contains x&&DC.contains C)||(C==294&&x==20)
noncomputable def vL(v:V):Bool:=!Nat.beq v.ctorIdx 7
noncomputable def AE(r:V)(x:bu):M V:=λσ=>vR r λn=>uO σ n λC l=>(pY l x).bind λv=>if(ny C x&&vL v)=true then some (v,σ) else none
noncomputable def BJ(r:V)(x:bu)(v:V):M Unit:=λσ=>vR r λn=>uO σ n λC l=>if(ny C x&&vL v&&lI l.length 1000)=true then some ((),σ.set n (.obj C (jZ l x v))) else none
noncomputable def OB(i:Int):V:=.int (BB (16*i+8))
noncomputable def am(φ:bK)(a:Nat)(l:List V):M V:=λσ=>(φ a).bind λf=>f l σ
noncomputable def Bs(l:List V)(k:Int):Option V:=if l.length<=most then(idx k l.length).bind λj=>l[j]? else none
noncomputable def cP(φ:bK)(a i:V):M V:=λσ=>eA (vR a λm=>eA (vI i λk=>eA (ie σ m λl=>(Bs l k).map λv=>(v,σ)) (eA (sf σ m λl=>(jy l k).map λv=>(v,σ)) (uO σ m λC Y=>if C=104 then am φ 94 [.ref m,.int k] σ else none)))
  (vS i λx=>(σ[m]?).bind λc=>cS c λl=>(pY l x).map λv=>(v,σ)))
 (vI i λk=>eA (vT a λl=>(Bs l k).map λv=>(v,σ)) (rD a λb=>if b.size<=most/\0<=k/\k<b.size then some (u8 (b.toList.getD k.toNat 0),σ) else none))
noncomputable def B5(r:Option (V×AH)):Option (Unit×AH):=r.bind λp=>if p.1.ctorIdx=0 then some ((),p.2) else none
noncomputable def pU(φ:bK)(a i v:V):M Unit:=λσ=>vR a λm=>vI i λk=>eA (ie σ m λl=>if l.length<=most then(idx k l.length).map λj=>((),σ.set m (.list (l.set j v))) else none)
 (eA (sf σ m λl=>if l.length<=most then some ((),σ.set m (.bQ (iQ l k v))) else none) (uO σ m λC Y=>if C=104 then B5 (am φ 101 [.ref m,.int k,v] σ) else none))
noncomputable def sM:List V->Option (List Int)
 |[]=>some []
 |v::l=>vI v λi=>(sM l).map (i:: ·)
noncomputable def a1{β:Type}(l:List V)(k:V->Option β):Option β:=match l with
 |[]=>none
 |a::r=>match r with
  |[]=>k a
  |_::_=>none
noncomputable def a2{β:Type}(l:List V)(k:V->V->Option β):Option β:=match l with
 |[]=>none
 |a::r=>a1 r (k a)
theorem I6{β:Type}{l:List V}{k}{r:β}{G:Prop}(h:a1 l k=some r)(f:∀a,l=[a]->k a=some r->G):G:=by
 cases l with
 |nil=>exact nn h
 |cons a t=>cases t with
  |nil=>exact f a rfl h
  |cons _ _=>exact nn h
theorem U6{β:Type}{l:List V}{k}{r:β}{G:Prop}(h:a2 l k=some r)(f:∀a b,l=[a,b]->k a b=some r->G):G:=by
 cases l with
 |nil=>exact nn h
 |cons a t=>exact I6 h λb e=>f a b (e▸rfl)
noncomputable def fk(p:qA)(l:List V):M V:=λσ=>match p with
 |.abs=>a1 l λv=>vI v λx=>some (.int (if x<0 then-x else x),σ)
 |.jU=>a1 l λv=>vB v λb=>some (.int (if b then 1 else 0),σ)
 |.len=>a1 l λv=>eA (vR v λn=>ie σ n λl=>if l.length<=most then some (.int l.length,σ) else none) (eA (vT v λl=>if l.length<=most then some (.int l.length,σ) else none) (rD v λb=>if b.size<=most then some (.int b.size,σ) else none))
 |.isInt=>a1 l λv=>vI v λY=>some (.bool true,σ)
 |.isBool=>a1 l λv=>vI v λY=>some (.bool false,σ)
 |.vA=>a1 l λv=>vT v λY=>some (.bool true,σ)
 |.qV=>a1 l λv=>vR v λn=>eA (ie σ n λY=>some (.bool false,σ)) (uO σ n λC Y=>if C=104 then some (.bool true,σ) else none)
 |.max2=>a2 l λa b=>vI a λa=>vI b λb=>some (.int (if b>a then b else a),σ)
 |.min2=>a2 l λa b=>vI a λa=>vI b λb=>some (.int (if b<a then b else a),σ)
 |.sum=>a1 l λv=>vR v λn=>ie σ n λl=>(sM l).map λxs=>(.int xs.sum,σ)
 |.bytesOf=>a1 l λv=>vR v λn=>eA (ie σ n λl=>(sM l).bind λxs=>if l.length<=most/\∀n∈xs,0<=n/\n<256 then some (.bytes (byteArr xs),σ) else none) (zQ σ n λb=>if b.size<=10000 then some (.bytes b,σ) else none)
 |.q8=>match l with
  |[]=>oq (.ba #[]) σ
  |_::_=>none
 |.listOf=>a1 l λv=>eA (vT v λl=>if l.length<=most then oq (.list l) σ else none) (vR v λn=>ie σ n λl=>if l.length<=most then oq (.list l) σ else none)
noncomputable def Ja(n:Nat)(vs:List V):M V:=λσ=>ie σ n λxs=>a1 vs λv=>if xs.length<=most then some (.none,σ.set n (.list (xs++[v]))) else none
noncomputable def getD(n:Nat)(vs:List V):M V:=λσ=>sf σ n λxs=>a2 vs λk d=>vI k λk=>some ((jy xs k).getD d,σ)
noncomputable def I9(n:Nat)(vs:List V):M V:=λσ=>zQ σ n λb=>a1 vs λc=>vI c λc=>if 0<=c/\c<=255/\b.size<=10000 then some (.none,σ.set n (.ba (b.push (qq c.toNat)))) else none
noncomputable def K2(n:Nat)(vs:List V):M V:=λσ=>zQ σ n λb=>a1 vs λx=>rD x λx=>if b.size+x.size<=10000 then some (.none,σ.set n (.ba (b++x))) else none
noncomputable def VU(x:Int)(vs:List V):M V:=λσ=>match vs with
 |[]=>some (.int (eF x),σ)
 |_::_=>none
noncomputable def iS(φ:bK)(x:V)(m:lR)(args:M (List V)):M V:=λσ=>eA (vR x λn=>(σ[n]?).bind λc=>eA (cO c λC H=>if(H.all λp=>ny C p.1)=true then(oQ C m).bind λa=>(args.bw λvs=>am φ a (.ref n::vs)) σ else none)
  (eA (cL c λY=>if m=0 then(args.bw λvs=>Ja n vs) σ else none)
  (eA (cI c λY=>if m=3 then(args.bw λvs=>getD n vs) σ else none)
  (cB c λY=>eA (if m=0 then(args.bw λvs=>I9 n vs) σ else none) (if m=2 then(args.bw λvs=>K2 n vs) σ else none)))))
 (vI x λk=>if m=4 then(args.bw λvs=>VU k vs) σ else none)
noncomputable def mu(φ:bK)(C:Nat)(l:List V):M V:=λσ=>(oQ C 5).bind λa=>(B5 (am φ a (.ref σ.length::l) (σ++[.obj C []]))).map λp=>(.ref σ.length,p.2)
noncomputable def iE(x:Int):Bool:=decide (x.natAbs<1099511627776)
noncomputable def eV(a b:Int):List V:=(bV (b- a).toNat).map λ(i:Nat)=>.int (a+i*1)
noncomputable def lr(a b:Int):List V:=(bV (a- b).toNat).map λ(i:Nat)=>.int (a+i*(-1))
inductive Src where
 |lst (l:List V)
 |live (n:Nat)
 |gv (n:Nat)
 |keys (n:Nat) (len:Nat)
noncomputable def Src.jf(σ:AH)(i:Nat):Src->Option (Option V)
 |.lst l=>some l[i]?
 |.live n=>(nI σ n).map λl=>l[i]?
 |.gv n=>ie σ n λl=>some ((l[i]?).map λv=>.tup [.int i,v])
 |.keys n H=>sf σ n λl=>if l.length=H then some ((l[i]?).map λp=>.int p.1) else none
noncomputable def Src.sC(σ:AH):Src->Nat
 |.lst l=>l.length+1
 |.live n=>((nI σ n).map λl=>l.length+1).getD 0
 |.gv n=>(ie σ n λl=>some (l.length+1)).getD 0
 |.keys _ H=>H+1
noncomputable def gT(src:Src)(f:V->M V)(c:Option (V->M V)):Nat->Nat->List V->M (List V)
 |0,_,_=>M.no
 |k+1,i,acc=>λσ=>(src.jf σ i).bind λo=>match o with
  |none=>some (acc,σ)
  |some v=>match c with
   |none=>((f v).bw λy=>gT src f c k (i+1) (acc++[y])) σ
   |some t=>((t v).bw λb σ=>vB b λb=>match b with
    |true=>((f v).bw λy=>gT src f c k (i+1) (acc++[y])) σ
    |false=>gT src f c k (i+1) acc σ) σ
noncomputable def Aa(src:Src)(f:V->M V)(c:Option (V->M V)):M V:=λσ=>((gT src f c (src.sC σ) 0 []).bw λvs=>λσ=>if vs.length<=most then oq (.list vs) σ else none) σ
noncomputable def FY(vs:List V):Option Src:=match vs with
 |[]=>none
 |a::r=>vI a λa=>match r with
  |[]=>if iE a=true then some (.lst (eV 0 a)) else none
  |b::r=>vI b λb=>match r with
   |[]=>if(iE a&&iE b)=true then some (.lst (eV a b)) else none
   |c::r=>match r with
    |[]=>vI c λc=>if(c== -1&&iE a&&iE b)=true then some (.lst (lr a b)) else none
    |_::_=>none
noncomputable def Pn(n:Nat)(c:AC):Option Src:=match c with
 |.list _=>some (.live n)
 |.jT _ _=>some (.live n)
 |.bQ l=>some (.keys n l.length)
 |.gX _=>none
 |.obj _ _=>none
 |.ba _=>none
mutual
noncomputable def xe(φ:bK)(ρ:bc):XE->M V
 |.var i=>λσ=>((ρ[i]?).join).map λv=>(v,σ)
 |.const v=>M.ret v
 |.bin O a b=>(xe φ ρ a).bw λx=>(xe φ ρ b).bw λy=>kZ O x y
 |.neg a=>(xe φ ρ a).bw λx σ=>vI x λk=>some (.int (-k),σ)
 |.eI a=>(xe φ ρ a).bw λx σ=>vB x λb=>some (.bool (!b),σ)
 |.aw a b=>(xe φ ρ a).bw λx σ=>vB x λt=>match t with|true=>xe φ ρ b σ|false=>some (.bool false,σ)
 |.dD a b=>(xe φ ρ a).bw λx σ=>vB x λt=>match t with|true=>some (.bool true,σ)|false=>xe φ ρ b σ
 |.bj t a b=>(xe φ ρ t).bw λx σ=>vB x λt=>match t with|true=>xe φ ρ a σ|false=>xe φ ρ b σ
 |.cmp O a b=>(xe φ ρ a).bw λx=>(xe φ ρ b).bw λy=>λσ=>(dX O x y σ).map λr=>(.bool r,σ)
 |.k8 O H a b c=>(xe φ ρ a).bw λx=>(xe φ ρ b).bw λy=>λσ=>(dX O x y σ).bind λt=>match t with
  |true=>((xe φ ρ c).bw λz=>λσ=>(dX H y z σ).map λr=>(.bool r,σ)) σ
  |false=>some (.bool false,σ)
 |.tup l=>(xl φ ρ l).bw λvs σ=>if vs.length<=most then some (.tup vs,σ) else none
 |.list l=>(xl φ ρ l).bw λvs σ=>if vs.length<=most then oq (.list vs) σ else none
 |.oA=>oq (.bQ [])
 |.dict J l=>(xl φ ρ l).bw λvs σ=>if J.length=vs.length then oq (.gX (J.zip vs)) σ else none
 |.attr e x=>(xe φ ρ e).bw λo=>AE o x
 |.sub a i=>(xe φ ρ a).bw λx=>(xe φ ρ i).bw λy=>cP φ x y
 |.rows i=>(xe φ ρ i).bw λx σ=>vI x λk=>if 0<=k/\k<128 then some (OB k,σ) else none
 |.sliceTo a k=>(xe φ ρ a).bw λx=>(xe φ ρ k).bw λy=>ly true x y
 |.sliceFrom a k=>(xe φ ρ a).bw λx=>(xe φ ρ k).bw λy=>ly false x y
 |.fn a l=>(xl φ ρ l).bw λvs=>am φ a vs
 |.cls C l=>(xl φ ρ l).bw λvs=>mu φ C vs
 |.prim p l=>(xl φ ρ l).bw λvs=>fk p vs
 |.aZ o m l=>(xe φ ρ o).bw λx=>iS φ x m (xl φ ρ l)
 |.comp i e it=>(xi φ ρ it).bw λsrc=>Aa src (λv=>xe φ (ρ.set i (some v)) e) none
 |.nt i e it c=>(xi φ ρ it).bw λsrc=>Aa src (λv=>xe φ (ρ.set i (some v)) e) (some λv=>xe φ (ρ.set i (some v)) c)
noncomputable def xl(φ:bK)(ρ:bc):XL->M (List V)
 |.nil=>M.ret []
 |.cons e l=>(xe φ ρ e).bw λv=>(xl φ ρ l).bw λvs=>M.ret (v::vs)
noncomputable def xi(φ:bK)(ρ:bc):XI->M Src
 |.range l=>(xl φ ρ l).bw λvs σ=>(FY vs).map λs=>(s,σ)
 |.gv e=>(xe φ ρ e).bw λv σ=>vR v λn=>ie σ n λY=>some (.gv n,σ)
 |.val e=>(xe φ ρ e).bw λv σ=>eA (vR v λn=>(σ[n]?).bind λc=>(Pn n c).map λs=>(s,σ)) (vT v λl=>some (.lst l,σ))
end
inductive Fl where
 |next|cont|ret (v:V)
noncomputable def PY(v:V)(n:Nat):M (List V):=λσ=>vT v λl=>if l.length=n then some (l,σ) else none
noncomputable def jF:List Nat->List V->bc->bc
 |[],_,ρ=>ρ
 |i::is,l,ρ=>match l with
  |[]=>ρ
  |v::vs=>jF is vs (ρ.set i (some v))
noncomputable def xt(φ:bK)(t:XT)(v:V)(ρ:bc):M bc:=match t with
 |.var i=>M.ret (ρ.set i (some v))
 |.tup l=>(PY v l.length).bw λvs=>M.ret (jF l vs ρ)
 |.attr o x=>(xe φ ρ o).bw λH=>(BJ H x v).bw λY=>M.ret ρ
 |.sub o i=>(xe φ ρ o).bw λH=>(xe φ ρ i).bw λJ=>(pU φ H J v).bw λY=>M.ret ρ
noncomputable def mj(φ:bK)(src:Src)(t:XT)(body:bc->M (Fl×bc)):Nat->Nat->bc->M (Fl×bc)
 |0,_,_=>M.no
 |k+1,i,ρ=>λσ=>(src.jf σ i).bind λo=>match o with
  |none=>some ((.next,ρ),σ)
  |some v=>((xt φ t v ρ).bw λaV=>(body aV).bw λr=>match r.1 with
   |.ret v=>M.ret (.ret v,r.2)
   |.next=>mj φ src t body k (i+1) r.2
   |.cont=>mj φ src t body k (i+1) r.2) σ
noncomputable def rG(c:bc->M V)(body:bc->M (Fl×bc)):Nat->bc->M (Fl×bc)
 |0,_=>M.no
 |k+1,ρ=>(c ρ).bw λb σ=>vB b λb=>match b with
  |true=>((body ρ).bw λr=>match r.1 with
   |.ret v=>M.ret (.ret v,r.2)
   |.next=>rG c body k r.2
   |.cont=>rG c body k r.2) σ
  |false=>some ((.next,ρ),σ)
noncomputable def Pu(v:V)(ρ:bc)(σ:AH):Option ((Fl×bc)×AH):=eA (if v.ctorIdx=0 then some ((.next,ρ),σ) else none) (vI v λY=>some ((.next,ρ),σ))
mutual
noncomputable def xs(φ:bK):XS->bc->M (Fl×bc)
 |.expr e,ρ=>(xe φ ρ e).bw λv σ=>Pu v ρ σ
 |.assign t e,ρ=>(xe φ ρ e).bw λv=>(xt φ t v ρ).bw λaV=>M.ret (.next,aV)
 |.sj i O e,ρ=>(xe φ ρ (.var i)).bw λx=>(xe φ ρ e).bw λy σ=>vI x λx=>vI y λy=>(ou O x y σ).bind λz=>some ((.next,ρ.set i (some z.1)),z.2)
 |.g9 o x O e,ρ=>(xe φ ρ o).bw λH=>(AE H x).bw λa=>(xe φ ρ e).bw λb σ=>vI a λa=>vI b λb=>((ou O a b).bw λz=>(BJ H x z).bw λY=>M.ret (.next,ρ)) σ
 |.bj c a b,ρ=>(xe φ ρ c).bw λv σ=>vB v λt=>match t with|true=>xb φ a ρ σ|false=>xb φ b ρ σ
 |.loop t it b,ρ=>(xi φ ρ it).bw λsrc=>λσ=>mj φ src t (λρ=>xb φ b ρ) (src.sC σ) 0 ρ σ
 |.while c b,ρ=>rG (λρ=>xe φ ρ c) (λρ=>xb φ b ρ) 200 ρ
 |.ret e,ρ=>(xe φ ρ e).bw λv=>M.ret (.ret v,ρ)
 |.lu,ρ=>M.ret (.ret .none,ρ)
 |.cont,ρ=>M.ret (.cont,ρ)
 |.bad,_=>M.no
noncomputable def xb(φ:bK):XB->bc->M (Fl×bc)
 |.nil,ρ=>M.ret (.next,ρ)
 |.cons s b,ρ=>(xs φ s ρ).bw λr=>match r.1 with
  |.next=>xb φ b r.2
  |.cont=>M.ret r
  |.ret _=>M.ret r
end
noncomputable def bq(φ:bK)(n:Nat)(b:XB)(args:List V):M V:=(xb φ b (args.map some++dO (n- args.length) none)).bw λr=>match r.1 with
 |.ret v=>M.ret v
 |.next=>M.ret .none
 |.cont=>M.no
end
section
structure Ok(A:cu)(d:Nat):Prop where
 hn:A.handled=none
 gu:A.guards=some []
 xn:A.depth+d<=990
 yP:A.units+8*d<=9000
theorem Ok.le(x:Ok A d)(h:d'<=d):Ok A d':=⟨x.hn,x.gu,bo (Cn h _) x.xn,bo (Cn (Nat.mul_le_mul_left 8 h) _) x.yP⟩
theorem Ok.u(x:Ok A d):A.units<9700:=wh (bo (ki _ _) x.yP) ∅
noncomputable def fS(env:Env):List Nat:=env.locals::env.cells.map (·.2)
structure cV(S:bF)(nm:List Str)(env:Env)(W:Wd)(σ:AH)(ρ:bc)(s:aj):Prop where
 sc:env.scope=S
 kind:S.kind=.function
 gl:env.globals=mainGlobals
 bl:env.builtins=builtinsNs
 ns:∃m,s.heap.Ns env.locals m/\∀(i:Nat) (x:Str) (v:V),nm[i]?=some x->S.names.lookup x=some .local->ρ[i]?=some (some v)->∃u,m x=some u/\R s.heap W σ.length v u
 cell:∀(i:Nat) (x:Str) (v:V),nm[i]?=some x->(S.names.lookup x=some .cell)->ρ[i]?=some (some v)->∃c u,env.cells.lookup x=some c/\s.heap.IsCell c (some u)/\R s.heap W σ.length v u
 cells:∀(x:Str),S.names.lookup x=some .cell->∃c v,env.cells.lookup x=some c/\s.heap.IsCell c v
 gW:∀a∈fS env,4138<=a/\Lv s.heap a/\∀n,n<σ.length->a≠W.π n/\a≠W.δ n
 nodup:(fS env).Nodup
theorem mem_lookup{α:Type}:∀{l:List (Str×α)} {x:Str} {c:α},l.lookup x=some c->(x,c)∈l
 |(y,d)::r,x,c,h=>by
  unfold Iz at h
  cases q:x==y with
  |true=>rw [q] at h;exact eq_of_beq q▸bT h▸gh
  |false=>rw [q] at h;exact ib _ (mem_lookup h)
theorem vJ(h:env.cells.lookup x=some c):c∈fS env:=ib _ (mQ (f:=(·.2)) (mem_lookup h))
section
variable {S:bF}{nm:List Str}{env:Env}{W W':Wd}{σ σ':AH}{ρ:bc}{s s':aj}
theorem cV.keep(X:cV S nm env W σ ρ s)(T:Step [] W σ s W' σ' s')(a:Nat)(H:a∈fS env)(o:Obj)(e:s.heap.get? a=some o):s'.heap.get? a=some o:=T.keep a o e (X.gW a H).2.2 (λh=>nomatch h)
theorem Step.apart{X:List Nat}(T:Step X W σ s W' σ' s')(h:Lv s.heap a)(O:∀n,n<σ.length->a≠W.π n/\a≠W.δ n)(n:Nat)(H:n<σ'.length):a≠W'.π n/\a≠W'.δ n:=
 (ux n σ.length).elim (λq=>(T.grow.pi n q).symm▸(T.grow.de n q).symm▸O n q) λq=>⟨λz=>(T.fresh n q H).1 (z▸h),λz=>(T.fresh n q H).2 (z▸h)⟩
theorem cV.carry(X:cV S nm env W σ ρ s)(k:∀a∈fS env,∀o,s.heap.get? a=some o->s'.heap.get? a=some o)(G:fy s.heap W σ.length s'.heap W' σ'.length)(V:∀a∈fS env,∀n,n<σ'.length->a≠W'.π n/\a≠W'.δ n):cV S nm env W' σ' ρ s':=by
 refine⟨X.sc,X.kind,X.gl,X.bl,?_,λi x v J O U=>?_,λx h=>?_,λa H=>⟨(X.gW a H).1,(X.gW a H).2.1.imp (k a H),V a H⟩,X.nodup⟩
 ·obtain⟨m,⟨o,es,ep,Y,Z⟩,hm⟩:=X.ns
  exact⟨m,⟨o,es,ep,k _ (gh ..) _ Y,Z⟩,λi x v J O U=>(hm i x v J O U).imp λu z=>⟨z.1,z.2.mono G⟩⟩
 ·obtain⟨c,u,a,⟨o,e,q⟩,b⟩:=X.cell i x v J O U
  exact⟨c,u,a,⟨o,k _ (vJ a) _ e,q⟩,b.mono G⟩
 ·obtain⟨c,v,a,⟨o,e,q⟩⟩:=X.cells x h
  exact⟨c,v,a,⟨o,k _ (vJ a) _ e,q⟩⟩
theorem cV.step(X:cV S nm env W σ ρ s)(T:Step [] W σ s W' σ' s'):cV S nm env W' σ' ρ s':=X.carry (X.keep T) T.grow λa H=>T.apart (X.gW a H).2.1 (X.gW a H).2.2
end
def KP(w:bz)(s₀:aj)(W:Wd)(σ:AH)(s:aj)(σ':AH)(v:V)(Q:af->aj->Prop):Prop:=
 ∀u s' W',St w s₀ W' σ' s'->Step [] W σ s W' σ' s'->R s'.heap W' σ'.length v u->Q u s'
theorem eS{w:bz}{s₀ s:aj}{W:Wd}{σ H σ':AH}{x v:V}{Q:af->aj->Prop}{G:Prop}(h:some (x,H)=some (v,σ'))(f:KP w s₀ W σ s H x Q->G)(k:KP w s₀ W σ s σ' v Q):G:=by cases h;exact f k
def KT(w:bz)(s₀:aj)(W:Wd)(σ:AH)(s:aj)(σ':AH)(Q:aj->Prop):Prop:=
 ∀s' W',St w s₀ W' σ' s'->Step [] W σ s W' σ' s'->Q s'
def aP(φ:bK)(d:Nat)(S:bF)(nm:List Str)(x:XE)(e:aG):Prop:=
 ∀⦃w:bz⦄ ⦃s₀:aj⦄ ⦃A:cu⦄ ⦃env:Env⦄ ⦃W:Wd⦄ ⦃σ:AH⦄ ⦃s:aj⦄ ⦃ρ:bc⦄ ⦃v:V⦄ ⦃σ':AH⦄ ⦃Q:af->aj->Prop⦄,Ok A d->St w s₀ W σ s->cV S nm env W σ ρ s->xe φ ρ x σ=some (v,σ')->KP w s₀ W σ s σ' v Q->
  ao (model aL w) A (eval e env) Q (λY Y=>False) s
def fY(φ:bK)(d:Nat)(S:bF)(nm:List Str)(x:XE)(e:aG):Prop:=
 ∀⦃w:bz⦄ ⦃s₀:aj⦄ ⦃A:cu⦄ ⦃env:Env⦄ ⦃W:Wd⦄ ⦃σ:AH⦄ ⦃s:aj⦄ ⦃ρ:bc⦄ ⦃b:Bool⦄ ⦃σ':AH⦄ ⦃Q:Bool->aj->Prop⦄,Ok A d->St w s₀ W σ s->cV S nm env W σ ρ s->xe φ ρ x σ=some (.bool b,σ')->KT w s₀ W σ s σ' (Q b)->
  ao (model aL w) A (isTrue e env (eval e env)) Q (λY Y=>False) s
section
variable {φ:bK}{d:Nat}{S:bF}{nm:List Str}{w:bz}{s₀:aj}{A:cu}{env:Env}{W aI:Wd}{σ aD σ':AH}{s s₁:aj}{ρ:bc}{v:V}{Q:af->aj->Prop}{u:af}
theorem KP.same(k:KP w s₀ W σ s σ v Q)(T:St w s₀ W σ s)(h:R s.heap W σ.length v u):Q u s:=k u s W T (Step.refl ..) h
theorem KP.tok(k:KP w s₀ W σ s σ v Q)(T:St w s₀ W σ s)(n:Nat)(h:R s.heap W σ.length v u):Q u {s with toks:=n}:=k u _ W (T.tok [] n).1 (T.tok [] n).2 h
theorem KP.from(k:KP w s₀ W σ s σ' v Q)(T:Step [] W σ s aI aD s₁):KP w s₀ aI aD s₁ σ' v Q:=λu s' W' a b c=>k u s' W' a (T.trans b) c
theorem KT.from{Q:aj->Prop}(k:KT w s₀ W σ s σ' Q)(T:Step [] W σ s aI aD s₁):KT w s₀ aI aD s₁ σ' Q:=λs' W' a b=>k s' W' a (T.trans b)
theorem zW(h:R s.heap W σ.length (.bool c) u):u=.bool c:=h
end
section
variable {φ:bK}{d:Nat}{S:bF}{nm:List Str}{env:Env}{W:Wd}{σ:AH}{ρ:bc}{s:aj}{w:bz}{A:cu}{Q:af->aj->Prop}
@[elab_as_elim] theorem Qj{P:AH->Prop}(h:xe φ ρ (.var i) σ=some (v,σ'))(k:ρ[i]?=some (some v)->P σ):P σ':=
 dz (k:=λv=>some (v,σ)) (HA▸h) λa e q=>bX (P:=λv σ'=>(ρ[i]?=some (some v)->P σ)->P σ') q (λk=>k (Option.join_eq_some_iff.mp e)) k
theorem Nb{i:Nat}{y:Str}{a:V}(Z:cV S nm env W σ ρ s)(U:nm[i]?=some y)(H:S.names.lookup y=some .local\/S.names.lookup y=some .cell)(hv:ρ[i]?=some (some a))
  (hQ:∀u,R s.heap W σ.length a u->Q u s):ao (model aL w) A (loadName env y) Q (λY Y=>False) s:=
 H.elim
  (λH=>by obtain⟨m,hm,hh⟩:=Z.ns;exact by obtain⟨u,J,O⟩:=hh i y a U H hv;exact up<|Cm (Z.sc▸Z.kind) (Z.sc▸H:) hm J (hQ u O))
  (λH=>by obtain⟨c,u,J,O,q3⟩:=Z.cell i y a U H hv;exact up<|S2 (Z.sc▸Z.kind) (Z.sc▸H:) J O (hQ u q3))
theorem ag6{i:Nat}{x:Str}{pos:Pos}(O:nm[i]?=some x)(H:S.names.lookup x=some .local\/S.names.lookup x=some .cell)(J:(x==("__debug__":Str))=false):aP φ d S nm (.var i) (.Name x pos):=by
 intro w s₀ A env W σ s ρ v σ' Q V T Z h
 exact Qj h λU k=>UK (Nb Z O H U λu r=>k.same T r) J
@[elab_as_elim] theorem vc{P:V->AH->Prop}(h:xe φ ρ (.const c) σ=some (v,σ'))(k:P c σ):P v σ':=bX h k
@[elab_as_elim] theorem JP{P:V->AH->Prop}(h:(o.map λr=>(V.bool r,σ))=some (v,σ'))(k:∀r,o=some r->P (.bool r) σ):P v σ':=by
 cases o with
 |none=>exact nn h
 |some r=>exact bX h (k r rfl)
@[elab_as_elim] theorem JO{P:Bool->AH->Prop}(h:(o.map λr=>(V.bool r,σ))=some (.bool b,σ'))(k:∀r,o=some r->P r σ):P b σ':=by
 cases o with
 |none=>exact nn h
 |some r=>exact yF h (k r rfl)
theorem agO:aP φ d S nm (.const (.int i)) (.Constant (.int i) k pos):=by
 intro w s₀ A env W σ s ρ v σ' Q V T Z h
 exact vc h λk=>up<|rT (k.tok T _ ⟨_,rfl⟩)
theorem ag1:aP φ d S nm (.const (.str x)) (.Constant (.str x.str) k pos):=by
 intro w s₀ A env W σ s ρ v σ' Q V T Z h
 exact vc h λk=>up<|Constant_str (k.tok T _ ⟨_,rfl⟩)
theorem agV:aP φ d S nm (.const .none) (.Constant .none k pos):=by
 intro w s₀ A env W σ s ρ v σ' Q V T Z h
 exact vc h λk=>aS (k.same T rfl)
theorem agE:aP φ d S nm (.const (.bool b)) (.Constant (.bool b) k pos):=by
 intro w s₀ A env W σ s ρ v σ' Q V T Z h
 exact vc h λk=>aS (k.same T rfl)
theorem agN(X:fY φ d S nm t O)(Y:aP φ d S nm a U)(H:aP φ d S nm b eb):aP φ d S nm (.bj t a b) (.IfExp O U eb pos):=by
 intro w s₀ A env W σ s ρ v σ' Q V T Z h k
 exact bg h λx aD h1 h=>kP h λc e h=>UE<|X (b:=c) V T Z (e▸h1) λs₁ aI J st=>match c,h with
  |true,h=>Y V J (Z.step st) h (k.from st)
  |false,h=>H V J (Z.step st) h (k.from st)
theorem agW(X:aP φ d S nm x e):aP φ d S nm (.eI x) (.UnaryOp .Not e pos):=by
 intro w s₀ A env W σ s ρ v σ' Q V T Z h
 exact bg h λx aD H h=>kP h λc e h=>bX h λk=>I4<|X V T Z (e▸H) λu s₁ aI J st r=>zW r▸(up<|not_of (lM (k _ _ aI J st rfl)))
theorem agB(X:aP φ d S nm x e)(hp:∀env,isTrue e env (eval e env)=(do let v←eval e env;standAt e.pos;holding [v] (truthy v))):fY φ d S nm x e:=by
 intro w s₀ A env W σ s ρ b σ' Q V T Z h k
 exact hp env▸aF (X V T Z h λu s₁ aI J st r=>zW r▸aF (up<|qf (cz (up<|lM (k s₁ aI J st)))))
theorem agy(X:fY φ d S nm x e):fY φ d S nm (.eI x) (.UnaryOp .Not e pos):=by
 intro w s₀ A env W σ s ρ b σ' Q V T Z h
 exact bg h λx aD H h=>kP h λc e h=>yF h λk=>aF (X V T Z (e▸H) λs₁ aI J st=>aS (k s₁ aI J st))
theorem agx(X:fY φ d S nm t O)(Y:fY φ d S nm a U)(H:fY φ d S nm b eb):fY φ d S nm (.bj t a b) (.IfExp O U eb pos):=by
 intro w s₀ A env W σ s ρ v σ' Q V T Z h k
 exact bg h λx aD h1 h=>kP h λc e h=>aF (X (b:=c) V T Z (e▸h1) λs₁ aI J st=>match c,h with
  |true,h=>Y V J (Z.step st) h (k.from st)
  |false,h=>H V J (Z.step st) h (k.from st))
end
section
variable {β:Type}{r:β}{hp:cR}{W:Wd}{N:Nat}{a:V}{u:af}{P:af->Prop}
@[elab_as_elim] theorem fH{k}(h:vI a k=some r)(x:R hp W N a u)(f:∀i t,k i=some r->P (.int i t)):P u:=rE h λi e h=>by obtain⟨t,q⟩:=(e▸x:R hp W N (.int i) u);exact q▸f i t h
@[elab_as_elim] theorem ait{k}(h:vS a k=some r)(x:R hp W N a u)(f:∀i t,k i=some r->P (.str i.str t)):P u:=Qf h λi e h=>by obtain⟨t,q⟩:=(e▸x:R hp W N (.str i) u);exact q▸f i t h
@[elab_as_elim] theorem B6{k}(h:rD a k=some r)(x:R hp W N a u)(f:∀i t,k i=some r->P (.bytes i t)):P u:=P6 h λi e h=>by obtain⟨t,q⟩:=(e▸x:R hp W N (.bytes i) u);exact q▸f i t h
@[elab_as_elim] theorem aim{k}(h:vB a k=some r)(x:R hp W N a u)(f:∀i,k i=some r->P (.bool i)):P u:=kP h λi e h=>(e▸x:R hp W N (.bool i) u)▸f i h
@[elab_as_elim] theorem kQ{k}(h:vR a k=some r)(x:R hp W N a u)(f:∀i,i<N->k i=some r->P (.ref (W.π i))):P u:=p8 h λi e h=>by obtain⟨t,q⟩:=(e▸x:R hp W N (.ref i) u);exact q▸f i t h
@[elab_as_elim] theorem rF{k}(h:vT a k=some r)(x:R hp W N a u)(f:∀l c us,mL hp c (dG us)->RL hp W N l us->k l=some r->P (.ref c)):P u:=v8 h λl e h=>by obtain⟨c,us,q,H,J⟩:=(e▸x:R hp W N (.tup l) u);exact q▸f l c us H J h
end
end
section
open PySem.SeqAt PySem.MeetsSeq
section
section
variable {w:bz}{s₀ s:aj}{W:Wd}{σ:AH}{A:cu}
theorem Gf{h:cR}{a:cT}{c:af}{xs Y:Array af}(x:∃o,h.get? a=some o/\o.cls=c/\∃n,o.data=.seq xs n)(y:∃o,h.get? a=some o/\o.cls=c/\∃n,o.data=.seq Y n):xs=Y:=
 let⟨_,e,_,_,d⟩:=x;let⟨_,H,_,_,d'⟩:=y
 (Data.seq.inj (d.symm.trans ((congrArg Obj.data (bT (e.symm.trans H))).trans d'))).1
noncomputable def GK(u u':af):Bool:=match u with
 |.str a _=>match u' with
  |.str b _=>decide (a=b)
  |_=>false
 |.int a _=>match u' with
  |.int b _=>a==b
  |_=>false
 |.bool a=>match u' with
  |.bool b=>a==b
  |_=>false
 |.bytes a _=>match u' with
  |.bytes b _=>a.toList==b.toList
  |_=>false
 |.none=>true
 |_=>false
noncomputable def W5(p:Bool)(e:Nat->Bool):Nat->Bool
 |0=>p
 |j+1=>e j
theorem DW{P:af->af->Bool->Prop}{f:V->V->Option Bool}(F:∀{a b u u' r},R h W N a u->R h W N b u'->f a b=some r->P u u' r):∀{l l':List V} {us U:List af} {r:Bool},RL h W N l us->RL h W N l' U->nu f l l'=some r->
  ∃e:Nat->Bool,(∀(j:Nat) (H:j<us.length) (J:j<U.length),P us[j] U[j] (e j))/\r=(bV (min us.length U.length)).all e
 |[],l',us,U,r,x,y,q=>by
  cases x
  exact⟨λY=>true,(λj H=>nomatch H),(bT q).symm.trans (by rw [rK,Nat.zero_min];rfl)⟩
 |a::l,[],us,U,r,x,y,q=>by
  cases y
  exact⟨λY=>true,(λj H J=>nomatch J),(bT q).symm.trans (by rw [rK,Nat.min_zero];rfl)⟩
 |a::l,b::l',us,U,r,⟨u,us1,e1,a1,x⟩,⟨u',ail,O,Z,y⟩,q=>by
  subst e1 O
  refine dz q λp hp q=>?_
  refine dz (HA▸q) λp' ED q=>?_
  obtain⟨e,e2,e3⟩:=DW F x y ED
  refine⟨W5 p e,λj H J=>match j,H,J with
   |0,_,_=>F a1 Z hp
   |j+1,H,J=>e2 j (Ho H) (Ho J),(bT q).symm.trans ?_⟩
  rw [fJ,fJ,Nat.succ_min_succ,Sw,wu,List.all_map,e3]
  rfl
theorem Py{a b:bu}:decide (a.str=b.str)=decide (a=b):=decide_eq_decide.mpr ⟨bu.str_inj,congrArg _⟩
theorem Px{a b:bu}:(a.str==b.str)=decide (a=b):=TW.mpr ⟨λq=>decide_eq_true (bu.str_inj (eq_of_beq q)),λq=>beq_iff_eq.mpr (congrArg _ (of_decide_eq_true q))⟩
theorem EqAt.aeq:EqAt A s (.bytes a t) (.bytes b O) (a.toList==b.toList):=λprog w E Q J=>by
 unfold eqBool
 refine qe (wpAny_ite_split (λH=>aM (oY (cH ?_))) λY=>aM (TJ (prog:=prog) (w:=w) (A:=A) (E:=E) (s:=s) (Q:=λx s'=>wpAny (model prog w) A (truthOfDropped x) Q E s') (lM J)))
 exact(beq_iff_eq.mpr (congrArg zk (TX (eq_of_beq H)).1):(a.toList==b.toList)=true)▸J
structure IL(A:cu)(s:aj)(u u':af)(r:Bool):Prop where
 e:EqAt A s u u' r
 c:RcAt A s u u' r
 n:RcNeAt A s u u' (!r)
theorem DY{h:cR}{N:Nat}{a b:V}{u u':af}{r:Bool}(x:R h W N a u)(y:R h W N b u')(q:xw a b=some r):(∀A,IL A s u u' r)/\r=GK u u'/\(u=u'->r=true):=by
 cases a with
 |none=>
  refine cf q λe q=>fU q ?_
  obtain rfl:u'=.none:=V.none.elim (motive_1:=λb=>R h W N b u'->u'=.none) b e id y
  cases x
  exact⟨λY=>⟨EqAt.same _,λY Y Y Y q=>EqNone.eq_none_none q,RcNeAt.none_none⟩,rfl,λY=>rfl⟩
 |bool a=>
  refine kP q λc e q=>fU q ?_
  subst e
  cases x;cases y
  exact⟨λY=>⟨EqAt.bool_bool _ _,λY Y Y Y q=>eq_bool q,RcNeAt.bool_bool _ _⟩,rfl,λe=>beq_iff_eq.mpr (Value.bool.inj e)⟩
 |int a=>
  refine rE q λc e q=>fU q ?_
  subst e
  obtain⟨t,rfl⟩:=x;obtain⟨O,rfl⟩:=y
  exact⟨λY=>⟨λY Y Y Y q=>wpAny_eqBool_int q,λY Y Y Y q=>P.eq_int q,λY Y Y Y q=>P.ne_int q⟩,rfl,λe=>beq_iff_eq.mpr (Value.int.inj e).1⟩
 |str a=>
  refine Qf q λc e q=>fU q ?_
  subst e
  obtain⟨t,rfl⟩:=x;obtain⟨O,rfl⟩:=y
  exact⟨λY=>⟨λY Y Y Y q=>wpAny_eqBool_str (Py▸q),λY Y Y Y q=>PyProof.Rows.eq_str (Px▸q),λY Y Y Q q=>PyProof.Rows.ne_str (show Q (.bool !(a.str==c.str)) _ from Px▸q)⟩,Py.symm,λe=>decide_eq_true (bu.str_inj (Uf e).1)⟩
 |bytes a=>
  refine P6 q λc e q=>fU q ?_
  subst e
  obtain⟨t,rfl⟩:=x;obtain⟨O,rfl⟩:=y
  exact⟨λY=>⟨EqAt.aeq,λY Y Y Y q=>TJ q,λY Y Y Y q=>PySem.W.ne_bytes q⟩,rfl,λe=>beq_iff_eq.mpr (congrArg zk (TX e).1)⟩
 |tup _=>exact nn q
 |ref _=>exact nn q
 |st _=>exact nn q
noncomputable def yU:List af->List af->Bool
 |u::us,u'::U=>GK u u'&&yU us U
 |[],_=>true
 |_::_,[]=>true
theorem KQ(s:aj):∀{l l':List V} {us U:List af} {r:Bool},RL h W N l us->RL h W N l' U->nu xw l l'=some r->r=yU us U/\(us=U->r=true)
 |[],l',us,U,r,x,y,q=>by cases x;exact fU q ⟨rfl,λY=>rfl⟩
 |a::l,[],us,U,r,⟨u,H,J,a1,x⟩,y,q=>by subst J;cases y;exact fU q ⟨rfl,λY=>rfl⟩
 |a::l,b::l',us,U,r,⟨u,H,J,a1,x⟩,⟨u',ail,O,Z,y⟩,q=>by
  subst J O
  refine dz q λp hp q=>jc q λp' ED=>?_
  have i1:=KQ s x y ED
  have i2:=(DY (s:=s) a1 Z hp).2
  exact⟨i1.1▸i2.1▸rfl,λe=>i1.2 (rM e).2▸i2.2 (rM e).1▸rfl⟩
noncomputable def BZ(h:cR)(u u':af):Bool:=match u with
 |.ref c=>match u' with
  |.ref d=>@decide (∃us U,mL h c (dG us)/\mL h d (dG U)/\(yU us U&&us.length==U.length)=true) (Hi _)
  |_=>false
 |_=>GK u u'
theorem ahL{h:cR}{c d:cT}{us U:List af}(x:mL h c (dG us))(y:mL h d (dG U)):BZ h (.ref c) (.ref d)=(yU us U&&us.length==U.length):=by
 refine TW.mpr ⟨λq=>?_,λq=>@decide_eq_true _ (Hi _) ⟨us,U,x,y,q⟩⟩
 obtain⟨vs,V,H,Y,q⟩:=@of_decide_eq_true _ (Hi _) q
 obtain rfl:us=vs:=congrArg zk (Gf x H)
 obtain rfl:U=V:=congrArg zk (Gf y Y)
 exact q
theorem EqAt.of_rc(h:RcAt A s (.ref l) (.ref b) r)(H:l=b->r=true):EqAt A s (.ref l) (.ref b) r:=by
 by_cases q:l=b
 ·rw [H q,q];exact EqAt.same _
 ·exact EqAt.of_refs q h
theorem As{a b:V}{u u':af}{r:Bool}{N:Nat}(x:R s.heap W N a u)(y:R s.heap W N b u')(q:su a b=some r):(∀A:cu,A.units<9899->IL A s u u' r)/\r=BZ s.heap u u':=by
 refine fj q (λq=>?_) λq=>v8 q λl e q=>v8 q λl' e' q=>?_
 ·have:=DY (s:=s) x y q
  refine⟨λA Y=>this.1 A,?_⟩
  refine this.2.1.trans ?_
  cases a with
  |bool _=>cases x;rfl
  |int _=>obtain⟨_,rfl⟩:=x;rfl
  |str _=>obtain⟨_,rfl⟩:=x;rfl
  |bytes _=>obtain⟨_,rfl⟩:=x;rfl
  |none=>cases x;rfl
  |_=>exact nn q
 ·subst e e'
  obtain⟨c,us,rfl,O,Z⟩:=x
  obtain⟨d,U,rfl,H,J⟩:=y
  refine jc (show(nu xw l l').map (· &&l.length==l'.length)=some r from q) λp hp=>?_
  obtain⟨e,e2,e3⟩:=DW (P:=λu u' r=>∀A,EqAt A s u u' r) (λx y q A=>((DY x y q).1 A).e) Z J hp
  have z:=KQ s Z J hp
  have hl:(l.length==l'.length)=(us.length==U.length):=by rw [Z.length,J.length]
  rw [hl,ahL O H,z.1]
  refine⟨λA hu=>?_,rfl⟩
  have c1:=RcAt.tuples (A:=A) (s:=s) (e:=e) O H (bN hu ∅) λj a b=>e2 j a b _
  have c2:=RcNeAt.tuples (A:=A) (s:=s) (e:=e) O H (bN hu ∅) λj a b=>e2 j a b _
  have z3:(bV (min us.length U.length)).all e=yU us U:=e3.symm.trans z.1
  refine⟨EqAt.of_rc (z3▸c1) λe=>?_,z3▸c1,z3▸c2⟩
  obtain rfl:us=U:=congrArg zk (Gf O (e▸H))
  rw [←z.1,z.2 rfl,beq_self_eq_true];rfl
end
end
end
section
open PySem.SeqAt PySem.MeetsSeq
section
def pe:Prop:=∀{w:bz} {s₀ s:aj} {W:Wd} {σ:AH} {x y:Nat} {l l':List (Int×V)} {r:Bool} {A:cu},St w s₀ W σ s->σ[x]?=some (.bQ l)->σ[y]?=some (.bQ l')->nv l l'=some r->A.units<9800->
 RcAt A s (.ref (W.π x)) (.ref (W.π y)) r/\RcNeAt A s (.ref (W.π x)) (.ref (W.π y)) (!r)
section
variable {w:bz}{s₀ s:aj}{W:Wd}{σ:AH}{A:cu}{a b:V}{u u':af}{r:Bool}
theorem aaT(h:A.units+(n+1)<9800):A.in1.units+n<9800:=wh (kr (Nat.add_right_comm _ _ _)) h
theorem KR(D:pe)(T:St w s₀ W σ s)(F:∀{A a b u u' r},A.units+n<9800->R s.heap W σ.length a u->R s.heap W σ.length b u'->i8 n σ a b=some r->EqAt A s u u' r)(hA:A.units+(n+1)<9800)(q:xr (i8 n σ) σ x y=some r):
  RcAt A s (.ref (W.π x)) (.ref (W.π y)) r/\RcNeAt A s (.ref (W.π x)) (.ref (W.π y)) (!r):=by
 have hu:A.units<9800:=wh (ki _ _) hA
 have O:A.units<9900:=bN hu ∅
 refine fj q (λq=>jr q λl Y q=>jr q λl' Z q=>?_) λq=>uN q λl Y q=>uN q λl' Z q=>D T Y Z q hu
 obtain⟨xs,V,hx⟩:=T.lst Y
 obtain⟨ys,H,hy⟩:=T.lst Z
 by_cases U:l.length=l'.length
 ·obtain⟨e,h1,h2⟩:=DW (P:=λu u' r=>EqAt A.in1 s u u' r) (F (aaT hA)) hx hy ((if_pos U).symm.trans q)
  have J:xs.length=ys.length:=hx.length.trans (U.trans hy.length.symm)
  rw [←J,Nat.min_self] at h2
  exact h2▸⟨RcAt.lists V H J O h1,RcNeAt.lists V H J O h1⟩
 ·have J:(xs.length !=ys.length)=true:=bne_iff_ne.mpr λe=>U (hx.length.symm.trans (e.trans hy.length))
  exact fU ((if_neg U).symm.trans q) ⟨RcAt.lists_lengths V H J O,RcNeAt.lists_lengths V H J O⟩
theorem KV(D:pe)(T:St w s₀ W σ s):∀(n:Nat) {A:cu} {a b:V} {u u':af} {r:Bool},A.units+n<9800->R s.heap W σ.length a u->R s.heap W σ.length b u'->i8 n σ a b=some r->EqAt A s u u' r
 |0,A,a,b,u,u',r,H,x,y,q=>((As x y q).1 A (bN H ∅)).e
 |n+1,A,a,b,u,u',r,H,x,y,q=>fj q (λq=>((As x y q).1 A (wh (ki _ _) (bN H ∅))).e) λq=>p8 q λi e q=>p8 q λj J q=>by
  subst e J
  obtain⟨O,rfl⟩:=x
  obtain⟨U,rfl⟩:=y
  by_cases h:i=j
  ·subst h
   exact fU ((if_pos rfl).symm.trans q) (EqAt.same _)
  ·exact EqAt.of_refs (T.apart i j O U h).1 (KR D T (KV D T n) H ((if_neg h).symm.trans q)).1
theorem KU(D:pe)(T:St w s₀ W σ s)(V:A.units<9700)(x:R s.heap W σ.length a u)(y:R s.heap W σ.length b u')(q:sq σ a b=some r):RcAt A s u u' r/\RcNeAt A s u u' (!r):=
 fj q (λq=>let z:=(As x y q).1 A (bN V ∅);⟨z.c,z.n⟩) λq=>p8 q λi e q=>p8 q λj H q=>cf q λh J=>by
  subst e H
  obtain⟨O,rfl⟩:=x
  obtain⟨U,rfl⟩:=y
  exact KR D T (KV D T 3) (bN (SQ V 4) ∅) J
theorem A4:∀{l:List V} {us:List af} {r:Bool},R s.heap W σ.length a u->RL s.heap W σ.length l us->qU a l=some r->us.any (BZ s.heap · u)=r/\(A.units<9898->∀z∈us,EqAt A.in1 s z u (BZ s.heap z u))
 |[],us,r,x,y,q=>by cases y;exact fU q ⟨rfl,λY Y h=>nomatch h⟩
 |b::l,us,r,x,⟨z,Z,e,y1,y2⟩,q=>by
  subst e
  refine dz q λp hp q=>jc q λp' H=>?_
  have J:=As y1 x hp
  have O:=A4 x y2 H
  rw [List.any_cons,O.1,←J.2]
  refine⟨rfl,λU z' hz=>(eJ.mp hz).elim (λe=>e▸J.2▸(J.1 A.in1 (SQ U 1)).e) (O.2 U z')⟩
theorem aa1(q:isNone a=some c)(x:R s.heap W σ.length a u):(u==.none)=c:=by
 cases a with
 |none=>cases x;exact fU q rfl
 |int _=>obtain⟨_,rfl⟩:=x;exact fU q rfl
 |ref _=>obtain⟨_,rfl⟩:=x;exact fU q rfl
 |tup _=>obtain⟨_,_,rfl,_⟩:=x;exact fU q rfl
 |_=>exact nn q
theorem A5(q:EQ b a=some c)(x:R s.heap W σ.length a u)(y:R s.heap W σ.length b u'):u'=.none/\(u==.none)=c:=
 cf q λe q=>⟨V.none.elim (motive_1:=λb=>R s.heap W σ.length b u'->u'=.none) b e id y,aa1 q x⟩
theorem z9(q:xg J a b=some r)(x:R s.heap W σ.length a u)(y:R s.heap W σ.length b u'){P:af->af->Prop}(k:∀i j t O,JR J i j=some r->P (.int i t) (.int j O)):P u u':=
 rE q λi e q=>rE q λj H q=>by obtain⟨t,h⟩:=(e▸x:R s.heap W σ.length (.int i) u);exact by obtain⟨O,h'⟩:=(H▸y:R s.heap W σ.length (.int j) u');exact h▸h'▸k i j t O q
theorem uY(D:pe)(T:St w s₀ W σ s){E:af->aj->Prop}(O:A.units<9700)(x:R s.heap W σ.length a u)(y:R s.heap W σ.length b u')(h:dX op a b σ=some r){Q:af->aj->Prop}(V:Q (.bool r) s):
  wpAny (model aL w) A (compareOp op u u') Q E s:=by
 have U:A.units<9898:=bN O ∅
 cases op with
 |Eq=>exact(KU D T O x y h).1 _ w E Q V
 |NotEq=>exact jc (P:=λr=>Q (.bool r) s->_) h (λq h V=>(KU D T O x y h).2 _ w E Q V) V
 |Lt=>exact z9 (P:=λu u'=>wpAny _ A (compareOp _ u u') Q E s) h x y λi j t Y q=>P.lt_int (bT q▸V)
 |LtE=>exact z9 (P:=λu u'=>wpAny _ A (compareOp _ u u') Q E s) h x y λi j t Y q=>P.le_int (bT q▸V)
 |Gt=>exact z9 (P:=λu u'=>wpAny _ A (compareOp _ u u') Q E s) h x y λi j t Y q=>P.gt_int (bT q▸V)
 |GtE=>exact z9 (P:=λu u'=>wpAny _ A (compareOp _ u u') Q E s) h x y λi j t Y q=>P.ge_int (bT q▸V)
 |Is=>exact(A5 h x y).1▸is_none_gen ((A5 h x y).2▸V)
 |IsNot=>exact jc (P:=λr=>Q (.bool r) s->_) h (λq h V=>(A5 h x y).1▸isnot_none_gen ((A5 h x y).2▸V)) V
 |In=>
  refine v8 h λl e h=>?_
  subst e
  obtain⟨c,us,rfl,H,J⟩:=y
  have i:=A4 (A:=A) x J h
  exact in_tupleAt _ H (λz hz=>i.2 U z (qx.mp hz)) (by rw [zc,i.1];exact V)
 |NotIn=>
  refine fj h (λh=>v8 h λl e h=>?_) λh=>p8 h λn e h=>jr h λl Z h9=>?_
  ·subst e
   obtain⟨c,us,rfl,H,J⟩:=y
   refine jc (P:=λr=>Q (.bool r) s->_) h (λq h V=>?_) V
   have i:=A4 (A:=A) x J h
   exact notIn_tupleAt _ H (λz hz=>i.2 U z (qx.mp hz)) (by rw [zc,i.1];exact V)
  ·subst e
   obtain⟨hn,rfl⟩:=y
   obtain⟨us,H,J⟩:=T.lst Z
   refine jc (P:=λr=>Q (.bool r) s->_) h9 (λq h V=>?_) V
   have i:=A4 (A:=A) x J h
   exact notIn_listAt _ H (λz hz=>i.2 U z (qx.mp hz)) (by rw [zc,i.1];exact V)
end
end
end
section
section
variable {φ:bK}{d:Nat}{S:bF}{nm:List Str}
theorem agH(D:pe)(X:aP φ d S nm a ea)(Y:aP φ d S nm b eb)(hm:behindInMarks op eb=false):aP φ d S nm (.cmp op a b) (.Compare ea [op] [eb] pos):=by
 intro w s₀ A env W σ s ρ v σ' Q hA T Z h
 exact bg h λx aD h1 h=>bg h λy bR h2 h=>JP h λr h3 k=>Ut (X hA T Z h1 λu s₁ aI U H V=>Y hA U (Z.step H) h2 λu' s₂ cM O J eY=>
  up<|uY D O hA.u (V.mono J.grow) eY h3 (k _ _ cM O (H.trans J) rfl)) hm
theorem agv(D:pe)(X:aP φ d S nm a ea)(Y:aP φ d S nm b eb)(hm:behindInMarks op eb=false):fY φ d S nm (.cmp op a b) (.Compare ea [op] [eb] pos):=by
 intro w s₀ A env W σ s ρ v σ' Q hA T Z h
 exact bg h λx aD h1 h=>bg h λy bR h2 h=>JO h λr h3 k=>UU (X hA T Z h1 λu s₁ aI U H V=>Y hA U (Z.step H) h2 λu' s₂ cM O J eY=>
  up<|uY D O hA.u (V.mono J.grow) eY h3 (up<|lM (k _ cM O (H.trans J)))) hm
theorem agI(D:pe)(X:aP φ d S nm a ea)(Y:aP φ d S nm b eb)(U:aP φ d S nm c ec)(hm:lastMarks [op,rj] [eb,ec]=false):
  aP φ d S nm (.k8 op rj a b c) (.Compare ea [op,rj] [eb,ec] pos):=by
 intro w s₀ A env W σ s ρ v σ' Q hA T Z h k
 exact bg h λx aD h1 h=>bg h λy bR h2 h=>dz h λr h3 h=>WJ (X hA T Z h1 λu s₁ aI jQ H jO=>abE (Y hA jQ (Z.step H) h2 λu' s₂ cM V O eY=>
  up<|uY D V hA.u (jO.mono O.grow) eY h3 (up<|lM (match r,h with
   |false,h=>eS h (λk=>k _ _ cM V (H.trans O) rfl) k
   |true,h=>bg h λz uD h4 h=>JP (P:=λv σ'=>KP w s₀ W σ s σ' v Q->ao (model aL w) A _ Q (λJ J=>False) s₂) h (λr h5 k=>abF (U hA V ((Z.step H).step O) h4 λu'' ji iL gF rt nc=>
    up<|uY D gF hA.u (eY.mono rt.grow) nc h5 (k _ _ iL gF ((H.trans O).trans rt) rfl))) k)))) hm
theorem agw(D:pe)(X:aP φ d S nm a ea)(Y:aP φ d S nm b eb)(U:aP φ d S nm c ec)(hm:lastMarks [op,rj] [eb,ec]=false):
  fY φ d S nm (.k8 op rj a b c) (.Compare ea [op,rj] [eb,ec] pos):=by
 intro w s₀ A env W σ s ρ v σ' Q hA T Z h k
 exact bg h λx aD h1 h=>bg h λy bR h2 h=>dz h λr h3 h=>UV (X hA T Z h1 λu s₁ aI jQ H jO=>UW (Y hA jQ (Z.step H) h2 λu' s₂ cM V O eY=>
  up<|uY D V hA.u (jO.mono O.grow) eY h3 (up<|lM (match r,h with
   |false,h=>yF (P:=λv σ'=>KT w s₀ W σ s σ' (Q v)->Q false s₂) h (λk=>k _ cM V (H.trans O)) k
   |true,h=>bg h λz uD h4 h=>JO (P:=λv σ'=>KT w s₀ W σ s σ' (Q v)->ao (model aL w) A _ Q (λJ J=>False) s₂) h (λr h5 k=>UX (U hA V ((Z.step H).step O) h4 λu'' ji iL gF rt nc=>
    up<|uY D gF hA.u (eY.mono rt.grow) nc h5 (up<|lM (k _ iL gF ((H.trans O).trans rt))))) k)))) hm
theorem Pa(X:aP φ d S nm a e):aP φ d S nm a (.BoolOp O [e] pos):=by
 intro w s₀ A env W σ s ρ v σ' Q V T Z h k
 exact Ul (X V T Z h k)
theorem O9(X:aP φ d S nm a O)(Y:aP φ d S nm b (.BoolOp .And (U::yE) pos)):aP φ d S nm (.aw a b) (.BoolOp .And (O::U::yE) pos):=by
 intro w s₀ A env W σ s ρ v σ' Q hA T Z h k
 exact bg h λx aD h1 h=>kP h λt e h=>Ty (X (v:=.bool t) hA T Z (e▸h1) λu s₁ aI J H V=>zW V▸(up<|lM (match t,h with
  |true,h=>Y hA J (Z.step H) h (k.from H)
  |false,h=>bX (P:=λv σ'=>KP w s₀ W σ s σ' v Q->Q (.bool false) s₁) h (λk=>k _ _ aI J H rfl) k)))
theorem Pb(X:aP φ d S nm a O)(Y:aP φ d S nm b (.BoolOp .Or (U::yE) pos)):aP φ d S nm (.dD a b) (.BoolOp .Or (O::U::yE) pos):=by
 intro w s₀ A env W σ s ρ v σ' Q hA T Z h k
 exact bg h λx aD h1 h=>kP h λt e h=>UM (X (v:=.bool t) hA T Z (e▸h1) λu s₁ aI J H V=>zW V▸(up<|lM (match t,h with
  |false,h=>Y hA J (Z.step H) h (k.from H)
  |true,h=>bX (P:=λv σ'=>KP w s₀ W σ s σ' v Q->Q (.bool true) s₁) h (λk=>k _ _ aI J H rfl) k)))
theorem agz(X:fY φ d S nm a e):fY φ d S nm a (.BoolOp .And [e] pos):=by
 intro w s₀ A env W σ s ρ b σ' Q V T Z h k
 exact I2 (X V T Z h λs' W' O U=>match b,k with
  |false,k=>k _ W' O U
  |true,k=>up<|isTrue_and_nil (k _ W' O U))
theorem agA(X:fY φ d S nm a e):fY φ d S nm a (.BoolOp .Or [e] pos):=by
 intro w s₀ A env W σ s ρ b σ' Q V T Z h k
 exact I3 (X V T Z h λs' W' O U=>match b,k with
  |true,k=>k _ W' O U
  |false,k=>up<|isTrue_or_nil (k _ W' O U))
theorem O7(X:fY φ d S nm a O)(Y:fY φ d S nm b (.BoolOp .And U pos)):fY φ d S nm (.aw a b) (.BoolOp .And (O::U) pos):=by
 intro w s₀ A env W σ s ρ c σ' Q V T Z h k
 exact bg h λx aD h1 h=>kP h λt e h=>I2 (X (b:=t) V T Z (e▸h1) λs₁ aI J H=>match t,h with
  |true,h=>Y V J (Z.step H) h (k.from H)
  |false,h=>yF (P:=λv σ'=>KT w s₀ W σ s σ' (Q v)->Q false s₁) h (λk=>k _ aI J H) k)
theorem O8(X:fY φ d S nm a O)(Y:fY φ d S nm b (.BoolOp .Or U pos)):fY φ d S nm (.dD a b) (.BoolOp .Or (O::U) pos):=by
 intro w s₀ A env W σ s ρ c σ' Q V T Z h k
 exact bg h λx aD h1 h=>kP h λt e h=>I3 (X (b:=t) V T Z (e▸h1) λs₁ aI J H=>match t,h with
  |false,h=>Y V J (Z.step H) h (k.from H)
  |true,h=>yF (P:=λv σ'=>KT w s₀ W σ s σ' (Q v)->Q true s₁) h (λk=>k _ aI J H) k)
theorem agT(X:aP φ d S nm a e):aP φ d S nm (.neg a) (.UnaryOp .USub e pos):=by
 intro w s₀ A env W σ s ρ v σ' Q O T Z h k
 exact bg h λx aD U h=>I4 (X O T Z U λu s₁ aI J H V=>fH h V λi t h=>eS h (λk=>up<|P.neg_int ((k.from H).tok J _ ⟨_,rfl⟩)) k)
end
end
section
noncomputable def fV(e:aG):Bool:=!Nat.beq e.ctorIdx 22
noncomputable def lF(es:List aG)(env:Env):List (Bool×Sem af):=es.map λe=>(false,eval e env)
theorem aho(h:fV e=true):starEach (e::es) env=(false,eval e env)::starEach es env:=by
 cases e with
 |Starred _ _=>exact ff h
 |_=>rfl
theorem oX:∀{es:List aG},es.all fV=true->backTo pos (starEach es env)=lF es env
 |[],_=>rfl
 |e::es,h=>aw (wu▸h:) λH J=>(congrArg (backTo pos) (aho H)).trans (congrArg ((false,eval e env):: ·) (oX J))
theorem mE:(lF es env).any (·.1)=false:=Tk.mpr λx O=>by
 obtain⟨e,_,rfl⟩:=jN.mp O
 exact jK
def KL(w:bz)(s₀:aj)(W:Wd)(σ:AH)(s:aj)(σ':AH)(vs:List V)(Q:List af->aj->Prop):Prop:=
 ∀us s' W',St w s₀ W' σ' s'->Step [] W σ s W' σ' s'->RL s'.heap W' σ'.length vs us->Q us s'
def jP(φ:bK)(d:Nat)(S:bF)(nm:List Str)(l:XL)(es:List aG):Prop:=
 ∀⦃w:bz⦄ ⦃s₀:aj⦄ ⦃A:cu⦄ ⦃env:Env⦄ ⦃W:Wd⦄ ⦃σ:AH⦄ ⦃s:aj⦄ ⦃ρ:bc⦄ ⦃vs:List V⦄ ⦃σ':AH⦄ ⦃Q:List af->aj->Prop⦄,Ok A d->St w s₀ W σ s->cV S nm env W σ ρ s->xl φ ρ l σ=some (vs,σ')->KL w s₀ W σ s σ' vs Q->
  ao (model aL w) A (spliced (lF es env)) Q (λY Y=>False) s
section
variable {φ:bK}{d:Nat}{S:bF}{nm:List Str}
theorem O6:jP φ d S nm .nil []:=by
 intro w s₀ A env W σ s ρ vs σ' Q V T Z h
 exact bX h λk=>up (zl (k _ _ W T (Step.refl ..) rfl))
theorem agf(X:aP φ d S nm x e)(Y:jP φ d S nm l es):jP φ d S nm (.cons x l) (e::es):=by
 intro w s₀ A env W σ s ρ vs σ' Q hA T Z h
 exact bg h λv aD h1 h=>bg h λGL bR h2 h=>bX h λk=>BU (X hA T Z h1 λu s₁ aI O H V=>Y hA O (Z.step H) h2 λus s₂ cM U J eY=>k _ _ cM U (H.trans J) ⟨u,us,rfl,V.mono J.grow,eY⟩)
theorem qZ(h:n<=most):n<=sizeLine:=bo h (qo▸by decide)
section
variable {w:bz}{s₀ s:aj}{W:Wd}{σ:AH}{l:List V}{us:List af}{Q:af->aj->Prop}
theorem KP.list(K:KP w s₀ W σ s (σ++[.list l]) (.ref σ.length) Q)(T:St w s₀ W σ s)(O:RL s.heap W σ.length l us)(V:∀(b:Nat) o,s.heap.get? b=some o->h'.get? b=some o)
  (H:h'.get? s.heap.objs.size=some {cls:=.type "list",dict:=none,data:=.seq us.toArray ep,slots:=#[]}):Q (.ref s.heap.objs.size) {s with heap:=h',toks:=k}:=
 let⟨W',J,_,Y,U⟩:=T.new [] (k:=k) (h':=h') (p:=s.heap.objs.size) (d:=s.heap.objs.size) (c:=.list l) V (cY _) (cY _) ⟨_,H⟩ ⟨_,H⟩ (λW' G J Z=>⟨us,ep,J▸H,O.mono G⟩)
 K _ _ W' Y U ⟨bZ▸jL _,congrArg _ J.symm⟩
theorem KP.q9(K:KP w s₀ W σ s (σ++[.list l]) (.ref σ.length) Q)(T:St w s₀ W σ s)(H:RL s.heap W σ.length l us):Q (.ref s.heap.objs.size) {s with heap:=s.heap.push {cls:=.type "list",data:=.seq us.toArray ep},toks:=k}:=
 K.list T H (λb o e=>dZ _ e) (gM _ rfl)
end
theorem ag5(X:jP φ d S nm l es)(O:es.all fV=true):aP φ d S nm (.tup l) (.Tuple es k pos):=by
 intro w s₀ A env W σ s ρ v σ' Q U T Z h
 exact bg h λvs aD Y h=>cf h λhm h=>bX h λk=>UZ<|oX O▸X U T Z Y λus s₁ aI J H V=>⟨V.length▸qZ hm,
  let z:=J.more [] (k:=s₁.toks) (h':=s₁.heap.push {cls:=.type "tuple",data:=.seq us.toArray}) (λb o e=>dZ _ e)
  k _ _ aI z.1 (H.trans z.2) ⟨_,us,rfl,⟨_,gM _ rfl,rfl,0,rfl⟩,V.mono z.2.grow⟩⟩
theorem agR(X:jP φ d S nm l es)(O:es.all fV=true):aP φ d S nm (.list l) (.List es pos):=by
 intro w s₀ A env W σ s ρ v σ' Q U T Z h
 exact bg h λvs aD Y h=>cf h λhm h=>bX h λk=>UI<|oX O▸X U T Z Y λus s₁ aI J H V=>⟨V.length▸qZ hm,(k.from H).q9 J V⟩
theorem Nt(h:yi a b=true):IntMulOk a b:=λq=>by unfold yi at h;rw [q] at h;exact ff h
theorem RL.times{W:Wd}(x:RL h W N l us):∀n,RL h W N (dO n l).flatten (dO n us).flatten
 |0=>rfl
 |n+1=>x.append (RL.times x n)
theorem Lf(us:List af):∀(n:Nat) (acc:List af),IE (λ(H J:Array af)=>H++J) acc.toArray (dO n us.toArray)=(acc++(dO n us).flatten).toArray
 |0,acc=>(congrArg dG (qd acc)).symm
 |n+1,acc=>by
  rw [List.replicate_succ,wq,S7,Lf us n,iX];rfl
theorem Ld:∀(n:Nat),IE (λ(H J:Array af)=>H++J) #[] (dO 0 (dG []))=(dO n ([]:List af)).flatten.toArray
 |0=>rfl
 |n+1=>Ld n
theorem aa8(us:List af)(n:Nat):IE (λH J=>H++J) #[] (dO (if(dG us).isEmpty=true then 0 else n) (dG us))=(dO n us).flatten.toArray:=match us with
 |[]=>Ld n
 |u::us=>Lf (u::us) n []
theorem Of(q:0<=j/\j<=1000/\i.natAbs<2^64):(eF i:Int)*j<=2^27:=
 ku (Int.mul_le_mul (CR.mpr (PySem.intBits_le_64 (by omega) (by omega))) q.2.1 q.1 ∅) ∅
section
variable {w:bz}{s₀ s:aj}{W:Wd}{σ σ':AH}{A:cu}{Q:af->aj->Prop}{v:V}
theorem KP.int(k:KP w s₀ W σ s σ (.int z) Q)(T:St w s₀ W σ s)(q:some x=some z):Q (.int x s.toks) {s with toks:=s.toks+1}:=k.tok T _ ⟨_,congrArg (qt · _) (bT q)⟩
@[elab_as_elim] theorem Jo{P:V->AH->Prop}(h:ou O i j σ=some (v,σ'))(k:∀z,intOp O i j=some z->P (.int z) σ):P v σ':=by
 unfold ou at h
 cases e:intOp O i j with
 |none=>rw [e] at h;exact nn h
 |some z=>rw [e] at h;cases h;exact k z e
theorem VP(T:St w s₀ W σ s)(h:ou O i j σ=some (v,σ')):KP w s₀ W σ s σ' v Q->wpAny (model aL w) A (binaryOp O (.int i t) (.int j J)) Q (λY Y=>False) s:=
 Jo h λz hz k=>by
  cases O with
  |Add=>exact P.add_int (k.int T hz)
  |Sub=>exact P.sub_int (k.int T hz)
  |Mult=>exact cf hz λq hz=>P.mul_int (k.int T hz) (Nt q)
  |Mod=>exact cf hz λq hz=>mod_int' (qh q) (k.int T hz)
  |Pow=>exact cf hz λq hz=>pow_int q.1 (Of q) (k.int T hz)
  |LShift=>exact cf hz λq hz=>lshift_int_small q.1 (ku q.2.1 ∅) q.2.2 (k.int T hz)
  |RShift=>exact cf hz λq hz=>rshift_int q (k.int T hz)
  |BitOr=>exact or_int (k.int T hz)
  |BitAnd=>exact and_int (k.int T hz)
  |FloorDiv=>exact cf hz λq hz=>floordiv_int (qh q.1) (k.int T hz) (.inl (Hp (nA (aa az 0x10101140000000081200100400000000812317400000000810010000117 q rfl))))
  |_=>exact nn hz
theorem Mv(T:St w s₀ W σ s)(h:ou O i j σ=some (v,σ')):KP w s₀ W σ s σ' v Q->wpAny (model aL w) A (inplaceOp O (.int i t) (.int j J)) Q (λY Y=>False) s:=
 Jo h λz hz k=>by
  cases O with
  |Add=>exact P.iadd_int (k.int T hz)
  |Sub=>exact P.isub_int (k.int T hz)
  |Mult=>exact cf hz λq hz=>P.imul_int (k.int T hz) (Nt q)
  |Mod=>exact cf hz λq hz=>imod_int (qh q) (k.int T hz)
  |Pow=>exact cf hz λq hz=>ipow_int q.1 (Of q) (k.int T hz)
  |LShift=>exact cf hz λq hz=>ilshift_int_small q.1 (ku q.2.1 ∅) q.2.2 (k.int T hz)
  |RShift=>exact cf hz λq hz=>irshift_int q (k.int T hz)
  |BitOr=>exact ior_int (k.int T hz)
  |BitAnd=>exact iand_int (k.int T hz)
  |FloorDiv=>exact cf hz λq hz=>ifloordiv_int (qh q.1) (k.int T hz) (.inl (Hp (nA (aa az 0x10101140000000081200100400000000812317400000000810010000117 q rfl))))
  |_=>exact nn hz
theorem abH(h:n<=1000):¬Builtin.List.listTooLong n=true:=by simp [Builtin.List.listTooLong,sizeLine];exact(aa au 0x1110000000710033e8031003 h rfl)
theorem U8(T:St w s₀ W σ s)(V:σ[m]?=some (.list l))(Z:σ[n]?=some (.list l'))(hn:l.length+l'.length<=most)(k:KP w s₀ W σ s (σ++[.list (l++l')]) (.ref σ.length) Q):
  wpAny (model aL w) A (binaryOp .Add (.ref (W.π m)) (.ref (W.π n))) Q (λY Y=>False) s:=
 let⟨xs,ep,O,U⟩:=T.cell _ _ V;let⟨ys,J,H,hy⟩:=T.cell _ _ Z
 PySem.concat_meets ⟨_,O,rfl⟩ ⟨_,H,rfl⟩ noFill_list_add seq_list_add PySem.F.slot_list_add PySem.F.entry_list_add (PySem.F.args_list_add_2 _ _) (list_addW _ _ _ _ ep J none none #[] #[] (U.length.symm▸hy.length.symm▸qZ hn:xs.length+ys.length<=sizeLine)) ⟨O,H,S7 ..▸k.q9 T (U.append hy)⟩
theorem acr(T:St w s₀ W σ s)(Z:σ[m]?=some (.list l))(H:l.length*i.toNat<=most/\ -1000<=i/\i<=1000)(k:KP w s₀ W σ s (σ++[.list (dO i.toNat l).flatten]) (.ref σ.length) Q):
  wpAny (model aL w) A (binaryOp .Mult (.ref (W.π m)) (.int i t)) Q (λY Y=>False) s:=
 let⟨xs,ep,J,O⟩:=T.cell _ _ Z
 have V:(dG xs).size*i.toNat<=1000:=(O.length.symm▸H.1:xs.length*i.toNat<=1000)
 wpAny_binaryOp_repeat_ref (T:="list") (U:="int") ∅ ⟨_,J,rfl⟩ (λs'=>typeIs_int s' i t) noFill_list_mul F.fills_int_mul F.slot_int_rmul repeat_list F.slot_int_index.lookup
  (call_meets F.slot_int_rmul (typeIs_int s i t) F.entry_int_rmul (F.args_int_rmul_2 _ _) (int___rmul___int_list i t _ _ ep)
   ⟨J,rfl,⟨_,J,rfl⟩,call_meets F.slot_list_mul ⟨_,J,rfl⟩ F.entry_list_mul (F.args_list_mul_2 _ _)
    (AutoListH.list___mul___list_int_3 _ _ ep i t (by simp [Builtin.List.listFitsIndex];exact(aa aX 0x1001010180000000000000001010010080000000000000001013073e8031000003e80313073e80311037 H rfl)) (aa au 0x1100fffffffffffffff0f1463e8031003 V rfl) (abH V))
    ⟨J,aa8 xs i.toNat▸k.q9 T (O.times i.toNat)⟩⟩)
theorem VR(T:St w s₀ W σ s)(x:R s.heap W σ.length a u)(y:R s.heap W σ.length b u')(h:kZ O a b σ=some (v,σ'))(k:KP w s₀ W σ s σ' v Q):wpAny (model aL w) A (binaryOp O u u') Q (λY Y=>False) s:=
 fj h (λh=>fH h x λi t h=>fH h y λj H h=>VP T h k) λh=>fj h
  (λh=>kQ h x λm Y h=>jr h λl J h=>fj h
   (λh=>kQ h y λn Y h=>jr h λl' U h=>cf h λq h=>q.1▸eS h (U8 T J U q.2) k)
   λh=>fH h y λi t h=>cf h λq h=>q.1▸eS h (acr T J q.2) k)
  λh=>B6 h x λV t h=>fH h y λi H h=>cf h λq h=>q.1▸eS h (λk=>by
   refine(SR (xs:=V))▸bytes_mul_any (λe=>absurd q.2.1 (gQ.mpr (kr (S8.symm.trans (congrArg zo e))))) (ku ∅ q.2.2.2.1) (ku q.2.2.2.2 ∅) (S8.symm▸q.2.2.1) λZ k'=>?_
   exact k.tok T _ ⟨_,rfl⟩) k
end
theorem agD(X:aP φ d S nm a ea)(Y:aP φ d S nm b eb):aP φ d S nm (.bin op a b) (.BinOp ea op eb pos):=by
 intro w s₀ A env W σ s ρ v σ' Q hA T Z h k
 exact bg h λx aD h1 h=>bg h λy bR h2 h=>Uk (X hA T Z h1 λu s₁ aI O H V=>Y hA O (Z.step H) h2 λu' s₂ cM U J eY=>up<|VR U (V.mono J.grow) eY h (k.from (H.trans J)))
end
end
section
noncomputable def yH(x:Option (Option af)):Bool:=decide (x=some none)
noncomputable def EP(x:Option (Option af))(n:String):Bool:=decide (x=some (some (.builtin n)))
noncomputable def ZE(H:ClassData):Bool:=H.hasDict
noncomputable def WM(P:cE)(C:Nat):Bool:=plainOver (K P) C&&(oB (clsIn (K P) C) ZE&&(EP (findIn (K P) (.ref C) "__getattribute__") "object.__getattribute__"&&(EP (findIn (K P) (.ref C) "__setattr__") "object.__setattr__"&&(yH (findIn (K P) (.ref C) "__getattr__")&&D3.all λx=>yH (findIn (K P) (.ref C) x.str)))))
theorem WO(P:cE):DC.all (WM P)=true:=by rfl'
theorem WP(P:cE):yH (findIn (K P) (.ref (294:Nat)) (bu.str 20))=true:=by rfl'
structure IS(P:cE)(C:Nat)(x:bu):Prop where
 pl:plainOver (K P) C=true
 cls:∃cd,clsIn (K P) C=some cd/\cd.hasDict=true
 ga:findIn (K P) (.ref C) "__getattribute__"=some (some (.builtin "object.__getattribute__"))
 sa:findIn (K P) (.ref C) "__setattr__"=some (some (.builtin "object.__setattr__"))
 no:findIn (K P) (.ref C) x.str=some none
theorem K7{P:cE}(h:DC.contains C=true)(k:(D3.all λx=>yH (findIn (K P) (.ref C) x.str))=true->findIn (K P) (.ref C) x.str=some none):IS P C x:=
 aw (jM.mp (WO P) C (Ck.mp h)) λH h=>aw h λJ h=>aw h λO h=>aw h λU h=>aw h λY h=>⟨H,jg J λV e h=>⟨V,e,h⟩,aW O,aW U,k h⟩
theorem D4(P:cE)(h:ny C x=true):IS P C x:=
 dD h (λh=>aw h λH J=>K7 J λh=>aW (jM.mp h x (Ck.mp H)))
  λh=>aw h λH J=>eq_of_beq H▸eq_of_beq J▸K7 ∅ λY=>aW (WP P)
theorem Y5{K:Frag}{name:Str}(J:clsIn K C=some O)(H:O.hasDict=true)(U:findIn K (.ref C) name=some none)(V:lookIn name o=some (some u)):
  findObj K C (some o) name=some (.value u):=bI J (bI U (bI rfl (bI rfl (bI (a:=some u) (by unfold PySem.W.ownOf;rw [H];exact V) rfl))))
theorem O1(h:k=x):pY ((k,v)::l) x=some v:=
 congrArg (fu λp:bu×V=>p.2) (yW (p:=λp:bu×V=>p.1==x) (a:=(k,v)) (l:=l) (beq_iff_eq.mpr h:))
theorem O3(h:¬k=x):pY ((k,v)::l) x=pY l x:=
 congrArg (fu λp:bu×V=>p.2) (we (p:=λp:bu×V=>p.1==x) (a:=(k,v)) (l:=l) (λq=>h (eq_of_beq q)))
theorem Mr(h:k=x):jy ((k,v)::l) x=some v:=
 congrArg (fu λp:Int×V=>p.2) (yW (p:=λp:Int×V=>p.1==x) (a:=(k,v)) (l:=l) (beq_iff_eq.mpr h:))
theorem Ms(h:¬k=x):jy ((k,v)::l) x=jy l x:=
 congrArg (fu λp:Int×V=>p.2) (we (p:=λp:Int×V=>p.1==x) (a:=(k,v)) (l:=l) (λq=>h (eq_of_beq q)))
theorem MA{k x:bu}{t:Tok}(h:¬k=x):¬Value.isStr (.str k.str t) x.str=true:=λq=>h (bu.str_inj (eq_of_beq q))
section
variable {h:cR}{W:Wd}{N:Nat}
theorem Nc:∀{l:List (bu×V)} {es:List bY},RF h W N l es->pY l x=some v->∃e,es.find? (·.key.isStr x.str)=some e/\R h W N v e.val
 |[],_,_,h=>nomatch h
 |(k,v')::l,es,⟨e,r,t,q,J,a,b⟩,h=>by
  subst q
  by_cases H:k=x
  ·exact⟨e,yW (by rw [J,H];exact beq_self_eq_true _),bT ((O1 H).symm.trans h)▸a⟩
  ·obtain⟨O,U,Y⟩:=Nc b ((O3 H).symm.trans h)
   exact⟨O,(we (by rw [J];exact MA H)).trans U,Y⟩
theorem ZD(H:vL v=true)(x:R h W N v u):handedIn u=true:=by
 cases v with
 |st _=>exact ff H
 |none=>cases x;rfl
 |bool _=>cases x;rfl
 |int _=>obtain⟨_,rfl⟩:=x;rfl
 |str _=>obtain⟨_,rfl⟩:=x;rfl
 |bytes _=>obtain⟨_,rfl⟩:=x;rfl
 |tup _=>obtain⟨_,_,rfl,_⟩:=x;rfl
 |ref _=>obtain⟨_,rfl⟩:=x;rfl
theorem RF.length:∀{l:List (bu×V)} {es:List bY},RF h W N l es->es.length=l.length
 |[],_,x=>by cases x;rfl
 |_::_,_,⟨e,r,t,q,_,_,b⟩=>by subst q;exact congrArg wD (RF.length b)
theorem RF.put(y:R h W N v u):∀{l:List (bu×V)} {es:List bY},RF h W N l es->RF h W N (jZ l x v) (putL x.str O (.str x.str U) u es)
 |[],_,q=>by cases q;exact⟨_,[],U,rfl,rfl,y,rfl⟩
 |(k,v')::l,_,⟨e,r,t,q,J,a,b⟩=>by
  subst q
  unfold jZ putL
  by_cases H:k=x
  ·rw [if_pos H,if_pos (by rw [J,H];exact beq_self_eq_true _)]
   exact⟨_,r,t,rfl,J,y,b⟩
  ·rw [if_neg H,if_neg (by rw [J];exact MA H)]
   exact⟨e,_,t,rfl,J,a,RF.put y b⟩
theorem RF.noRef:∀{l:List (bu×V)} {es:List bY},RF h W N l es->es.any (·.refKey)=false
 |[],_,x=>by cases x;rfl
 |_::_,_,⟨e,r,t,q,H,_,b⟩=>by subst q;rw [List.any_cons,RF.noRef b,Bool.or_false];unfold DictEntry.refKey;rw [H]
end
theorem FP(x:Str)(O:Int)(key u:af):∀es:List bY,(putL x O key u es).length<=es.length+1
 |[]=>cY _
 |e::r=>by
  unfold putL
  by_cases h:e.key.isStr x=true
  ·rw [if_pos h];exact mH _
  ·rw [if_neg h];exact HM (FP x O key u r)
noncomputable def FO(P:cE)(h:cR)(d:cT)(x:Str)(k:Nat)(u:af):cR:=h.update d (Obj.putName x (PyData.keyHash P x) (.str x k) u)
theorem aeZ(P:cE)(x:Str)(k:Nat)(u:af)(e:h.get? d=some (dictOf es ep)):kq d h (FO P h d x k u)/\(FO P h d x k u).get? d=some (dictOf (putL x (PyData.keyHash P x) (.str x k) u es) (putN x es ep)):=
 ⟨nY ..,by unfold FO;rw [qu _ e (by rw [putName_dict];rfl),putName_dict]⟩
section
variable {w:bz}{s₀ s:aj}{W:Wd}{σ σ':AH}{A:cu}{r v:V}{x:bu}{ur u:af}
theorem Ll{Q:af->aj->Prop}(T:St w s₀ W σ s)(V:R s.heap W σ.length r u)(h:AE r x σ=some (v,σ'))(k:KP w s₀ W σ s σ' v Q):
  wpAny (model aL w) A (getAttr u x.str b) Q (λY Y=>False) s:=
 kQ h V λn hn h=>wR h λC l e h=>dz h λv' J h=>cf h λO h=>eS h (λk=>aw O λU Z=>by
  obtain⟨h1,jw,es,ep,h2,h5,_⟩:=T.cell _ _ e
  obtain⟨en,g1,H⟩:=Nc h5 J
  obtain⟨_,⟨cd,c1,c2⟩,ga,_,no⟩:=D4 w.params U
  refine get_value T.K ⟨h1,rfl,rfl,h2⟩ ga (Y5 c1 c2 no (u:=en.val) ?_) (ZD Z H) (k.tok T _ H)
  rw [lookIn_dict]
  unfold getL
  rw [g1]) k
theorem OY{Q:Unit->aj->Prop}(T:St w s₀ W σ s)(hr:R s.heap W σ.length r ur)(hv:R s.heap W σ.length v u)(h:BJ r x v σ=some ((),σ'))(k:KT w s₀ W σ s σ' (Q ())):
  wpAny (model aL w) A (setAttr ur x.str u) Q (λY Y=>False) s:=
 kQ h hr λn hn h=>wR h λC l e h=>cf h λO h=>bX (P:=λY σ'=>KT w s₀ W σ s σ' (Q ())->_) h (λk=>aw O λO V=>aw O λb1 Y=>by
  obtain⟨h1,U,es,ep,J,H,h6⟩:=T.cell _ _ e
  obtain⟨pl,⟨cd,c1,c2⟩,ga,sa,no⟩:=D4 w.params b1
  have I:InstAt s.heap (W.π n) (instObj C (W.δ n)) C (some (dictOf es ep)):=⟨h1,rfl,rfl,J⟩
  refine set_plain T.K I sa (osa_open (s:={s with toks:=s.toks+1}) T.K I pl (by unfold takerIn;rw [no];rfl) λb=>?_)
  obtain⟨Z,D'⟩:=aeZ w.params x.str (s.toks+1) u J
  have z:=T.put [] (k:=s.toks+1+1) (c:=.obj C (jZ l x v)) hn
   (λb Y O=>Z.2 b O) (dw.lj J (show ic "dict"≠ic "tuple" by decide) λb o e O=>(Z.2 b O).trans e) (Lv.lj Z ⟨_,D'⟩)
   (λG=>⟨(Z.2 _ U).trans h1,U,_,_,D',RF.put (hv.mono G) (H.mono G),bo (FP ..) (H.length▸lK V)⟩)
  refine aM (cH (aM (aM (wpAny_loadPart h1 (aM (Looks.here (s:={s with toks:=s.toks+1}) (looks_clsIn (M:=model aL w) T.K c1) ?_))))))
  rw [c2]
  refine cH (a:=some (W.δ n)) (aM (cH (aM ?_)))
  unfold nsSet
  refine aM (aM (wpAny_askSetting (cH (aM (wpAny_mkText (aM (wpAny_loadPart J ?_)))))))
  rw [show(dictOf es ep).data=.dict es.toArray ep from rfl]
  dsimp only
  rw [aRefKeyMayBeTheName_at,zc,zc,RF.noRef H,Ua]
  refine wpAny_updatePart J (aM (wpAny_lookBehind D' (pastItsLine_dict (by rw [Tp,qo];exact bo (FP ..) (bo (H.length▸lK V) ∅))) (cH (k _ W z.1 z.2))))) k
end
noncomputable def ym(e:aG):Bool:=!Nat.beq e.ctorIdx 16
theorem zR(h:ym o=true):attributeBase o J env O=O:=by
 cases o with
 |Call _ _ _ _=>exact ff h
 |_=>rfl
theorem agC{S:bF}(X:aP φ d S nm a e)(U:ym e=true):aP φ d S nm (.attr a x) (.Attribute e x.str pos):=by
 intro w s₀ A env W σ s ρ v σ' Q Y T Z h k
 exact bg h λo aD h1 h=>IK (X Y T Z h1 λu s₁ aI J H V=>up<|Ll J V h (k.from H)) λO=>zR U
end
section
def Ox(Q:af->aj->Prop)(r:gj)(s:aj):Prop:=match r with
 |.ok (.ret v)=>Q v s
 |.ok _=>False
 |.error _=>False
def Uq(d:Nat)(a:Nat)(f:List V->M V):Prop:=
 ∀{w:bz} {s₀:aj} {A:cu} {W:Wd} {σ:AH} {s:aj} {vs:List V} {us:List af} {v:V} {σ':AH} {Q:af->aj->Prop},Ok A d->St w s₀ W σ s->RL s.heap W σ.length vs us->f vs σ=some (v,σ')->KP w s₀ W σ s σ' v Q->
  fE (model aL w) A (.call (.ref a) ⟨us,[]⟩) (Ox Q) s
def i4(φ:bK)(d:Nat):Prop:=∀a f,φ a=some f->Uq d a f
theorem xQ{G:Prop}(h:idx k n=some j)(f:0<=k->k<n->k.toNat=j->G)(H:k<0-> -(n:Int)<=k->(k+n).toNat=j->G):G:=by
 unfold idx at h
 by_cases q:0<=k/\k<n
 ·rw [if_pos q] at h;exact f q.1 q.2 (bT h)
 ·rw [if_neg q] at h;exact cf h λq h=>H q.1 q.2 (bT h)
theorem NG{G:Prop}(h:Bs l k=some v)(f:∀j,l.length<=most->idx k l.length=some j->l[j]?=some v->G):G:=cf h λq h=>dz h λj H J=>f j q H J
theorem aaS(h:idx k n=some j):seqIndex? k n=some j:=by
 unfold seqIndex?
 refine xQ h (λa b e=>?_) λa b e=>?_
 ·rw [show(if k<0 then k+(n:Int) else k)=k from if_neg (ky.mpr a),if_pos (by simp only [HR,decide_eq_true_eq];exact⟨a,b⟩),e]
 ·rw [show(if k<0 then k+(n:Int) else k)=k+n from if_pos a,if_pos (by simp only [HR,decide_eq_true_eq];exact(aq aX 0x1010111021020041102004001070010230001001 a b rfl)),e]
section
variable {IV:Type}{p:IV->af->Bool}{e:bY}{es:List bY}{k:IV}
theorem K5(h:p k e.key=true):findBy p (dG (e::es)) k=some e.val:=by
 unfold findBy
 rw [HB]
 exact congrArg _ (yW (p:=λe:bY=>p k e.key) (a:=e) (l:=es) h)
theorem K6(h:¬p k e.key=true):findBy p (dG (e::es)) k=findBy p (dG es) k:=by
 unfold findBy
 rw [HB,HB]
 exact congrArg _ (we (p:=λe:bY=>p k e.key) (a:=e) (l:=es) h)
end
section
variable {w:bz}{h:cR}{W:Wd}{N:Nat}
theorem RI.find:∀{l:List (Int×V)} {es:List bY},RI w h W N l es->(jy l k=none/\findBy mJ (dG es) k=none)\/∃v u,jy l k=some v/\findBy mJ (dG es) k=some u/\R h W N v u
 |[],_,x=>by cases x;exact .inl ⟨rfl,rfl⟩
 |(J,v')::l,_,⟨t,u,r,q,a,b⟩=>by
  subst q
  by_cases H:J=k
  ·exact .inr ⟨v',u,Mr H,K5 (p:=mJ) (beq_iff_eq.mpr H:),a⟩
  ·rw [Ms H,K6 (p:=mJ) (k:=k) (e:=⟨hashInt J,.int J t,u⟩) (λq=>H (eq_of_beq q))]
   exact RI.find b
theorem RI.keys:∀{l:List (Int×V)} {es:List bY},RI w h W N l es->∀e∈es,∃k t,e.key=.int k t/\e.hash=hashInt k
 |[],_,x=>by cases x;exactλe H=>nomatch H
 |(J,v')::l,_,⟨t,u,r,q,a,b⟩=>by
  subst q
  exactλe H=>(eJ.mp H).elim (λq=>q▸⟨J,t,rfl,rfl⟩) (RI.keys b e)
theorem RI.map(x:RI w h W N l es)(e:h.get? a=some (dictOf es ep)):h.IntMap a (findBy mJ (dG es)):=
 ⟨_,_,ep,e,rfl,rfl,λe H=>x.keys e (qx.mp H),λY=>rfl⟩
theorem RS.find:∀{l:List (bu×V)} {es:List bY},RS w h W N l es->pY l k=some v->∃u,findBy zj (dG es) k.str=some u/\R h W N v u
 |[],_,_,h=>nomatch h
 |(J,v')::l,_,⟨t,u,r,q,a,b⟩,h=>by
  subst q
  by_cases H:J=k
  ·exact⟨u,K5 (p:=zj) (beq_iff_eq.mpr (congrArg bu.str H):),bT ((O1 H).symm.trans h)▸a⟩
  ·rw [K6 (p:=zj) (k:=k.str) (e:=⟨hashStr w J.str,.str J.str t,u⟩) (λq=>H (bu.str_inj (eq_of_beq q)))]
   exact RS.find b ((O3 H).symm.trans h)
theorem RS.keys:∀{l:List (bu×V)} {es:List bY},RS w h W N l es->∀e∈es,∃k,(strKind prog w).is k e.key=true/\e.hash=(strKind prog w).hash k
 |[],_,x=>by cases x;exactλe H=>nomatch H
 |(J,v')::l,_,⟨t,u,r,q,a,b⟩=>by
  subst q
  exactλe H=>(eJ.mp H).elim (λq=>q▸⟨J.str,strKind_is prog w _ t,rfl⟩) (RS.keys b e)
end
noncomputable def pO(e:aG):Bool:=!Nat.beq e.ctorIdx 26
theorem tR{sl:aG}(h:pO sl=true):subscripted sl false o i=operate [o,i] (getItem o i)/\subscripted sl true o i=runValue (.builtin "lifetime.subscript" ⟨[o,i],[]⟩):=by
 cases sl with
 |Slice _ _ _ _=>exact ff h
 |_=>exact⟨rfl,rfl⟩
theorem WD(P:cE):findIn (K P) (.ref (104:Nat)) "__getitem__"=some (some (.ref (94:Nat))):=by rfl'
theorem JF(P:cE):fnIn (K P) 94=true/\isFn (K P) (.ref (94:Nat))=true:=⟨by rfl',by rfl'⟩
theorem Ok.in1(h:Ok A d)(O:d'+1<=d):Ok A.in1 d':=⟨h.hn,h.gu,by have:=h.xn;show A.depth+d'<=990;exact(aq bL 0x1113de0310020433de0311020431010110043 O this rfl),by have:=h.yP;show A.units+1+8*d'<=9000;exact(aq bL 0x8112328041008016101120443232804110801620431010110043 O this rfl)⟩
section
variable {φ:bK}{d d':Nat}{w:bz}{s₀ s:aj}{A:cu}{W:Wd}{σ σ':AH}{S:bF}{nm:List Str}{env:Env}{ρ:bc}{v:V}{Q:af->aj->Prop}
theorem uT(H:i4 φ d')(V:Ok A d')(T:St w s₀ W σ s)(J:RL s.heap W σ.length vs us)(h:am φ a vs σ=some (v,σ'))(k:KP w s₀ W σ s σ' v Q):
  ao (model aL w) A (call (.ref a) us) Q (λY Y=>False) s:=dz h λf e h=>v9 (xh (H a f e V T J h k) λr s' q=>by
 cases r with
 |ok r=>cases r<;>exact q
 |error _=>exact q)
theorem aeE(H:m<N)(x:R h W N v' u):RL h W N [.ref m,v'] [.ref (W.π m),u]:=⟨_,_,rfl,⟨H,rfl⟩,_,_,rfl,x,rfl⟩
theorem aen{sl:aG}(T:St w s₀ W σ s)(U:pO sl=true)(e:σ[m]?=some (.list l))(h:Bs l i=some v)(k:KP w s₀ W σ s σ v Q):wpAny (model aL w) A (subscriptTail value sl (.ref (W.π m)) (.int i t)) Q (λY Y=>False) s:=
 NG h λj V hj hv=>by
  obtain⟨xs,J,O⟩:=T.lst e
  obtain⟨u',H,Z⟩:=O.get hv
  have hz:(dG xs).size=l.length:=O.length
  have hm:l.length<=1000:=V
  refine uz J.typeIs HG.lookup ?_ (tR U).1
  exact xQ hj (λa b e=>wpAny_getItem_list J a (aq aX 0x11180000000000000001010011020013e8031103 V b rfl) (by rw [e,rQ];exact H) (k.same T Z)) λa b e=>wpAny_getItem_list_neg J a (by rw [hz];exact b) (aq aX 0x1110080000000000000001013000102303e8031103 V b rfl) (by rw [hz,e,rQ];exact H) (k.same T Z)
theorem ahA(Φ:i4 φ d')(hd:d'+3<=d)(hA:Ok A d)(T:St w s₀ W σ s){sl:aG}(U:pO sl=true)(x:R s.heap W σ.length a u)(y:R s.heap W σ.length i u')(h:cP φ a i σ=some (v,σ'))(k:KP w s₀ W σ s σ' v Q):
  ao (model aL w) A (subscriptTail value sl u u') Q (λY Y=>False) s:=
 fj h (λh=>kQ h x λm hm h=>fj h
  (λh=>fH h y λi t h=>fj h
   (λh=>jr h λl e h=>pairE (P:=λv σ'=>KP w s₀ W σ s σ' v Q->_) h (λv h k=>up<|aen T U e h k) k)
   λh=>fj h
    (λh=>uN h λl e h=>pairE (P:=λv σ'=>KP w s₀ W σ s σ' v Q->_) h (λv h k=>let⟨es,ep,H,J,h3,h4⟩:=T.cell _ _ e;J.find.elim (λf=>nn (f.1.symm.trans h)) λ⟨v',u',Z,f2,f3⟩=>
     up<|uz (J.map H).typeIs slot_dict_getitem.lookup (wpAny_getItem_intMap (J.map H) f2 (k.tok T _ (bT (Z.symm.trans h)▸f3))) (tR U).1) k)
    λh=>wR h λC l e h=>cf h λhC h=>by obtain⟨H,jw,es,ep,J,h5,_⟩:=T.cell _ _ e;exact ahz T.K (show InstAt s.heap (W.π m) (instObj 104 (W.δ m)) (104:Nat) (some (dictOf es ep)) from⟨hC▸H,rfl,rfl,J⟩) (WD _) (JF _).1 (JF _).2 (uT Φ (hA.in1 (bo (Cn ∅ _) hd)) T (aeE (v':=.int i) hm ⟨t,rfl⟩) h k) (tR U).2)
  λh=>ait h y λx t h=>dz h λc e h=>Wr h λl q h=>pairE (P:=λv σ'=>KP w s₀ W σ s σ' v Q->_) h (λv h k=>let⟨es,ep,H,J⟩:=T.cell m (.gX l) (q▸e);let⟨u',Z,f2⟩:=J.find h;
   have hM:s.heap.MapOf (strKind aL w) (W.π m) (findBy zj (dG es)):=⟨_,_,ep,H,⟨rfl,rfl,rfl⟩,rfl,λe he=>J.keys e (qx.mp he),λY=>rfl⟩
   up<|uz hM.typeIs slot_dict_getitem.lookup (wpAny_getItem_of (knd:=strKind aL w) (strKind_is aL w _ t) hM Z (k.tok T _ f2)) (tR U).1) k)
 λh=>fH h y λi t h=>fj h
  (λh=>rF h x λl c us H J h=>pairE (P:=λv σ'=>KP w s₀ W σ s σ' v Q->_) h (λv h k=>NG h λj V hj hv=>let⟨u',g1,g2⟩:=J.get hv;
   up<|uz H.typeIs slot_tuple_getitem.lookup (getItem_tuple H (xQ hj (λa Y Y=>ku ∅ a) λY a Y=>ku (by unfold most at V;exact(aa au 0x1100238000000000000000101303e8031003 V rfl)) a) (xQ hj (λY a Y=>by unfold most at V;exact(aq aX 0x11180000000000000001010011020013e8031103 V a rfl)) λa Y Y=>(aa az 0x118000000000000000101001001001 a rfl)) (aaS (n:=us.length) (J.length.symm▸hj)) (rQ.trans g1) (k.same T g2)) (tR U).1) k)
  λh=>B6 h x λb O h=>cf h λq h=>eS h (λk=>by
   have e:Value.bytes b O=.bytes b.toList.toArray O:=congrArg (Value.bytes · O) SR.symm
   have q1:b.size<=1000:=q.1
   rw [e]
   exact up<|uz (Il s _ O) FB.slot_bytes_getitem.lookup (getItem_bytes (by simp;exact(aa aX 0x11100000000000b110310200100001073e80311037 q rfl)) q.2.1 (by simpa using q.2.2) (k.tok T _ ⟨_,rfl⟩)) (tR U).1) k
end
theorem ag2{S:bF}(Φ:i4 φ d')(hd:d'+3<=d)(X:aP φ d S nm a ea)(Y:aP φ d S nm i ei)(hs:pO ei=true):aP φ d S nm (.sub a i) (.Subscript ea ei pos):=by
 intro w s₀ A env W σ s ρ v σ' Q hA T Z h k
 exact bg h λx aD h1 h=>bg h λy bR h2 h=>zK (X hA T Z h1 λu s₁ aI O H V=>Y hA O (Z.step H) h2 λu' s₂ cM U J eY=>ahA Φ hd hA U hs (V.mono J.grow) eY h (k.from (H.trans J)))
end
section
section
variable {w:bz}{s₀ s:aj}{A:cu}{W:Wd}{σ σ':AH}{v:V}{Q:af->aj->Prop}
theorem ag9(h:ly front a y σ=some (v,σ')){G:Prop}(f:∀m i l,a=.ref m->y=.int i->nI σ m=some l->l.length<=most->(some (V.ref σ.length,σ++[.list (if front then l.take (clipAt l.length i) else l.drop (clipAt l.length i))])=some (v,σ'))->G):G:=
 p8 h λm e h=>rE h λi H h=>dz h λl J h=>cf h λq h=>f m i l e H J q.2 h
theorem ag'(T:St w s₀ W σ s){front:Bool}{m:Nat}{l:List V}{i:Int}{t:Tok}{lo H:af}{value:aG}{l0 u0:Option aG}{p:Pos}{sl:cT}(e:nI σ m=some l)(U:l.length<=most)
  (Z:s.heap.IsSliceOf sl lo H .none) (hk:lo=(if front then .none else .int i t)/\H=(if front then .int i t else .none)) (k:KP w s₀ W σ s (σ++[.list (if front then l.take (clipAt l.length i) else l.drop (clipAt l.length i))]) (.ref σ.length) Q):
  wpAny (model aL w) A (subscriptTail value (.Slice l0 u0 none p) (.ref (W.π m)) (.ref sl)) Q (λY Y=>False) s:=by
 obtain⟨rfl,rfl⟩:=hk
 obtain⟨xs,J,O⟩:=T.E7 e
 have hz:(dG xs).size=l.length:=O.length
 refine uz (ops:=[.ref sl,.ref (W.π m)]) J.typeIs HG.lookup ?_ rfl
 cases front with
 |true=>
  refine Si J Z .none (.int i t) .none ∅ ?_ (by rw [hz];exact qZ U)
  rw [slicePick_plain]
  simp only [Option.elim,hz,List.drop_zero,CV]
  exact k.q9 T (O.take _)
 |false=>
  refine Si J Z (.int i t) .none .none ∅ ?_ (by rw [hz];exact qZ U)
  rw [slicePick_plain]
  simp only [Option.elim,hz]
  rw [yX (by rw [wl,O.length];exact cY _)]
  exact k.q9 T (O.drop _)
theorem Pe(T:St w s₀ W σ s)(front:Bool){a y:V}{u u' lo O:af}{value:aG}{l0 U:Option aG}{p:Pos}(x:R s.heap W σ.length a u)(r:R s.heap W σ.length y u')(H:lo=(if front then .none else u')/\O=(if front then u' else .none))(h:ly front a y σ=some (v,σ'))(k:KP w s₀ W σ s σ' v Q):
  ao (model aL w) A (newFields "slice" [lo,O,.none]) (λi s₂=>ao (model aL w) A (subscriptTail value (.Slice l0 U none p) u i) Q (λY Y=>False) s₂) (λY Y=>False) s:=
 ag9 h λm i l e J Z hl h9=>by
  subst e J
  obtain⟨hm,rfl⟩:=x
  obtain⟨t,rfl⟩:=r
  refine up (rI (T:="slice") (data:=.fields [lo,O,.none].toArray) ?_)
  have z:=T.more [] (k:=s.toks) (h':=s.heap.push {cls:=.type "slice",data:=.fields [lo,O,.none].toArray}) (λb o e=>dZ _ e)
  exact up<|eS h9 (λk=>ag' z.1 Z hl (Heap.IsSliceOf.new _ _ _ _) H (k.from z.2)) k
end
section
variable {φ:bK}{d d':Nat}{S:bF}{nm:List Str}
theorem ag0(X:aP φ d S nm a ea)(Y:aP φ d S nm k ek):aP φ d S nm (.sliceTo a k) (.Subscript ea (.Slice none (some ek) none p) pos):=by
 intro w s₀ A env W σ s ρ v σ' Q hA T Z h k
 exact bg h λx aD h1 h=>bg h λy bR h2 h=>zK (X hA T Z h1 λu s₁ aI O H V=>aF (aS (aF (cz (Y hA O (Z.step H) h2 λu' s₂ cM U J eY=>
  aF (cz (aS (Pe U true (V.mono J.grow) eY ⟨rfl,rfl⟩ h (k.from (H.trans J))))))))))
theorem agZ(X:aP φ d S nm a ea)(Y:aP φ d S nm k ek):aP φ d S nm (.sliceFrom a k) (.Subscript ea (.Slice (some ek) none none p) pos):=by
 intro w s₀ A env W σ s ρ v σ' Q hA T Z h k
 exact bg h λx aD h1 h=>bg h λy bR h2 h=>zK (X hA T Z h1 λu s₁ aI O H V=>aF (Y hA O (Z.step H) h2 λu' s₂ cM U J eY=>
  aF (cz (aS (aF (cz (aS (Pe U false (V.mono J.grow) eY ⟨rfl,rfl⟩ h (k.from (H.trans J))))))))))
end
noncomputable def Nj:List (Str×af):=[(sl "__name__",(.str (sl "law_tg0046_01") 10583)),(sl "__doc__",.none),(sl "__package__",.none),(sl "__loader__",(.builtin "__main__.__loader__#opaque")),(sl "__spec__",.none),(sl "__annotations__",(.ref 6)),(sl "__builtins__",(.ref 4)),(sl "__file__",(.str (sl "/claim/cut.py") 172)),(sl "__cached__",.none),(sl "_wall",(.ref 21)),(sl "PressError",(.ref 39)),(sl "BadDistance",(.ref 52)),(sl "BadArgument",(.ref 64)),(sl "STATES",(.int 12 258)),(sl "LITERAL_STATES",(.int 7 260)),(sl "MOST_POSITIONS",(.int 16 262)),(sl "START",(.int 1024 264)),(sl "LEAST_MATCH",(.int 2 266)),(sl "MOST_MATCH",(.int 273 268)),(sl "LENGTH_STATES",(.int 4 270)),(sl "LITERAL_ROW",(.int 768 272)),(sl "FIRST_DIRECT",(.int 14 274)),(sl "ALIGN_BITS",(.int 4 276)),(sl "SHORT_ROW",(.int 64 278)),(sl "Cells",(.ref 104)),(sl "fresh",(.ref 115)),(sl "Props",(.ref 154)),(sl "after_literal",(.ref 165)),(sl "after_match",(.ref 172)),(sl "after_rep",(.ref 179)),(sl "after_short",(.ref 186)),(sl "is_after_literal",(.ref 193)),(sl "length_state",(.ref 200)),(sl "slot_base",(.ref 207)),(sl "slot_of",(.ref 214)),(sl "LengthModels",(.ref 238)),(sl "Models",(.ref 294)),(sl "Reps",(.ref 352)),(sl "MODEL_BITS",(.int 11 661)),(sl "TOTAL",(.int 2048 664)),(sl "LEARN",(.int 5 666)),(sl "LEAST_SPAN",(.int 16777216 670)),(sl "MOST_SPAN",(.int 4294967295 676)),(sl "CARRY",(.int 4294967296 680)),(sl "MAY_CARRY",(.int 4278190080 684)),(sl "FLUSHED",(.int 5 686)),(sl "PRICE_STEPS",(.int 4 688)),(sl "BIT_PRICE",(.int 16 691)),(sl "CELL_BITS",(.int 4 693)),(sl "next_model",(.ref 363)),(sl "need_bit",(.ref 370)),(sl "need_value",(.ref 377)),(sl "turned",(.ref 384)),(sl "RangeWriter",(.ref 464)),(sl "price_of",(.ref 475)),(sl "price_rows",(.ref 480)),(sl "PriceRows",(.ref 3698)),(sl "bit_price",(.ref 3709)),(sl "direct_price",(.ref 3716)),(sl "tree_price",(.ref 3723)),(sl "reverse_price",(.ref 3730)),(sl "KINDS",(.ref 3731)),(sl "need_whole",(.ref 3738)),(sl "need_number",(.ref 3745)),(sl "step_length",(.ref 3752)),(sl "repeats",(.ref 3759)),(sl "octet_behind",(.ref 3766)),(sl "StepCoder",(.ref 3846)),(sl "StepMeter",(.ref 3895)),(sl "LzmaWriter",(.ref 4021)),(sl "steps_price",(.ref 4030)),(sl "_law_jar",(.ref 4037)),(sl "_law_pick",(.ref 4044)),(sl "_law_steps",(.ref 4051)),(sl "_law_scene",(.ref 4056)),(sl "_law_path",(.ref 4061)),(sl "_law_letter",(.ref 4066)),(sl "_law_many",(.ref 4073)),(sl "_law_far",(.ref 4078)),(sl "_law_again",(.ref 4085)),(sl "_law_bits",(.ref 4092)),(sl "_law_due",(.ref 4097)),(sl "_law_rows",(.ref 4104)),(sl "_law_told",(.ref 4111)),(sl "_law_octets",(.ref 4118)),(sl "_law_spent",(.ref 4125)),(sl "_law_run",(.ref 4132)),(sl "law",(.ref 4137))]
theorem ab2(P:cE):pairsOf (o3 P)=Nj:=by rfl'
noncomputable def jv(x:Str):Option af:=Nj.lookup x
theorem Nk{P:cE}(X:(K P).In h)(x:Str):h.nsMap mainGlobals x=jv x:=by
 rw [SS (vG X),Ff (a:=mainGlobals) (rX X),ab2];rfl
def Dr(x:Str)(v:af):Prop:=∀P,(pairsOf (o0 P)).lookup x=some v
theorem V8{P:cE}(X:(K P).In h)(b:Dr x v):h.nsMap builtinsNs x=some v:=by
 rw [SS (zV X),Ff (a:=builtinsNs) (C7 X)];exact b P
section
variable {φ:bK}{d d':Nat}{w:bz}{s₀ s:aj}{A:cu}{E:af->aj->Prop}{W:Wd}{σ σ':AH}{S:bF}{nm:List Str}{env:Env}{ρ:bc}
theorem tg(T:St w s₀ W σ s)(Z:cV S nm env W σ ρ s){Q:af->aj->Prop}(O:S.names.lookup x=some .globalImplicit)(H:jv x=some v)(J:(x==("__debug__":Str))=false)(h:Q v s):
  wpAny (model aL w) A (eval (.Name x pos) env) Q E s:=
 oZ (Z.sc▸Z.kind) (Z.sc▸O:) (ug (mg:=s.heap.nsMap mainGlobals) (Z.gl.symm▸(CE (vG T.K):s.heap.Ns mainGlobals (s.heap.nsMap mainGlobals))) ((Nk T.K x).trans H) h) J
theorem ad2(T:St w s₀ W σ s)(Z:cV S nm env W σ ρ s){Q:af->aj->Prop}(O:S.names.lookup x=some .globalImplicit)(H:jv x=none)(J:Dr x v)(U:(x==("__debug__":Str))=false)(h:Q v s):
  wpAny (model aL w) A (eval (.Name x pos) env) Q E s:=
 oZ (Z.sc▸Z.kind) (Z.sc▸O:) (Hy (mg:=s.heap.nsMap mainGlobals) (mb:=s.heap.nsMap builtinsNs) (Z.gl.symm▸(CE (vG T.K):s.heap.Ns mainGlobals (s.heap.nsMap mainGlobals))) ((Nk T.K x).trans H) (Z.bl.symm▸(CE (zV T.K):s.heap.Ns builtinsNs (s.heap.nsMap builtinsNs))) (V8 T.K J) h) U
theorem agM(O:S.names.lookup x=some .globalImplicit)(H:jv x=some (.int i t))(J:(x==("__debug__":Str))=false):aP φ d S nm (.const (.int i)) (.Name x pos):=by
 intro w s₀ A env W σ s ρ v σ' Q V T Z h
 exact vc h λk=>up<|tg T Z O H J (k.same T ⟨t,rfl⟩)
theorem l7{M:iW}{Q:Args->aj->Prop}(h:ao M A (spliced (lF es env)) (λus s'=>Q ⟨us,[]⟩ s') E s):ao M A (evalArgs f true (lF es env) []) Q E s:=match es,h with
 |[],h=>aF (kg (h:ao M A (spliced []) _ E s) (λus s' h'=>by
  first
   |exact cz (aF (aS (aF (aS (aS h')))))
   |exact aF (aS (cz (aF (aS (aF (aS (aS h')))))))) λY Y q=>q)
 |_::_,h=>YR h
theorem abb(J:(K w.params).lookup a=some o)(H:o.data=.func fd):∀h,(K w.params).In h->∃k,(k=Ug\/k=Ub\/k=Tn)/\Looks (model aL w) h (keeperOf (.ref a)) k:=
 λh X=>⟨.frame,.inl rfl,λA Q E s k q=>aM (qs (k _ _ (X a o J)) (by rw [H];exact cH q))⟩
theorem agL(Φ:i4 φ d')(hd:d'+3<=d)(X:jP φ d S nm l es)(hx:S.names.lookup x=some .globalImplicit)(hv:jv x=some (.ref a))(O:(x==("__debug__":Str))=false)
  (hs:es.all fV=true) (hf:∀P,∃o fd,(K P).lookup a=some o/\o.data=.func fd):aP φ d S nm (.fn a l) (.Call (.Name x p) es [] pos):=by
 intro w s₀ A env W σ s ρ v σ' Q Y T Z h k
 obtain⟨o,fd,ho,U⟩:=hf w.params
 exact bg h λvs aD h1 h=>wI (up<|tg T Z hx hv O (oX hs▸wZ (P:=λh=>(K w.params).In h) mE (abb ho U) (l7 (X Y T Z h1 λus s₁ aI J H V=>
  ⟨J.K,uT Φ (Y.le (bo (ki _ _) hd)) J V h (k.from H)⟩))))
end
end
section
theorem Oc:∀{l:List (Str×cT)},(l.map (·.2)).Nodup->∀{x y:Str} {c:cT},(x,c)∈l->(y,c)∈l->x=y
 |(z,d)::r,H,x,y,c,O,J=>
  have H:=iz.mp H
  have no:∀{x:Str} {c:cT},(x,c)∈r->c≠d:=λh e=>H.1 (e▸mQ (f:=(·.2)) h)
  (eJ.mp O).elim (λV=>(eJ.mp J).elim (λU=>(rP V).1.trans (rP U).1.symm) λJ=>absurd (rP V).2 (no J))
   λO=>(eJ.mp J).elim (λU=>absurd (rP U).2 (no O)) λJ=>Oc H.2 O J
theorem NF{nm:List Str}(h:nm.Nodup){i j:Nat}{x:Str}(O:nm[i]?=some x)(H:nm[j]?=some x):i=j:=(List.getElem?_inj (gC.mp O).1 h).mp (O.trans H.symm)
section
variable {w:bz}{s₀ s:aj}{W:Wd}{σ:AH}{A:cu}{E:af->aj->Prop}{S:bF}{nm:List Str}{env:Env}{ρ:bc}{a:Nat}{h':cR}
theorem cV.Dw(Z:cV S nm env W σ ρ s)(h:env.cells.lookup x=some c):(c:Nat)≠env.locals:=λq=>(iz.mp Z.nodup).1 (q▸mQ (f:=(·.2)) (mem_lookup h))
theorem cV.JE(Z:cV S nm env W σ ρ s)(h:env.cells.lookup x=some c)(h':env.cells.lookup y=some c):x=y:=Oc (iz.mp Z.nodup).2 (mem_lookup h) (mem_lookup h')
theorem cV.turn(T:St w s₀ W σ s)(Z:cV S nm env W σ ρ s)(H:a∈fS env)(U:kq a s.heap h')(e:s.heap.get? a=some o)(V:∀x n,o.data≠.seq x n)(Y:Lv h' a)(k:Nat):
  St w s₀ W σ {s with heap:=h',toks:=k}/\Step [a] W σ s W σ {s with heap:=h',toks:=k}:=by
 have keep:∀(b:Nat) o,s.heap.get? b=some o->b∉[a]->h'.get? b=some o:=λb o e O=>(U.2 b λq=>O (cA.mpr q)).trans e
 exact T.ext (X:=[a]) (k:=k) keep (λb O=>cA.mp O▸⟨(Z.gW a H).1,(Z.gW a H).2.2⟩)
  (λb ws ⟨o',J,c',n,d⟩=>⟨o',keep b o' J (λq=>V _ n (bT ((cA.mp q▸J:).symm.trans e)▸d)),c',n,d⟩) (λb O=>cA.mp O▸Y)
theorem BO{i j:Nat}{x y:Str}{v v':V}(H:nm.Nodup)(U:nm[i]?=some x)(Y:nm[j]?=some y)(J:(ρ.set i (some v))[j]?=some (some v')){G:Prop}(f:y=x->v'=v->G)(Z:y≠x->ρ[j]?=some (some v')->G):G:=by
 by_cases O:j=i
 ·subst O
  refine f (bT (Y.symm.trans U)) (bT (bT (J.symm.trans (Ch (lN▸(gC.mp J).1)))))
 ·exact Z (λe=>O (NF H Y (e▸U))) ((qw (eN O)).symm.trans J)
theorem Pw(J:nm.Nodup)(T:St w s₀ W σ s)(Z:cV S nm env W σ ρ s){i:Nat}{x:Str}{v:V}{u:af}(hi:nm[i]?=some x)(hk:S.names.lookup x=some .local)(hv:R s.heap W σ.length v u){Q:Unit->aj->Prop}
  (hQ:∀s',St w s₀ W σ s'->Step [env.locals] W σ s W σ s'->cV S nm env W σ (ρ.set i (some v)) s'->Q () s'):wpAny (model aL w) A (storeName env x u) Q E s:=
 by obtain⟨m,hm,hh⟩:=Z.ns;exact Hq (Z.sc▸hk:) hm (λh' hn hs=>by
   obtain⟨o,es,ep,O,e2,_⟩:=id hm
   have z:=Z.turn T (gh ..) hs O (λx n q=>nomatch e2.symm.trans q) (by obtain⟨o,_,_,q,_⟩:=hn;exact⟨o,q⟩) (s.toks+1)
   have G:=z.2.grow
   have K:∀(c:cT) o,(c:Nat)≠env.locals->s.heap.get? c=some o->h'.get? c=some o:=λc o q e=>(hs.2 c q).trans e
   exact hQ _ z.1 z.2 {Z with
    ns:=⟨_,hn,λj y v' H h2 h3=>BO J hi H h3 (λO e2=>⟨u,if_pos O,e2▸hv.mono G⟩) λU h4=>let⟨u',a1,a2⟩:=hh j y v' H h2 h4;⟨u',(if_neg U).trans a1,a2.mono G⟩⟩
    cell:=λj y v' H h2 h3=>BO J hi H h3 (λO Y=>nomatch (hk.symm.trans (O▸h2:))) λU h4=>let⟨c,u',a1,⟨oc,q1,q2⟩,a3⟩:=Z.cell j y v' H h2 h4;⟨c,u',a1,⟨oc,K c oc (Z.Dw a1) q1,q2⟩,a3.mono G⟩
    cells:=λy H=>let⟨c,v',a1,⟨oc,q1,q2⟩⟩:=Z.cells y H;⟨c,v',a1,⟨oc,K c oc (Z.Dw a1) q1,q2⟩⟩
    gW:=λa ha=>⟨(Z.gW a ha).1,z.2.live _ (Z.gW a ha).2.1,(Z.gW a ha).2.2⟩}) (by rw [Z.sc,Z.kind];rfl)
theorem vZ(H:nm.Nodup)(T:St w s₀ W σ s)(Z:cV S nm env W σ ρ s){i:Nat}{x:Str}{v:V}{u:af}(hi:nm[i]?=some x)(O:S.names.lookup x=some .local\/S.names.lookup x=some .cell)(hv:R s.heap W σ.length v u){Q:Unit->aj->Prop}
  (hQ:∀s',St w s₀ W σ s'->Step (fS env) W σ s W σ s'->cV S nm env W σ (ρ.set i (some v)) s'->Q () s'):wpAny (model aL w) A (storeName env x u) Q E s:=
 O.elim
  (λO=>Pw H T Z hi O hv λs' T' j0=>hQ s' T' (j0.wide λb hb=>cA.mp hb▸gh ..))
  λO=>let⟨c,v0,U,J⟩:=Z.cells x O;SK (Z.sc▸Z.kind) (Z.sc▸O:) U J λh' hn hs=>by
   obtain⟨oc,e1,e2⟩:=id J
   have z:=Z.turn T (vJ U) hs e1 (λx n q=>nomatch e2.symm.trans q) (by obtain⟨o,q,_⟩:=hn;exact⟨o,q⟩) s.toks
   have G:=z.2.grow
   have K:∀(y:Str) (c':cT) o,y≠x->env.cells.lookup y=some c'->s.heap.get? c'=some o->h'.get? c'=some o:=λy c' o q a e=>(hs.2 c' λe=>q (Z.JE a (e▸U))).trans e
   exact hQ _ z.1 (z.2.wide λb hb=>cA.mp hb▸vJ U) {Z with
    ns:=by obtain⟨m,⟨o,es,ep,q1,q2⟩,hh⟩:=Z.ns;exact⟨m,⟨o,es,ep,(hs.2 _ (Z.Dw U).symm).trans q1,q2⟩,λj y v' h1 h2 h3=>BO H hi h1 h3 (λe1 Y=>nomatch (O.symm.trans (e1▸h2:))) λjw h4=>let⟨u',a1,a2⟩:=hh j y v' h1 h2 h4;⟨u',a1,a2.mono G⟩⟩
    cell:=λj y v' h1 h2 h3=>BO H hi h1 h3 (λe1 e2=>⟨c,u,e1▸U,hn,e2▸hv.mono G⟩) λjw h4=>let⟨c,u',a1,⟨oc,q1,q2⟩,a3⟩:=Z.cell j y v' h1 h2 h4;⟨c,u',a1,⟨oc,K y c oc jw a1 q1,q2⟩,a3.mono G⟩
    cells:=λy h1=>if hy:y=x then⟨c,_,hy▸U,hn⟩ else let⟨c,v',a1,⟨oc,q1,q2⟩⟩:=Z.cells y h1;⟨c,v',a1,⟨oc,K y c oc hy a1 q1,q2⟩⟩
    gW:=λa ha=>⟨(Z.gW a ha).1,z.2.live _ (Z.gW a ha).2.1,(Z.gW a ha).2.2⟩}
end
end
section
def UC(h:cR)(W:Wd)(N:Nat):Fl->iH->Prop
 |.next,f=>f=.next
 |.cont,f=>f=.cont
 |.ret v,f=>∃u,f=.ret u/\R h W N v u
def KS(S:bF)(nm:List Str)(env:Env)(w:bz)(s₀:aj)(W:Wd)(σ:AH)(s:aj)(r:Fl×bc)(σ':AH)(Q:iH->aj->Prop):Prop:=
 ∀f s' W',St w s₀ W' σ' s'->Step (fS env) W σ s W' σ' s'->cV S nm env W' σ' r.2 s'->UC s'.heap W' σ'.length r.1 f->Q f s'
def eG(φ:bK)(d:Nat)(S:bF)(nm:List Str)(x:XS)(st:cy):Prop:=
 ∀⦃w:bz⦄ ⦃s₀:aj⦄ ⦃A:cu⦄ ⦃env:Env⦄ ⦃W:Wd⦄ ⦃σ:AH⦄ ⦃s:aj⦄ ⦃ρ:bc⦄ ⦃r:Fl×bc⦄ ⦃σ':AH⦄ ⦃Q:iH->aj->Prop⦄,Ok A d->St w s₀ W σ s->cV S nm env W σ ρ s->xs φ x ρ σ=some (r,σ')->KS S nm env w s₀ W σ s r σ' Q->
  ao (model aL w) A (exec st env) Q (λY Y=>False) s
def om(φ:bK)(d:Nat)(S:bF)(nm:List Str)(x:XB)(b:List cy):Prop:=
 ∀⦃w:bz⦄ ⦃s₀:aj⦄ ⦃A:cu⦄ ⦃env:Env⦄ ⦃W:Wd⦄ ⦃σ:AH⦄ ⦃s:aj⦄ ⦃ρ:bc⦄ ⦃r:Fl×bc⦄ ⦃σ':AH⦄ ⦃Q:iH->aj->Prop⦄,Ok A d->St w s₀ W σ s->cV S nm env W σ ρ s->xb φ x ρ σ=some (r,σ')->KS S nm env w s₀ W σ s r σ' Q->
  ao (model aL w) A (execs b env) Q (λY Y=>False) s
section
variable {φ:bK}{d:Nat}{S:bF}{nm:List Str}{env:Env}{w:bz}{s₀ s s₁ s₂:aj}{W aI cM:Wd}{σ aD bR σ':AH}{r:Fl×bc}{Q:iH->aj->Prop}{ρ:bc}
theorem KS.from(k:KS S nm env w s₀ W σ s r σ' Q)(st:Step (fS env) W σ s aI aD s₁):KS S nm env w s₀ aI aD s₁ r σ' Q:=λf s' W' a b c e=>k f s' W' a (st.trans b) c e
theorem Step.ir{X:List Nat}(st:Step [] W σ s aI aD s₁):Step X W σ s aI aD s₁:=st.wide λY h=>nomatch h
theorem af':om φ d S nm .nil []:=by
 intro w s₀ A env W σ s ρ r σ' Q V T Z h
 exact bX h λk=>up<|wo (k _ _ W T (Step.refl ..) Z rfl)
theorem af9{st:cy}(X:eG φ d S nm x st)(Y:om φ d S nm b yE):om φ d S nm (.cons x b) (st::yE):=by
 intro w s₀ A env W σ s ρ r σ' Q V T Z h k
 refine bg h λp aD h1 h=>YS (X V T Z h1 λf s₁ aI J H O U=>?_)
 obtain⟨fl,iJ⟩:=p
 cases fl with
 |next=>exact U▸Y V J O h (k.from H)
 |cont=>exact U▸bX (P:=λr σ'=>KS S nm env w s₀ W σ s r σ' Q->Q .cont s₁) h (λk=>k _ _ aI J H O rfl) k
 |ret v=>
  obtain⟨u,e,hu⟩:=U
  exact e▸bX (P:=λr σ'=>KS S nm env w s₀ W σ s r σ' Q->Q (.ret u) s₁) h (λk=>k _ _ aI J H O ⟨u,rfl,hu⟩) k
theorem ags(X:aP φ d S nm x e):eG φ d S nm (.ret x) (.Return (some e) pos):=by
 intro w s₀ A env W σ s ρ r σ' Q O T Z h
 exact bg h λv aD U h=>bX h λk=>UO (X O T Z U λu s₁ aI J H V=>k _ _ aI J H.ir (Z.step H) ⟨u,rfl,V⟩)
theorem agt:eG φ d S nm .lu (.Return none pos):=by
 intro w s₀ A env W σ s ρ r σ' Q V T Z h
 exact bX h λk=>up<|wpAny_Return_none (k _ _ W T (Step.refl ..) Z ⟨.none,rfl,rfl⟩)
theorem ago:eG φ d S nm .cont (.Continue pos):=by
 intro w s₀ A env W σ s ρ r σ' Q V T Z h
 exact bX h λk=>up<|wpAny_Continue (k _ _ W T (Step.refl ..) Z rfl)
theorem agn{st:cy}:eG φ d S nm .bad st:=by
 intro w s₀ A env W σ s ρ r σ' Q V T Z h
 exact nn h
theorem agq(X:fY φ d S nm c O)(Y:om φ d S nm a U)(Yb:om φ d S nm b eb):eG φ d S nm (.bj c a b) (.If O U eb pos):=by
 intro w s₀ A env W σ s ρ r σ' Q V T Z h k
 exact bg h λv aD h1 h=>kP h λt e h=>UF (X (b:=t) V T Z (e▸h1) λs₁ aI J H=>match t,h with
  |true,h=>Y V J (Z.step H) h (k.from H.ir)
  |false,h=>Yb V J (Z.step H) h (k.from H.ir))
noncomputable def my(e:aG):Bool:=!(dP e.ctorIdx 8||(dP e.ctorIdx 9||dP e.ctorIdx 10))
theorem yK(h:my e=true)(t:Option aG)(n:Nat)(env:Env):swapsWith e t n env=pure false:=by
 cases e with
 |ListComp _ _ _ _=>exact ff h
 |SetComp _ _ _ _=>exact ff h
 |DictComp _ _ _ _ _=>exact ff h
 |_=>rfl
theorem agp(X:aP φ d S nm x e)(hp:my e=true):eG φ d S nm (.expr x) (.Expr e pos):=by
 intro w s₀ A env W σ s ρ r σ' Q U T Z h k
 exact bg h λv aD Y h=>Uz (X U T Z Y λu s₁ aI J H O=>fj h
  (λh=>cf h λq h=>(V.none.elim (motive_1:=λv=>R s₁.heap aI aD.length v u->u=.none) v q id O)▸bX (P:=λr σ'=>KS S nm env w s₀ W σ s r σ' Q->Q .next s₁) h (λk=>k _ _ aI J H.ir (Z.step H) rfl) k)
  λh=>fH h O λi t h=>bX (P:=λr σ'=>KS S nm env w s₀ W σ s r σ' Q->Q .next s₁) h (λk=>k _ _ aI J H.ir (Z.step H) rfl) k) (by unfold interactive;rw [Z.sc,Z.kind];rfl) (yK hp _ _ _)
theorem agk(fO:nm.Nodup)(X:aP φ d S nm x e)(hp:my e=true)(hi:nm[i]?=some y)(hk:S.names.lookup y=some .local\/S.names.lookup y=some .cell):eG φ d S nm (.assign (.var i) x) (.Assign [.Name y p] e pos):=by
 intro w s₀ A env W σ s ρ r σ' Q hA T Z h
 exact bg h λv aD h1 h=>bX h λk=>IJ (X hA T Z h1 λu s₁ aI O H V=>up<|vZ fO O (Z.step H) hi hk V λs₂ U J Y=>k _ _ aI U (H.ir.trans J) Y rfl) (yK hp _ _ _)
theorem agm(fO:nm.Nodup)(X:aP φ d S nm x e)(hi:nm[i]?=some y)(hk:S.names.lookup y=some .local\/S.names.lookup y=some .cell):eG φ d S nm (.sj i op x) (.AugAssign (.Name y p) op e pos):=by
 intro w s₀ A env W σ s ρ r σ' Q hA T Z h k
 exact bg h λa aD h1 h=>bg h λb bR h2 h=>Qj (P:=λaD=>xe φ ρ x aD=some (b,bR)->_) h1 (λhv h2=>Uj (Nb Z hi hk hv λu hu=>X hA T Z h2 λu' s₂ cM U J V=>fH h hu λai t h=>fH h V λbi t' h=>dz h λz h3 h=>up<|
  Mv U h3 λu3 ji Y gF H nc=>up<|vZ fO gF ((Z.step J).step H) hi hk nc λBX wQ O U5=>bX (P:=λr σ'=>KS S nm env w s₀ W σ s r σ' Q->_) h (λk=>k _ _ Y wQ ((J.trans H).ir.trans O) U5 rfl) k)) h2
theorem Vi{E:af->aj->Prop}{M:iW}(hp:my e=true)(h:ao M A (eval e env) (λu s₁=>ao M A (eval O env) (λU s₂=>ao M A (setAttr U f u) (λY J=>Q .next J) E s₂) E s₁) E s):ao M A (exec (.Assign [.Attribute O f p] e pos) env) Q E s:=by
 have H:swapsWithSole [.Attribute O f p] e pos.line env=pure false:=by
  show swapsWith e (some (.Attribute O f p)) pos.line env=pure false
  exact yK hp _ _ _
 show ao M A (standAt pos>>=λY=>swapsWithSole [.Attribute O f p] e pos.line env>>=λb=>if b then _ else _) _ _ _
 rw [H]
 refine aF (up<|qf (aF (aS (bD h λu s₁ h=>aF (aS ?_)))))
 exact aF (bD (cz h) λU s₂ h=>aF (up<|qf (bD (cz h) λY J h=>up<|zf (aS h))))
theorem agg(X:aP φ d S nm x e)(Y:aP φ d S nm o eo)(hp:my e=true):eG φ d S nm (.assign (.attr o f) x) (.Assign [.Attribute eo f.str p] e pos):=by
 intro w s₀ A env W σ s ρ r σ' Q hA T Z h k
 exact bg h λv aD h1 h=>bg h λaV bR U h=>bg U λov uD h3 U=>bg U λu0 SZ h4 U=>Vi hp (X hA T Z h1 λu s₁ aI V H jO=>Y hA V (Z.step H) h3 λuo s₂ cM kC J eY=>up<|
  OY kC eY (jO.mono J.grow) h4 λji iL gF O=>bX (P:=λaV bR=>M.ret (Fl.next,aV) bR=some (r,σ')->_) U (λh=>bX (P:=λr σ'=>KS S nm env w s₀ W σ s r σ' Q->_) h (λk=>k _ _ iL gF ((H.trans J).trans O).ir (((Z.step H).step J).step O) rfl) k) h)
end
end
section
theorem yf{α:Type}:∀{l:List (Str×α)},(l.map (·.1)).Nodup->∀{x:Str} {c:α},(x,c)∈l->l.lookup x=some c
 |(y,d)::r,H,x,c,h=>by
  unfold Iz
  cases q:x==y with
  |true=>exact(eJ.mp h).elim (λe=>congrArg some (rP e).2.symm) λh'=>absurd (eq_of_beq q▸mQ (f:=(·.1)) h') (iz.mp H).1
  |false=>exact(eJ.mp h).elim (λe=>absurd ((rP e).1▸beq_self_eq_true x) (y9.mp q)) λh'=>yf (iz.mp H).2 h'
section
variable {k:Str->Option kh}{n x:Str}{v:af}{m:Str->Option af}
theorem Jq:∀{V:List (Str×af)} {m:Str->Option af},(∀p∈V,p.1≠x)->bindL k V m x=m x
 |[],_,_=>rfl
 |(n,v)::r,m,h=>by
  unfold bindL
  rw [Jq λp hp=>h p (ib _ hp)]
  by_cases q:k n=some .local
  ·rw [if_pos q];exact if_neg (eN (h (n,v) (gh ..)))
  ·rw [if_neg q]
theorem Jp:∀{V:List (Str×af)} {m:Str->Option af},(∀p∈V,p.1≠x)->bindC k V m x=m x
 |[],_,_=>rfl
 |(n,v)::r,m,h=>by
  unfold bindC
  rw [Jp λp hp=>h p (ib _ hp)]
  by_cases q:k n=some .local
  ·rw [if_pos q]
  ·rw [if_neg q];exact if_neg (eN (h (n,v) (gh ..)))
theorem zU:∀{V:List (Str×af)} {m:Str->Option af} {i:Nat},(V.map (·.1)).Nodup->V[i]?=some (x,v)->(k x=some .local->bindL k V m x=some v)/\(k x=some .cell->bindC k V m x=some v)
 |(n,u)::r,m,0,H,h=>by
  have O:∀p∈r,p.1≠n:=λp hp q=>(iz.mp H).1 (q▸mQ (f:=(·.1)) hp)
  cases h
  refine⟨λJ=>?_,λJ=>?_⟩
  ·unfold bindL
   rw [Jq O,if_pos J]
   exact if_pos rfl
  ·unfold bindC
   rw [Jp O,if_neg (by rw [J];exactλh=>nomatch h)]
   exact if_pos rfl
 |(n,u)::r,m,i+1,H,h=>by
  unfold bindL bindC
  exact⟨(zU (iz.mp H).2 h).1,(zU (iz.mp H).2 h).2⟩
end
theorem Step.hide{X:List Nat}{W:Wd}(x:Step [] W σ s aI aD s₁)(y:Step X aI aD s₁ W' σ' s')(V:∀a∈X,¬Lv s.heap a):Step [] W σ s W' σ' s':=
 let z:=(x.wide (Y:=X) λJ h=>nomatch h).trans y
 ⟨z.grow,z.fresh,λb o e O J=>z.keep b o e O λq=>V b q ⟨o,e⟩,z.live⟩
structure IT(a cd:Nat)(st:cy)(q:Str)(ps:List Str)(nm:List Str)(m:Nat)(Kh:List V):Prop where
 obj:∀P,∃dV pm rk ds,(K P).lookup a=some (D5 st q dV cd pm rk)/\(∀us:List af,us.length=m->∀S,peek (K P) S (bindArgs (fdOf st q dV (.ref cd) (.str pm rk) .none) ⟨us,[]⟩)=some (ps.zip (us++ds)))/\(∀h W N,(K P).In h->RL h W N Kh ds)
 len:m+Kh.length=ps.length
 J6:∀P,∃oc vs t,(K P).lookup cd=some oc/\oc.data=.fields vs/\vs[1]?=some (.str q t)
 kind:(gg st).kind=.function
 co:(gg st).isCoroutine=false
 gen:(gg st).isGenerator=false
 nd:nm.Nodup
 pd:ps.Nodup
 pre:∀(i:Nat) (x:Str),ps[i]?=some x->nm[i]?=some x
 bound:∀x∈ps,(gg st).names.lookup x=some .local\/(gg st).names.lookup x=some .cell
 cells:((cellsFrom 0 (gg st).names []).map (·.1)).Nodup
theorem Ok.call(h:Ok A (d+1))(env:Env):Ok (A.deeper env) d:=⟨h.hn,h.gu,by have:=h.xn;show A.depth+1+d<=990;exact(aa aJ 0x113de031101011004433de03110111040043 this rfl),by have:=h.yP;show A.units+3+8*d<=9000;exact(aa aJ 0x1123280411080163011004432328041101110480160043 this rfl)⟩
section
variable {w:bz}{s₀ s s₁:aj}{W:Wd}{σ:AH}{st:cy}{ps nm:List Str}{vs:List V}{us:List af}
theorem slot_get(hp:∀(i:Nat) (x:Str),ps[i]?=some x->nm[i]?=some x)(U:vs.length=ps.length){h:cR}{N:Nat}(Y:RL h W N vs us){i:Nat}{x:Str}{v':V}(Z:nm[i]?=some x)(J:(vs.map some++dO (nm.length- vs.length) none)[i]?=some (some v')):∃u,(ps.zip us)[i]?=some (x,u)/\R h W N v' u:=by
 by_cases O:i<vs.length
 ·rw [lJ (by rw [bf];exact O),eT,iy O] at J
  obtain⟨u,e1,e2⟩:=Y.get (iy O)
  have H:ps[i]?=some ps[i]:=iy (U▸O)
  exact⟨u,List.getElem?_zip_eq_some.mpr ⟨H.trans ((hp i _ H).symm.trans Z),e1⟩,bT (bT J)▸e2⟩
 ·rw [yV (by rw [bf];exact TG O)] at J
  exact nomatch (List.mem_replicate.mp (rR J)).2
theorem Wz{a:cT}{q:Str}{dV U V:af}(kind:(gg st).kind=.function)(cells:((cellsFrom 0 (gg st).names []).map (·.1)).Nodup)
  (pd:ps.Nodup) (pre:∀(i:Nat) (x:Str),ps[i]?=some x->nm[i]?=some x) (hl:vs.length=ps.length) (T:St w s₀ W σ s) (hr:RL s.heap W σ.length vs us) (H:Step [] W σ s W σ s₁)
  (I:InCallC s (callEnvC (fdOf st q dV U V .none) s.heap.objs.size a).locals (bindL (callEnvC (fdOf st q dV U V .none) s.heap.objs.size a).kindOf (ps.zip us) λY=>none) (callEnvC (fdOf st q dV U V .none) s.heap.objs.size a).cells (bindC (callEnvC (fdOf st q dV U V .none) s.heap.objs.size a).kindOf (ps.zip us) λY=>none) s₁):
  cV (gg st) nm (callEnvC (fdOf st q dV U V .none) s.heap.objs.size a) W σ (vs.map some++dO (nm.length- vs.length) none) s₁/\∀x∈fS (callEnvC (fdOf st q dV U V .none) s.heap.objs.size a),¬Lv s.heap x:=by
 have hn:((ps.zip us).map (·.1)).Nodup:=by rw [HS (kr (hl.symm.trans hr.length.symm))];exact pd
 have O:∀x∈fS (callEnvC (fdOf st q dV U V .none) s.heap.objs.size a),s.heap.objs.size<=x/\Lv s₁.heap x:=λx J=>(eJ.mp J).elim
  (λe=>by obtain⟨o,_,_,q,_⟩:=I.toInCall.ns;exact e▸⟨cY _,o,q⟩)
  λJ=>by obtain⟨⟨n,c⟩,Z,e⟩:=jN.mp J;exact by obtain⟨o,q,_⟩:=I.cell n c (yf (by rw [show(callEnvC (fdOf st q dV U V .none) s.heap.objs.size a).cells=cellsFrom (s.heap.objs.size+1) (gg st).names [] from rfl,cellsFrom_names _ _ 0 [] [] rfl];exact cells) Z);exact e▸⟨iI (I.above n c Z),o,q⟩
 refine⟨⟨rfl,kind,rfl,rfl,⟨_,I.toInCall.ns,λi x v' h1 h2 h3=>?_⟩,λi x v' h1 h2 h3=>?_,λx h2=>?_,λx J=>⟨bo T.wS (O x J).1,(O x J).2,λn hn=>?_⟩,?_⟩,λx J=>Lv.not (O x J).1⟩
 ·obtain⟨u,e1,e2⟩:=slot_get pre hl hr h1 h3
  exact⟨u,(zU hn e1).1 h2,e2.mono H.grow⟩
 ·obtain⟨u,e1,e2⟩:=slot_get pre hl hr h1 h3
  obtain⟨c,hc⟩:=uA.mp (H8 (gg st).names (s.heap.objs.size+1) [] (.inl h2))
  exact⟨c,u,hc,(zU (k:=(callEnvC (fdOf st q dV U V .none) s.heap.objs.size a).kindOf) (m:=λY=>none) hn e1).2 h2▸I.cell x c hc,e2.mono H.grow⟩
 ·obtain⟨c,hc⟩:=uA.mp (H8 (gg st).names (s.heap.objs.size+1) [] (.inl h2))
  exact⟨c,_,hc,I.cell x c hc⟩
 ·have hp:=T.below n hn
  exact⟨gZ (bN hp.1 (O x J).1),gZ (bN hp.2 (O x J).1)⟩
 ·refine iz.mpr ⟨λZ=>?_,HH.mpr I.apart⟩
  obtain⟨⟨n,c⟩,Z,e⟩:=jN.mp Z
  exact absurd e (gZ (I.above n c Z))
theorem Wv{Q:af->aj->Prop}(F:IT a cd st q ps nm m J)(B:om φ d (gg st) nm b (iF st))(hA:Ok A (d+1))(T:St w s₀ W σ s)(hr:RL s.heap W σ.length vs us)(hm:vs.length=m)(h:bq φ nm.length b (vs++J) σ=some (v,σ'))(k:KP w s₀ W σ s σ' v Q):
  fE (model aL w) A (.call (.ref a) ⟨us,[]⟩) (Ox Q) s:=by
 obtain⟨dV,pm,rk,ds,H,U,ZT⟩:=F.obj w.params
 obtain⟨oc,cvs,t,O,ZY,hq⟩:=F.J6 w.params
 have hl:(vs++J).length=ps.length:=by rw [bZ,hm,F.len]
 refine WV (fd:=fdOf st q dV (.ref cd) (.str pm rk) .none) (body:=iF st) (vals:=us) (binds:=ps.zip (us++ds)) (bN (wh (bo (ki _ _) hA.xn) ∅) (cY 1000)) (T.K a _ H) rfl ⟨_,.of_isNs (ahp T.K),by
   unfold Heap.nsMap;rw [zG T.K];rfl⟩ ⟨_,_,_,_,rfl,T.K cd _ O,ZY,hq⟩ rfl (kp_binds T.K (U us (hr.length.trans hm))) rfl (λx hx=>?_) (λs₁ I=>?_) F.co F.gen F.kind
 ·exact(F.bound _ (List.of_mem_zip (a:=x.1) (b:=x.2) hx).1).elim .inl λe=>.inr ⟨e,H8 _ _ _ (.inl e)⟩
 ·obtain⟨h1,tk,V⟩:=I.toInCall.same
  have z:=T.more [] (k:=tk) (h':=h1) (λb o e=>by have:=I.toInCall.keep b o e;rw [V] at this;exact this)
  have E:=Wz (st:=st) F.kind F.cells F.pd F.pre hl T (hr.append (ZT _ _ _ T.K)) (V▸z.2) I
  exact bg h λp aD h2 h=>B (hA.call _) (V▸z.1) E.1 h2 λfw s' W' T' Y Z' Z=>match p,h,Z with
   |(.next,_),h,Z=>Z▸bX (P:=λv σ'=>KP w s₀ W σ s σ' v Q->Q .none s') h (λk=>k _ _ W' T' (Step.hide (V▸z.2) Y E.2) rfl) k
   |(.cont,_),h,Z=>nn h
   |(.ret v',_),h,⟨u,e,hu⟩=>e▸bX (P:=λv σ'=>KP w s₀ W σ s σ' v Q->Q u s') h (λk=>k _ _ W' T' (Step.hide (V▸z.2) Y E.2) hu) k
end
end
section
noncomputable def acq:List Str:=[sl "append",sl "append",sl "extend",sl "get",sl "bit_length",sl "__init__",sl "literals",sl "position",sl "reset",sl "cell",sl "slot_start",sl "special_start",sl "literal_start",sl "first",sl "use",sl "put",sl "copy",sl "shift",sl "fill",sl "need_open",sl "bit",sl "direct",sl "tree",sl "reverse",sl "done",sl "put_literal",sl "put_plain",sl "put_beside",sl "put_length",sl "put_distance",sl "put_match",sl "put_index",sl "put_rep",sl "put_short",sl "passed",sl "check_back",sl "check_length",sl "literal",sl "match",sl "rep",sl "short",sl "matched_octet",sl "distance_of",sl "write_step",sl "write_steps"]
noncomputable def lR.str(m:lR):Str:=acq.getD m.val (sl "")
noncomputable def aa2(x:Option (Option af))(a:Nat):Bool:=decide (x=some (some (.ref a)))
noncomputable def aaZ(x:Option af):Bool:=decide (x=some (.type "function"))
noncomputable def Mu(P:cE)(C:Nat):Bool:=makesIn (K P) C&&keepIn (K P) (.ref C)
noncomputable def ab'(P:cE)(r:Nat×lR×Nat):Bool:=aa2 (findIn (K P) (.ref r.1) r.2.1.str) r.2.2&&(aaZ (typeIn (K P) (.ref r.2.2))&&(keepIn (K P) (.ref r.2.2)&&(EP (findIn (K P) (.ref r.1) "__getattribute__") "object.__getattribute__"&&(yH (findIn (K P) (.ref r.1) "__getattr__")&&(!Nat.beq r.2.1.val 5||Mu P r.1)))))
theorem ace(P:cE):Np.all (ab' P)=true:=by rfl'
structure UJ(P:cE)(C:Nat)(m:lR)(a:Nat):Prop where
 f:findIn (K P) (.ref C) m.str=some (some (.ref a))
 t:typeIn (K P) (.ref a)=some (.type "function")
 k:keepIn (K P) (.ref a)=true
 ga:findIn (K P) (.ref C) "__getattribute__"=some (some (.builtin "object.__getattribute__"))
 gn:findIn (K P) (.ref C) "__getattr__"=some none
 i:(!Nat.beq m.val 5||Mu P C)=true
theorem W7{m U:lR}(h:m.val=U.val):m=U:=Fin.ext h
theorem Bl(P:cE){C a:Nat}{m:lR}(h:oQ C m=some a):UJ P C m a:=jc h λr e=>
 aw (HW (p:=λr:Nat×lR×Nat=>dP r.1 C&&dP r.2.1.val m.val) e) λH J=>jJ H▸W7 (jJ J)▸
  aw (jM.mp (ace P) r (G9 e)) λH h=>aw h λJ h=>aw h λO h=>aw h λU h=>aw h λY h=>⟨aW H,aW J,O,aW U,aW Y,h⟩
theorem Ok.ahJ(h:Ok A d)(O:d'+1<=d)(C:cT)(us:List af):Ok (A.under (.builtin "type.__call__" ⟨.ref C::us,[]⟩)) d':=by
 have H:(A.under (.builtin "type.__call__" ⟨.ref C::us,[]⟩)).depth=A.depth+1:=rfl
 have J:(CW "type.__call__" ⟨.ref C::us,[]⟩).frames<=(CW "type.__call__" ⟨.ref C::us,[]⟩).weight:=by unfold Code.weight;exact(bx dR 0x130201000444003 rfl)
 have U:(A.under (.builtin "type.__call__" ⟨.ref C::us,[]⟩)).units<=A.units+8:=by
  have V:A.depth+(CW "type.__call__" ⟨.ref C::us,[]⟩).weight=A.depth+1:=H
  exact(aq dR 0x30318011304003016101143043101120410204510003 J V rfl)
 exact⟨h.hn,(by show pushGuards (Code.guards (.builtin "type.__call__" ⟨.ref C::us,[]⟩)) A.guards=some [];rw [h.gu];rfl),by have:=h.xn;exact(bB dR 0x101113de0310020433de03110304310113042051010110043 O H this rfl),by have:=h.yP;exact(bB dR 0x8111232804100801620432328041108016304380113042031010110043 O U this rfl)⟩
section
variable {φ:bK}{d d':Nat}{w:bz}{s₀ s:aj}{A:cu}{W:Wd}{σ σ':AH}{Q:af->aj->Prop}{v:V}{vs:List V}{us:List af}
theorem ad8(Φ:i4 φ d')(hd:d'+1<=d)(hA:Ok A d)(T:St w s₀ W σ s)(hr:RL s.heap W σ.length vs us)(h:mu φ C vs σ=some (v,σ'))(k:KP w s₀ W σ s σ' v Q):ao (model aL w) A (call (.ref C) us) Q (λY Y=>False) s:=
 dz h λa hm h=>jc (P:=λp=>p=(v,σ')->_) h (λp hp e=>dz hp λq hq hp=>cf hp λq0 hp=>dz hq λf hf hq=>by
  have M:=Bl w.params hm
  obtain⟨U,g,dr,tk,os⟩:=s
  have gd:((U.push emptyDict).push (instObj C U.objs.size)).get? U.objs.size=some (dictOf [] 0):=dZ _ (gM U (o:=emptyDict) rfl)
  have gx:((U.push emptyDict).push (instObj C U.objs.size)).get? (U.objs.size+1)=some (instObj C U.objs.size):=iY U emptyDict▸gM (U.push emptyDict) (o:=instObj C U.objs.size) rfl
  obtain⟨aI,Z,e2,jQ,H⟩:=T.new [] (k:=tk) (h':=(U.push emptyDict).push (instObj C U.objs.size)) (p:=U.objs.size+1) (d:=U.objs.size) (c:=.obj C []) (λb o e=>dZ _ (dZ _ e)) (mH _) (cY _)
   ⟨_,gx⟩ ⟨_,gd⟩ (λW' G Z e2=>⟨by rw [Z,e2];exact gx,by rw [Z,e2];exact zd _,[],0,by rw [e2];exact gd,rfl,uy _⟩)
  have hl:σ.length<(σ++[AC.obj C []]).length:=bZ▸jL _
  refine v9 (ab3 (makes_of T.K (aw (dD M.i (λq=>absurd q ∅) id) λa Y=>a)) (Ij T.K M.f) (λself=>bind_fn T.K self M.t) (.inl rfl) ?_)
  refine xh (Φ a f hf (hA.ahJ hd _ _) jQ (vs:=.ref σ.length::vs) (us:=.ref (U.objs.size+1)::us) ⟨_,_,rfl,⟨hl,congrArg _ Z.symm⟩,hr.mono H.grow⟩ hq
   (Q:=λv s'=>v=.none/\Q (.ref (U.objs.size+1)) s') λu s' cM kC J eY=>⟨V.none.elim (motive_1:=λv=>R s'.heap cM _ v u->u=.none) q.1 q0 id eY,?_⟩) λr s' z=>?_
  ·have O:q.2=p.2:=congrArg Prod.snd (bT hp)
   exact bX (P:=λv σ'=>KP w s₀ W σ _ σ' v Q->_) (congrArg some e) (λk=>k _ _ cM (O▸kC) (O▸H.trans J) ⟨O▸bN hl J.grow.le,congrArg _ (Z.symm.trans (J.grow.pi _ hl).symm)⟩) k
  ·cases r with
   |ok r=>cases r<;>exact z
   |error _=>exact z) rfl
theorem RF.none:∀{l:List (bu×V)} {es:List bY},RF h W N l es->(∀p∈l,p.1.str≠x)->es.find? (·.key.isStr x)=Option.none
 |[],_,q,_=>by cases q;rfl
 |(k,v)::l,_,⟨e,r,t,q,H,_,b⟩,O=>by
  subst q
  exact(we (p:=λe:bY=>e.key.isStr x) (by rw [H];exactλq=>O (k,v) (gh ..) (eq_of_beq q))).trans (RF.none b λp hp=>O p (ib _ hp))
theorem Zh{E:af->aj->Prop}(T:St w s₀ W σ s){pl:Sem Bool}(e:σ[n]?=some (.obj C J))(H:J.all (λp=>ny C p.1)=true)(O:oQ C m=some a){Q:af×List af->aj->Prop}(V:Q (.ref a,[.ref (W.π n)]) s):
  wpAny (model aL w) A (getMethod (.ref (W.π n)) m.str pl) Q E s:=by
 obtain⟨U,Z,es,ep,h2,Y,_⟩:=T.cell _ _ e
 have M:=Bl w.params O
 have I:InstAt s.heap (W.π n) (instObj C (W.δ n)) C (some (dictOf es ep)):=⟨U,rfl,rfl,h2⟩
 refine method_fn T.K I M.ga M.gn M.f M.t ?_ V
 show(lookIn m.str (dictOf es ep)).map _=_
 rw [lookIn_dict]
 unfold getL
 rw [Y.none (x:=m.str) λp hp q=>nomatch ((D4 w.params (jM.mp H p hp)).no.symm.trans (q▸M.f:))]
 rw [Y.noRef]
 rfl
section
variable {S:bF}{nm:List Str}{env:Env}{ρ:bc}{l:XL}{es:List aG}{o:aG}{kE pos:Pos}{self:af}{aD:AH}
theorem sZ{M:iW}{E:af->aj->Prop}{name:Str}(J:(kE.endLine==pos.line)=true)(V:es.length<30)(O:∀(pl:Sem Bool) {Q:af×List af->aj->Prop},Q (f,U) s'->ao M A (getMethod self name pl) Q E s)
  (h:ao M A (callWith pos f U (lF es env) []) Q E s'):ao M A (methodCall o name kE pos env self es.length (lF es env) []) Q E s:=by
 have H:methodCallForm es.length (lF es env) []=true:=by
  unfold methodCallForm lF
  simp [List.all_map,V]
 unfold methodCall calleeOf
 rw [H,if_pos rfl]
 exact aF (cz (O _ (aF (up<|iZ (show methodCallPos true o env kE pos=pure pos by unfold methodCallPos;simp [J]) h))))
end
section
variable {n:Nat}{xs:List V}{x:V}{u:af}
theorem append_at(T:St w s₀ W σ s)(e:σ[n]?=some (.list xs))(Z:xs.length<=most)(hx:R s.heap W σ.length x u)(k:KP w s₀ W σ s (σ.set n (.list (xs++[x]))) .none Q):
  wpAny (model aL w) A (call (.builtin "list.append") [.ref (W.π n),u]) Q (λY Y=>False) s:=by
 obtain⟨us,ep,J,U⟩:=T.cell _ _ e
 refine Dh J (λh' V H=>?_) (show us.length<=1000 from U.length▸Z)
 have z:=T.put [] (k:=s.toks) (h':=h') (c:=.list (xs++[x])) (T.ow e) (λb O Y=>H.2 b O) (dw.lj J (show ic "list"≠ic "tuple" by decide) λb o q O=>(H.2 b O).trans q) (Lv.lj H ⟨_,V⟩)
  (λG=>⟨us++[u],ep+1,by rw [V,Tq],(U.mono G).append ⟨u,[],rfl,hx.mono G,rfl⟩⟩)
 exact k _ _ W z.1 z.2 rfl
theorem BW(T:St w s₀ W σ s)(e:σ[n]?=some c):(W.π n==sysModules)=false:=beq_eq_false_iff_ne.mpr λq=>absurd (q▸(T.ge n (T.ow e)).1) ∅
theorem W9{xs:List (Int×V)}(T:St w s₀ W σ s)(e:σ[n]?=some (.bQ xs))(O:R s.heap W σ.length x u)(k:KP w s₀ W σ s σ ((jy xs i).getD x) Q):
  wpAny (model aL w) A (call (.builtin "dict.get") [.ref (W.π n),.int i t,u]) Q (λY Y=>False) s:=by
 obtain⟨es,ep,H,J,h3⟩:=T.cell _ _ e
 have U:s.heap.MapOf (intKind aL w) (W.π n) (findBy mJ (dG es)):=⟨_,_,ep,H,⟨rfl,rfl,rfl⟩,rfl,λe Z=>by obtain⟨k,t,a,b⟩:=J.keys e (qx.mp Z);exact⟨k,a▸beq_self_eq_true k,b⟩,λY=>rfl⟩
 refine call_meetsIn F.slot_dict_get ⟨_,H,rfl⟩ F.entry_dict_get (F.args_dict_get_3 _ _ _) (meets_dict_get_default (intKind aL w) (W.π n) (k:=i) (key:=.int i t) (beq_self_eq_true i) (BW T e) u) ⟨_,U,?_⟩
 rcases J.find (k:=i) with f|⟨v',u',f1,f2,f3⟩
 ·rw [f.1] at k
  rw [f.2]
  exact k.tok T _ O
 ·rw [f1] at k
  rw [f2]
  exact k.tok T _ f3
theorem Vg(V:Ok A d)(T:St w s₀ W σ s)(e:σ[n]?=some (.ba b))(J:0<=c/\c<=255/\b.size<=10000)(k:KP w s₀ W σ s (σ.set n (.ba (b.push (qq c.toNat)))) .none Q):
  ao (model aL w) A (call (.builtin "bytearray.append") [.ref (W.π n),.int c t]) Q (λY Y=>False) s:=
 Vl V.gu (T.cell _ _ e) J.1 J.2.1 (bo J.2.2 ∅) λh' U H=>
  have z:=T.put [] (k:=s.toks) (h':=h') (c:=.ba (b.push (qq c.toNat))) (T.ow e) (λb O Y=>H.2 b O) (dw.lj (T.cell _ _ e) (show ic "bytearray"≠ic "tuple" by decide) λb o q O=>(H.2 b O).trans q) (Lv.lj H ⟨_,U⟩) (λG=>U)
  k _ _ W z.1 z.2 rfl
theorem YU(V:Ok A d)(T:St w s₀ W σ s)(e:σ[n]?=some (.ba b))(U:b.size+y.size<=10000)(k:KP w s₀ W σ s (σ.set n (.ba (b++y))) .none Q):
  ao (model aL w) A (call (.builtin "bytearray.extend") [.ref (W.π n),.bytes y t]) Q (λY Y=>False) s:=
 Vx V.gu (T.cell _ _ e) (bo U ∅) λh' J H=>
  have z:=T.put [] (k:=s.toks) (h':=h') (c:=.ba (b++y)) (T.ow e) (λb O Y=>H.2 b O) (dw.lj (T.cell _ _ e) (show ic "bytearray"≠ic "tuple" by decide) λb o q O=>(H.2 b O).trans q) (Lv.lj H ⟨_,J⟩) (λG=>J)
  k _ _ W z.1 z.2 rfl
end
section
variable {us:List af}{a:V}{hp:cR}{N:Nat}{β:Type}{r:β}{P:List af->Prop}
@[elab_as_elim] theorem ph{k}(h:a1 vs k=some r)(x:RL hp W N vs us)(f:∀a u,R hp W N a u->k a=some r->P [u]):P us:=I6 h λa e h=>by
 subst e
 obtain⟨u,_,rfl,x,rfl⟩:=x
 exact f a u x h
@[elab_as_elim] theorem Dd{k}(h:a2 vs k=some r)(x:RL hp W N vs us)(f:∀a b u u',R hp W N a u->R hp W N b u'->k a b=some r->P [u,u']):P us:=U6 h λa b e h=>by
 subst e
 obtain⟨u,_,rfl,x,u',_,rfl,y,rfl⟩:=x
 exact f a b u u' x y h
end
end
section
variable {φ:bK}{d d':Nat}{S:bF}{nm:List Str}
theorem agG(Φ:i4 φ d')(hd:d'+3<=d)(X:jP φ d S nm l es)(hx:S.names.lookup x=some .globalImplicit)(hv:jv x=some (.ref C))(O:(x==("__debug__":Str))=false)
  (hs:es.all fV=true):aP φ d S nm (.cls C l) (.Call (.Name x p) es [] pos):=by
 intro w s₀ A env W σ s ρ v σ' Q U T Z h k
 exact bg h λvs aD h1 h=>dz h λa hm h9=>wI (up<|tg T Z hx hv O (oX hs▸wZ mE (keeps_K (dD (Bl w.params hm).i (λq=>absurd q ∅) λq=>aw q λY q=>q)) (l7 (X U T Z h1 λus s₁ aI J H V=>
  ⟨J.K,ad8 Φ (bo (Cn ∅ _) hd) U J V h (k.from H)⟩))))
theorem agS(Φ:i4 φ d')(hd:d'+3<=d)(X:aP φ d S nm x eo)(Y:jP φ d S nm l es)(hs:es.all fV=true)(iO:es.length<30)(hl:(kE.endLine==pos.line)=true)(aaD:ym eo=true):
  aP φ d S nm (.aZ x m l) (.Call (.Attribute eo m.str kE) es [] pos):=by
 intro w s₀ A env W σ s ρ v σ' Q hA T Z h k
 refine bg h λo aD h1 h=>?_
 show ao _ _ (attributeBase eo m.str env (eval eo env)>>=λov=>standAt kE.atName>>=λJ=>methodCall eo m.str kE pos env ov es.length (backTo pos (starEach es env)) []) _ _ _
 rw [zR aaD,oX hs]
 refine aF (X hA T Z h1 λu s₁ aI U rq jO=>aF (up<|qf ?_))
 have k:=k.from rq
 have Z:=Z.step rq
 refine fj h (λh=>kQ h jO λn hn h=>dz h λc e h=>fj h ?_ λh=>fj h ?_ λh=>fj h ?_ ?_) λh=>fH h jO λi t h=>cf h λq h=>bg h λvs bR h2 h9=>?_
 ·exactλh=>JA h λC fs q h=>cf h λhf h=>dz h λa hm h=>bg h λvs bR h2 h=>sZ hl iO (λpl Q hQ=>up<|Zh U (q▸e) hf hm hQ) (wZ mE (keeps_K (Bl w.params hm).k) (l7 (Y hA U Z h2 λus s₂ cM O H V=>
   ⟨O.K,uT Φ (hA.le (bo (ki _ _) hd)) O (vs:=.ref n::vs) (us:=.ref (aI.π n)::us) ⟨_,_,rfl,⟨bN hn H.grow.le,congrArg _ (H.grow.pi n hn).symm⟩,V⟩ h (k.from H)⟩)))
 ·exactλh=>Jz h λxs q h=>cf h λhm h=>bg h λvs bR h2 h9=>by
   subst hm q
   obtain⟨us,ep,g1,g2⟩:=U.cell _ _ e
   exact sZ hl iO (λpl Q hQ=>up<|getMethod_list_append g1 rfl rfl hQ) (qH (λa q=>nomatch q) mE (l7 (Y hA U Z h2 λus s₂ cM O H V=>H.grow.pi n hn▸jr h9 λxs e' h=>ph h V λa u x h=>cf h λhl h=>
    eS h (λk=>up<|append_at O e' hl x (k.from H)) k)))
 ·exactλh=>Jy h λxs q h=>cf h λhm h=>bg h λvs bR h2 h9=>by
   subst hm q
   obtain⟨es',ep,g1,g2⟩:=U.cell _ _ e
   exact sZ hl iO (λpl Q hQ=>up<|HJ (T:="dict") ⟨_,g1,rfl⟩ F.plainAttrs_dict F.slot_dict_get F.type_dict_get (λa e=>by cases e;exact⟨_,g1,rfl⟩) hQ) (qH (λa q=>nomatch q) mE (l7 (Y hA U Z h2 λus s₂ cM O H V=>H.grow.pi n hn▸uN h9 λxs e' h=>Dd h V λa b u u' x y h=>fH h x λi t h=>
    eS h (λk=>up<|W9 O e' y (k.from H)) k)))
 ·exactλh=>Jx h λb q h=>by
   subst q
   have g1:=U.cell _ _ e
   refine fj h (λh=>cf h λhm h=>bg h λvs bR h2 h9=>?_) λh=>cf h λhm h=>bg h λvs bR h2 h9=>?_
   ·subst hm
    exact sZ hl iO (λpl Q hQ=>up<|HJ (T:="bytearray") ⟨_,g1,rfl⟩ Jg Jk VH (λa e=>by cases e;exact⟨_,g1,rfl⟩) hQ) (qH (λa q=>nomatch q) mE (l7 (Y hA U Z h2 λus s₂ cM O H V=>H.grow.pi n hn▸Dj h9 λb e' h=>ph h V λa u x h=>fH h x λi t h=>cf h λhc h=>
     eS h (λk=>Vg hA O e' hc (k.from H)) k)))
   ·subst hm
    exact sZ hl iO (λpl Q hQ=>up<|HJ (T:="bytearray") ⟨_,g1,rfl⟩ Jg Jl VI (λa e=>by cases e;exact⟨_,g1,rfl⟩) hQ) (qH (λa q=>nomatch q) mE (l7 (Y hA U Z h2 λus s₂ cM O H V=>H.grow.pi n hn▸Dj h9 λb e' h=>ph h V λa u x h=>B6 h x λy t h=>cf h λhc h=>
     eS h (λk=>YU hA O e' hc (k.from H)) k)))
 ·subst q
  refine sZ hl iO (λpl Q hQ=>up<|Sh hQ) (qH (λa q=>nomatch q) mE (l7 (Y hA U Z h2 λus s₂ cM O H V=>?_)))
  cases vs with
  |cons _ _=>exact nn h9
  |nil=>
   cases V
   exact up<|eS h9 (λk=>SY ((k.from H).tok O _ ⟨_,rfl⟩)) k
end
end
section
section
variable {prog:iG}{w:bz}{A:cu}{E:af->aj->Prop}{s:aj}
theorem Bk{h:cR}{l:cT}{H:Array af}{ep j:Nat}{v:af}(J:h.get? l=some {cls:=.type "list",data:=.seq H ep}):(h.update l (mK (·.setIfInBounds j v))).get? l=some {cls:=.type "list",data:=.seq (H.setIfInBounds j v) ep}:=
 (qu _ J rfl).trans (congrArg some (by simp [mK]))
theorem af2{l:cT}{H:Array af}{ep:Nat}{k:Int}{t:Tok}{v:af}{Q:Unit->aj->Prop}(O:s.heap.get? l=some {cls:=.type "list",data:=.seq H ep})
  (Y:0<=k) (J:k<2^63) (hn:k<H.size)
  (Z:∀h',h'.get? l=some {cls:=.type "list",data:=.seq (H.setIfInBounds k.toNat v) ep}->kq l s.heap h'->Q () {s with heap:=h'}):
  wpAny (model prog w) A (setItem (.ref l) (.int k t) v) Q E s:=by
 have V:s.heap.IsList l H:=⟨_,O,rfl,_,rfl⟩
 unfold setItem
 refine qe (aM (wpAny_sequenceKey V.typeIs ∅ (aM (Ce (name:=qi "__setitem__") V.typeIs slot_list_setitem
  (zb slot_list_setitem V.typeIs entry_list_setitem ?_ (args_list_setitem _ _ _))))))
 show wpAny _ _ (Builtin.List.listSubscript? (.int k t)>>=_) _ _ s
 refine aM (wpAny_listSubscript_int (fitsIndex_of Y J) ?_)
 clear J
 obtain⟨j,rfl⟩:=Sk Y
 have U:H[j]?=some H[j]:=Array.getElem?_eq_getElem (wy.mp hn)
 refine aM (aM (wpAny_seqItemAt O rfl (cH ?_)))
 rw [U]
 refine aM (wpAny_setSeqItemAt O rfl ?_)
 first
  |exact aM (cH (cH ⟨.none,rfl,cH (Z _ (Bk O) (nY ..))⟩))
  |exact cH ⟨.none,rfl,cH (Z _ (Bk O) (nY ..))⟩
theorem af1{Q:Unit->aj->Prop}(J:s.heap.get? d=some (dictOf es ep))(O:IntKeys (dG es))(hz:es.length<=60000)
  (V:∀i,(dG es).findIdx? (λe=>mJ k e.key)=some i->Q () {s with heap:=s.heap.update d (IA (·.modify i λe=>{e with val:=v})),toks:=s.toks+1})
  (Z:(dG es).findIdx? (λe=>mJ k e.key)=none->Q () {s with heap:=s.heap.update d (HX (·.push ⟨hashInt k,.int k t,v⟩)),toks:=s.toks+1}):
  wpAny (model prog w) A (setItem (.ref d) (.int k t) v) Q E s:=by
 have H:s.heap.IntMap d (findBy mJ (dG es)):=⟨_,_,ep,J,rfl,rfl,O,λY=>rfl⟩
 unfold setItem
 try with_reducible refine qe ?_
 refine aM (wpAny_sequenceKey H.typeIs ∅ (aM (Ce (name:=qi "__setitem__") H.typeIs slot_dict_setitem
  (zb slot_dict_setitem H.typeIs entry_dict_setitem ?_ (args_dict_setitem _ _ _)))))
 refine aM (wpAny_notOrdered_dict H.typeIs ?_)
 show wpAny _ _ (dictSet d (.int k t) v>>=_) _ _ s
 refine aM ?_
 unfold dictSet
 try with_reducible refine qe ?_
 refine aM (wpAny_pyHash_int ?_)
 unfold dictSetHashed
 try with_reducible refine qe ?_
 refine aM (wpAny_dictFind_int (s:={s with toks:=s.toks+1}) J rfl O ?_)
 cases U:(dG es).findIdx? λe=>mJ k e.key with
 |some i=>
  exact aM (oY (aM (wpAny_updateDict (s:={s with toks:=s.toks+1}) J rfl (Iv (cH ⟨.none,rfl,cH (V i U)⟩)))))
 |none=>
  exact aM (oY (wpAny_updateDictKeys (hz:=(by rw [qo];exact bo hz ∅:es.length<=sizeLine)) (s:={s with toks:=s.toks+1}) J rfl (cH ⟨.none,rfl,cH (Z U)⟩)))
end
section
variable {w:bz}{h:cR}{W:Wd}{N:Nat}
theorem RI.length:∀{l:List (Int×V)} {es:List bY},RI w h W N l es->es.length=l.length
 |[],_,x=>by cases x;rfl
 |(_,_)::_,_,⟨_,_,_,q,_,b⟩=>by subst q;exact congrArg wD (RI.length b)
theorem RI.iQ(J:R h W N v u):∀{l:List (Int×V)} {es:List bY},RI w h W N l es->
  (∀i,es.findIdx? (λe=>mJ k e.key)=some i->RI w h W N (iQ l k v) (es.modify i λe=>{e with val:=u}))/\
  (es.findIdx? (λe=>mJ k e.key)=none->∀t,RI w h W N (iQ l k v) (es++[⟨hashInt k,.int k t,u⟩]))
 |[],_,x=>by
  cases x
  exact⟨(λi e=>nomatch e),λY t=>⟨t,u,[],rfl,J,rfl⟩⟩
 |(Z,v')::l,_,⟨O,u',r,q,a,b⟩=>by
  subst q
  have U:=RI.iQ (k:=k) J b
  rw [Th]
  unfold Internal.iQ
  by_cases H:Z=k
  ·rw [if_pos H,if_pos (by exact beq_iff_eq.mpr H)]
   exact⟨λi e=>bT e▸⟨O,u,r,rfl,J,b⟩,(λe=>nomatch e)⟩
  ·rw [if_neg H,if_neg (by exactλq=>H (eq_of_beq q))]
   refine⟨λi e=>?_,λe t=>⟨O,u',_,rfl,a,U.2 (Option.map_eq_none_iff.mp e) t⟩⟩
   obtain⟨j,hj,rfl⟩:=Hl.mp e
   exact⟨O,u',_,rfl,a,U.1 j hj⟩
theorem MB:∀{l:List (Int×V)},x∈(iQ l k v).map (·.1)->x=k\/x∈l.map (·.1)
 |[],h=>.inl (cA.mp h)
 |(H,v')::l,h=>by
  unfold iQ at h
  by_cases q:H=k
  ·rw [if_pos q] at h;exact .inr h
  ·rw [if_neg q] at h
   exact(eJ.mp h).elim (λh=>.inr (eJ.mpr (.inl h))) λh=>(MB h).imp_right (ib _)
theorem ES:∀{l:List (Int×V)},(l.map (·.1)).Nodup->((iQ l k v).map (·.1)).Nodup
 |[],_=>iz.mpr ⟨λh=>(Cy h).elim,.nil⟩
 |(H,v')::l,h=>by
  unfold iQ
  by_cases q:H=k
  ·rw [if_pos q];exact h
  ·rw [if_neg q]
   exact iz.mpr ⟨λz=>(MB z).elim q (iz.mp h).1,ES (iz.mp h).2⟩
end
theorem WH(P:cE):findIn (K P) (.ref (104:Nat)) "__setitem__"=some (some (.ref (101:Nat))):=by rfl'
theorem JG(P:cE):isFn (K P) (.ref (101:Nat))=true/\noSeq (K P) (104:Nat)=true:=⟨by rfl',by rfl'⟩
section
variable {φ:bK}{d d':Nat}{w:bz}{s₀ s:aj}{A:cu}{W:Wd}{σ σ':AH}{n:Nat}{u:af}{x:V}{Q:Unit->aj->Prop}
theorem KT.put{P:aj->Prop}(k:KT w s₀ W σ s (σ.set n J) P)(T:St w s₀ W σ s)(e:σ[n]?=some c)(V:s.heap.get? (W.π n)=some {cls:=.type U,data:=da})(Z:U≠"tuple")(h3:h'.get? (W.π n)=some {cls:=.type U,data:=da'})(H:kq (W.π n) s.heap h')
  (hc:fy s.heap W σ.length h' W σ.length->kA w h' W σ.length n J):P {s with heap:=h',toks:=t}:=
 have z:=T.put [] (k:=t) (h':=h') (c:=J) (T.ow e) (λb O Y=>H.2 b O) (dw.lj V (λq=>Z (Uc q)) λb o q O=>(H.2 b O).trans q) (Lv.lj H ⟨_,h3⟩) hc
 k _ W z.1 z.2
theorem af3{j:Nat}{i:Int}{t:Tok}{l:List V}(T:St w s₀ W σ s)(e:σ[n]?=some (.list l))(J:l.length<=most)(hj:idx i l.length=some j)(U:R s.heap W σ.length x u)(k:KT w s₀ W σ s (σ.set n (.list (l.set j x))) (Q ())):
  wpAny (model aL w) A (setItem (.ref (W.π n)) (.int i t) u) Q (λY Y=>False) s:=by
 obtain⟨us,ep,H,O⟩:=T.cell _ _ e
 have hm:l.length<=1000:=J
 have hz:(dG us).size=l.length:=O.length
 refine xQ hj (λa1 a2 q=>?_) λa1 a2 q=>?_
 ·refine af2 H a1 (aq aX 0x11180000000000000001010011020013e8031103 J a2 rfl) (aq cQ 0x101110200120200120105 hz a2 rfl) λh' Z hs=>k.put T e H ∅ Z hs λG=>⟨us.set j u,ep,by rw [Z,q,Se],(O.mono G).set (U.mono G)⟩
 ·refine ki_setBack (n:=ep) H a1 (aq cQ 0x10110010230002023020105 hz a2 rfl) (aq aX 0x1110080000000000000001013000102303e8031103 J a2 rfl) (k.put T e H ∅ (Bk H) (nY ..) λG=>⟨us.set j u,ep,by rw [Bk H,hz,q,Se],(O.mono G).set (U.mono G)⟩)
theorem afZ(T:St w s₀ W σ s)(e:σ[n]?=some (.bQ l))(hl:l.length<=most)(U:R s.heap W σ.length x u)(k:KT w s₀ W σ s (σ.set n (.bQ (iQ l i x))) (Q ())):
  wpAny (model aL w) A (setItem (.ref (W.π n)) (.int i t) u) Q (λY Y=>False) s:=by
 obtain⟨es,ep,H,J,V,Z⟩:=T.cell _ _ e
 refine af1 H (λe he=>J.keys e (qx.mp he)) (J.length▸bo hl ∅) (λj O=>?_) (λO=>?_)
 ·have g:(s.heap.update (W.π n) (IA (·.modify j λe=>{e with val:=u}))).get? (W.π n)=some (dictOf (es.modify j λe=>{e with val:=u}) ep):=(qu _ H rfl).trans (congrArg some (by simp [IA]))
  exact k.put T e H ∅ g (nY ..) λG=>have r:=(RI.iQ (U.mono G) (J.mono G)).1 j ((SD _ _).symm.trans O);⟨_,ep,g,r,ES V,by rw [←r.length,List.length_modify,J.length,Z]⟩
 ·have g:(s.heap.update (W.π n) (HX (·.push ⟨hashInt i,.int i t,u⟩))).get? (W.π n)=some (dictOf (es++[⟨hashInt i,.int i t,u⟩]) (ep+1)):=(qu _ H rfl).trans (congrArg some (by simp [HX]))
  exact k.put T e H ∅ g (nY ..) λG=>have r:=(RI.iQ (U.mono G) (J.mono G)).2 ((SD _ _).symm.trans O) t;⟨_,_,g,r,ES V,by rw [←r.length,bZ,J.length,Z];rfl⟩
theorem af4(J:i4 φ d')(O:Ok A d')(T:St w s₀ W σ s){a i v:V}{u u' U:af}(x:R s.heap W σ.length a u)(y:R s.heap W σ.length i u')(z:R s.heap W σ.length v U)(h:pU φ a i v σ=some ((),σ'))(k:KT w s₀ W σ s σ' (Q ())):
  ao (model aL w) A (setItem u u' U) Q (λY Y=>False) s:=
 kQ h x λm Z h=>fH h y λi t h=>fj h
  (λh=>jr h λl e h=>cf h λH h=>dz (o:=idx i l.length) (k:=λj=>some ((),σ.set m (.list (l.set j v)))) (HA▸h) λj hj h=>bX (P:=λY σ'=>KT w s₀ W σ s σ' (Q ())->_) h (λk=>up<|af3 T e H hj z k) k)
  λh=>fj h (λh=>uN h λl e h=>cf h λH h=>bX (P:=λY σ'=>KT w s₀ W σ s σ' (Q ())->_) h (λk=>up<|afZ T e H z k) k)
  λh=>wR h λC l e h=>cf h λhC h=>dz h λp h2 h=>cf h λY h=>let⟨h1,jw,es,ep,h3,h5,_⟩:=T.cell _ _ e;
   af0 T.K (show InstAt s.heap (W.π m) (instObj 104 (W.δ m)) (104:Nat) (some (dictOf es ep)) from⟨hC▸h1,rfl,rfl,h3⟩) (JG _).2 (WH _) (JG _).1
    (uT J O T (vs:=[.ref m,.int i,v]) ⟨_,_,rfl,⟨Z,rfl⟩,_,_,rfl,⟨t,rfl⟩,_,_,rfl,z,rfl⟩ h2 λu s' W' a b Y=>bX (P:=λY σ'=>KT w s₀ W σ s σ' (Q ())->Q () s') h (λk=>k _ W' a b) k)
end
section
variable {φ:bK}{d d':Nat}{S:bF}{nm:List Str}
theorem agl(Y:aP φ d S nm o eo)(X:aP φ d S nm x e):eG φ d S nm (.g9 o f op x) (.AugAssign (.Attribute eo f.str p) op e pos):=by
 intro w s₀ A env W σ s ρ r σ' Q hA T Z h k
 exact bg h λov aD h1 h=>bg h λa bR h2 h=>bg h λb uD h3 h=>Ui (Y hA T Z h1 λuo s₁ aI jQ H jO=>up<|Ll jQ jO h2 λua s₂ cM kC J eY=>X hA kC ((Z.step H).step J) h3 λub ji iL gF O nc=>
  fH h eY λai t h=>fH h nc λbi t' h=>bg h λc SZ h4 h=>bg h λu0 aiS h5 h=>up<|Mv gF h4 λuc BX I5 wQ U UR=>up<|OY wQ (((jO.mono J.grow).mono O.grow).mono U.grow) UR h5 λGu U3 C8 V=>
   bX (P:=λr σ'=>KS S nm env w s₀ W σ s r σ' Q->Q .next Gu) h (λk=>k _ _ U3 C8 ((((H.trans J).trans O).trans U).trans V).ir (((((Z.step H).step J).step O).step U).step V) rfl) k)
theorem agi(Φ:i4 φ d')(hd:d'<=d)(X:aP φ d S nm x e)(Y:aP φ d S nm o eo)(I:aP φ d S nm i ei)(hs:pO ei=true)(hp:my e=true):eG φ d S nm (.assign (.sub o i) x) (.Assign [.Subscript eo ei p] e pos):=by
 intro w s₀ A env W σ s ρ r σ' Q hA T Z h k
 rw [exec_Assign_Subscript _ _ _ _ _ (yK hp _ _ _)]
 refine bg h λv aD h1 h=>bg h λaV bR h2 h=>bg h2 λov uD h3 h2=>bg h2 λiv aiS h5 h2=>bg h2 λu0 SZ h4 h2=>aF (up<|qf (aF (X hA T Z h1 λu s₁ aI jQ H jO=>?_)))
 rw [assign_Subscript]
 exact aF (aF (cz (Y hA jQ (Z.step H) h3 λuo s₂ cM kC J eY=>aF (cz (I hA kC ((Z.step H).step J) h5 λui ji iL gF O nc=>aF (up<|qf (aF (cz (af4 Φ (hA.le hd) gF (eY.mono O.grow) nc ((jO.mono J.grow).mono O.grow) h4 λV I5 wQ U=>
  up<|zf (aS (bX (P:=λaV bR=>M.ret (Fl.next,aV) bR=some (r,σ')->Q .next V) h2 (λh=>bX (P:=λr σ'=>KS S nm env w s₀ W σ s r σ' Q->Q .next V) h (λk=>k _ _ I5 wQ (((H.trans J).trans O).trans U).ir ((((Z.step H).step J).step O).step U) rfl) k) h)))))))))))
theorem agu{body:List cy}(X:fY φ d S nm c e)(Y:om φ d S nm b body):eG φ d S nm (.while c b) (.While e body [] pos):=by
 intro w s₀ A env W σ s ρ r σ' Q hA T Z h k
 refine U1 (λn s'=>∃aI aD iJ,St w s₀ aI aD s'/\cV S nm env aI aD iJ s'/\Step (fS env) W σ s aI aD s'/\rG (λρ=>xe φ ρ c) (λρ=>xb φ b ρ) n iJ aD=some (r,σ')) ?_ 200 ⟨W,σ,ρ,T,Z,Step.refl ..,h⟩
 rintro n s₁ ⟨aI,aD,iJ,jQ,U,H,AZ⟩
 cases n with
 |zero=>exact nn AZ
 |succ n=>
  exact bg AZ λv bR h2 h=>kP h λt e h=>X (b:=t) hA jQ U (e▸h2) λs₂ cM kC J=>match t,h with
   |false,h=>up<|wo (bX (P:=λr σ'=>KS S nm env w s₀ W σ s r σ' Q->Q .next s₂) h (λk=>k _ _ cM kC (H.trans J.ir) (U.step J) rfl) k)
   |true,h=>bg h λp V h3 h=>Y hA kC (U.step J) h3 λf ji iL gF O uK F=>by
    obtain⟨fl,zw⟩:=p
    cases fl with
    |next=>cases F;exact⟨n,jL n,iL,V,zw,gF,uK,(H.trans J.ir).trans O,h⟩
    |cont=>cases F;exact⟨n,jL n,iL,V,zw,gF,uK,(H.trans J.ir).trans O,h⟩
    |ret v=>
     obtain⟨u,e,q⟩:=F
     exact e▸bX (P:=λr σ'=>KS S nm env w s₀ W σ s r σ' Q->Q (.ret u) ji) h (λk=>k _ _ iL gF ((H.trans J.ir).trans O) uK ⟨u,rfl,q⟩) k
end
end
section
theorem OV:∀{is:List Nat} {vs:List V} {J:List Nat} {H:List V} {ρ:bc},is.length=vs.length->jF (is++J) (vs++H) ρ=jF J H (jF is vs ρ)
 |[],[],_,_,_,_=>rfl
 |i::is,v::vs,J,H,ρ,h=>OV (is:=is) (vs:=vs) (rO h)
theorem OX:∀{is:List Nat} {vs:List V} {i:Nat} {v:V} {ρ:bc},i∉is->jF is vs (ρ.set i (some v))=(jF is vs ρ).set i (some v)
 |[],_,_,_,_,_=>rfl
 |j::is,[],_,_,_,_=>rfl
 |j::is,w::vs,i,v,ρ,h=>(congrArg (jF is vs) (List.set_comm _ _ λq=>h (eJ.mpr (.inl q)))).trans (OX λq=>h (ib _ q))
theorem OW:∀{is:List Nat} {vs:List V} {ρ:bc},is.Nodup->is.length=vs.length->jF is.reverse vs.reverse ρ=jF is vs ρ
 |[],[],_,_,_=>rfl
 |i::is,v::vs,ρ,H,h=>by
  rw [za,za,OV (by rw [Co,Co];exact rO h),OW (iz.mp H).2 (rO h)]
  exact(OX (iz.mp H).1).symm
theorem RL.rev{W:Wd}:∀{l:List V} {us:List af},RL h W N l us->RL h W N l.reverse us.reverse
 |[],_,x=>by cases x;rfl
 |v::l,_,⟨u,r,q,a,b⟩=>by
  subst q
  rw [za,za]
  exact RL.append (RL.rev b) ⟨u,[],rfl,a,rfl⟩
noncomputable def kH(S:bF)(x:Str):Bool:=decide (S.names.lookup x=some .local)||decide (S.names.lookup x=some .cell)
theorem qY{S:bF}(h:kH S x=true):S.names.lookup x=some .local\/S.names.lookup x=some .cell:=dD h (λh=>.inl (aW h)) λh=>.inr (aW h)
noncomputable def oW:List aG->Option (List Str)
 |[]=>some []
 |t::r=>if q:t.ctorIdx=23 then um (motive_1:=λY=>Option (List Str)) t q λx Y=>(oW r).map (x:: ·) else none
theorem ah3{xs:List Str}(h:oW (t::r)=some xs){P:aG->List Str->Prop}(k:∀x p H,oW r=some H->P (.Name x p) (x::H)):P t xs:=
 mi h λq h=>um (motive_1:=λt=>∀q,um (motive_1:=λY=>Option (List Str)) t q (λx Y=>(oW r).map (x:: ·))=some xs->P t xs) t q (λx p Y h=>jc h λH e=>k x p H e) q h
noncomputable def xq(S:bF):Env:={(default:Env) with scope:=S}
theorem Pz{S:bF}(h:env.scope=S)(l:List aG)(e:aG):swappedStores l e env=swappedStores l e (xq S):=by subst h;rfl
noncomputable def FN{α:Type}[DecidableEq α](t:Sem α)(a:α):Bool:=if q:t.ctorIdx=0 then Ic (motive:=λY=>Bool) t q λx=>decide (x=a) else false
theorem Ol{α:Type}[DecidableEq α]{t:Sem α}{a:α}(h:FN t a=true):t=pure a:=fg h λq h=>Ic (motive:=λt=>∀q,Ic (motive:=λY=>Bool) t q (λx=>decide (x=a))=true->t=.pure a) t q (λx Y h=>congrArg _ (aW h)) q h
section
variable {w:bz}{s₀ s:aj}{W:Wd}{σ:AH}{A:cu}{E:af->aj->Prop}{S:bF}{nm:List Str}{env:Env}{ρ:bc}
def UT(env:Env)(x:Str)(t:af->Sem Unit):Prop:=∀(M:iW) (A:cu) (E:af->aj->Prop) (u:af) (Q:Unit->aj->Prop) (s:aj),wpAny M A (storeName env x u) Q E s->wpAny M A (t u) Q E s
def ng(env:Env):List (Nat×Str)->List (af->Sem Unit)->Prop
 |[],H=>H=[]
 |x::L,H=>∃t r,H=t::r/\UT env x.2 t/\ng env L r
theorem ng.len:∀{L:List (Nat×Str)} {H:List (af->Sem Unit)},ng env L H->H.length=L.length
 |[],_,h=>by cases h;rfl
 |_::_,_,⟨_,_,e,_,h⟩=>by subst e;exact congrArg wD h.len
theorem ng.bind:∀{L:List (Nat×Str)},ng env L (L.map λx=>bindName env x.2)
 |[]=>rfl
 |_::_=>⟨_,_,rfl,λM A E u Q s h=>wpAny_bindName h,ng.bind⟩
theorem Gq(H:nm.Nodup):∀{L:List (Nat×Str)} {O:List (af->Sem Unit)} {vs:List V} {us:List af} {ρ:bc} {s:aj},(∀p∈L,nm[p.1]?=some p.2/\kH S p.2=true)->L.length=vs.length->
  ng env L O->St w s₀ W σ s->cV S nm env W σ ρ s->RL s.heap W σ.length vs us->∀{Q:Unit->aj->Prop},
  (∀s',St w s₀ W σ s'->Step (fS env) W σ s W σ s'->cV S nm env W σ (jF (L.map (·.1)) vs ρ) s'->Q () s')->wpAny (model aL w) A (assignInOrder O us) Q E s
 |[],O,vs,us,ρ,s,hL,Y,h,T,Z,R,Q,hQ=>by
  cases vs with
  |nil=>cases R;cases h;exact assignInOrder_nil (hQ s T (Step.refl ..) Z)
  |cons _ _=>exact nomatch Y
 |x::L,O,vs,us,ρ,s,hL,Y,h,T,Z,R,Q,hQ=>by
  cases vs with
  |nil=>exact nomatch Y
  |cons v vs=>
   obtain⟨t,r,rfl,h2,h3⟩:=h
   obtain⟨u,us,rfl,Ru,Rs⟩:=R
   have hx:=hL x (gh ..)
   exact assignInOrder_cons (h2 _ _ _ _ _ _ (vZ H T Z hx.1 (qY hx.2) Ru λs' T' U Z'=>
    Gq H (L:=L) (vs:=vs) (λp hp=>hL p (ib _ hp)) (rO Y) h3 T' Z' (RL.mono U.grow Rs) λpT wP J uJ=>hQ pT wP (U.trans J) uJ))
theorem PZ(U:A.handled=none)(T:St w s₀ W σ s)(Z:mL s.heap a (dG us))(V:RL s.heap W σ.length vs us)(H:vs.length=n){Q:List af->aj->Prop}
  (J:∀us s',St w s₀ W σ s'->Step [] W σ s W σ s'->RL s'.heap W σ.length vs us->Q us s'):wpAny (model aL w) A (unpackItems (.ref a) n none) Q E s:=
 (H.symm.trans V.length.symm:n=(dG us).size)▸unpackItems_tuple U Z λh' O=>
  have z:=T.more [] (k:=s.toks) (h':=h') λb o e=>O b o (λq=>qg _ (q▸jl e:_<s.heap.objs.size)) e
  J us _ z.1 z.2 (RL.mono z.2.grow V)
theorem Jc:∀{H:List aG} {L:List (Nat×Str)},oW H=some (L.map (·.2))->ng env L ((assignEach H env).map (·.2))/\(assignEach H env).findIdx? (·.1)=none/\(assignEach H env).length=L.length
 |[],[],h=>⟨rfl,rfl,rfl⟩
 |[],_::_,h=>nomatch h
 |t::r,L,h=>ah3 (P:=λt xs=>xs=L.map (·.2)->ng env L ((assignEach (t::r) env).map (·.2))/\(assignEach (t::r) env).findIdx? (·.1)=none/\(assignEach (t::r) env).length=L.length) h (λx p Y e q=>match L,q with
  |y::L,q=>by
   have i:=Jc (L:=L) (e.trans (congrArg some (rM q).2))
   exact⟨⟨_,_,rfl,λM A E u Q s h=>assign_Name ((rM q).1▸h),i.1⟩,(by show(((false,assign (.Name x p) env)::assignEach r env).findIdx? (·.1))=none;rw [Th,i.2.1];rfl),congrArg wD i.2.2⟩) rfl
theorem PV(hh:A.handled=none)(H:nm.Nodup){L:List (Nat×Str)}(ht:oW ts=some (L.map (·.2)))(hL:∀p∈L,nm[p.1]?=some p.2/\kH S p.2=true)(hl:l.length=L.length)
  (T:St w s₀ W σ s) (Z:cV S nm env W σ ρ s) (g1:mL s.heap c (dG us)) (g2:RL s.heap W σ.length l us) {Q:Unit->aj->Prop} (K:∀s',St w s₀ W σ s'->Step (fS env) W σ s W σ s'->cV S nm env W σ (jF (L.map (·.1)) l ρ) s'->Q () s'):
  wpAny (model aL w) A (assign (.Tuple ts k p) env (.ref c)) Q E s:=by
 rw [assign_Tuple]
 have e:=Jc (env:=env) ht
 refine aM (qf ?_)
 unfold unpack
 rw [e.2.1]
 exact aM (qe (PZ hh T g1 g2 (hl.trans e.2.2.symm) λus s' T' U R'=>Gq H hL hl.symm e.1 T' (Z.step U) R' λO V J Y=>K O V (U.ir.trans J) Y))
end
section
variable {φ:bK}{d:Nat}{S:bF}{nm:List Str}
theorem agj(fO:nm.Nodup){L:List (Nat×Str)}(X:aP φ d S nm x e)(hp:my e=true)(ht:oW ts=some (L.map (·.2)))
  (hL:∀p∈L,nm[p.1]?=some p.2/\kH S p.2=true) (hn:(L.map (·.1)).Nodup) (O:swappedStores [.Tuple ts k p] e (xq S)=pure none\/swappedStores [.Tuple ts k p] e (xq S)=pure (some (L.map (·.2)))):
  eG φ d S nm (.assign (.tup (L.map (·.1))) x) (.Assign [.Tuple ts k p] e pos):=by
 intro w s₀ A env W σ s ρ r σ' Q hA T Z h k'
 have hs:swapsWithSole [.Tuple ts k p] e pos.line env=pure false:=by
  show swapsWith e (some (.Tuple ts k p)) pos.line env=pure false
  exact yK hp _ _ _
 exact bg h λv aD h1 h=>bg h λaV bR h2 h=>bg h2 λvs J h3 h2=>O.elim
  (λO=>Uh (X hA T Z h1 λu s₁ aI U H V=>rF h3 V λl c us g1 g2 h3=>cf h3 λhl h3=>bX (P:=λvs J=>M.ret (jF (L.map (·.1)) vs ρ) J=some (aV,bR)->_) h3 (λh2=>bX (P:=λaV bR=>M.ret (Fl.next,aV) bR=some (r,σ')->_) h2 (λh=>by
   exact up<|PV hA.hn fO ht hL (hl.trans (bf _)) U (Z.step H) g1 g2 λpT wP Y uJ=>bX (P:=λr σ'=>KS S nm env w s₀ W σ s r σ' Q->Q .next pT) h (λk=>k _ _ aI wP (H.ir.trans Y) uJ rfl) k') h) h2) hs ((Pz Z.sc _ _).trans O))
  λO=>TT (X hA T Z h1 λu s₁ aI U H V=>rF h3 V λl c us g1 g2 h3=>cf h3 λhl h3=>bX (P:=λvs J=>M.ret (jF (L.map (·.1)) vs ρ) J=some (aV,bR)->_) h3 (λh2=>bX (P:=λaV bR=>M.ret (Fl.next,aV) bR=some (r,σ')->_) h2 (λh=>by
   have AP:l.length=L.length:=hl.trans (bf _)
   refine up<|PZ hA.hn U g1 g2 (AP.trans (bf _).symm) λus s' T' j0 R'=>?_
   have B:ng env L.reverse ((L.map (·.2)).reverse.map λn=>bindName env n):=by rw [←TL,qj];exact ng.bind
   refine up<|Gq fO (L:=L.reverse) (vs:=l.reverse) (λq hq=>hL q (TH.mp hq)) (by rw [Co,Co,AP]) B T' ((Z.step H).step j0) R'.rev λpT wP Y uJ=>?_
   rw [TL,OW hn hl.symm] at uJ
   exact bX (P:=λr σ'=>KS S nm env w s₀ W σ s r σ' Q->Q .next pT) h (λk=>k _ _ aI wP ((H.trans j0).ir.trans Y) uJ rfl) k') h) h2) hs ((Pz Z.sc _ _).trans O)
end
end
section
def ef(P:List Nat)(h h':cR):Prop:=∀(b:Nat) o,h.get? b=some o->b∉P->h'.get? b=some o
theorem ef.trans{P:List Nat}(x:ef P J O)(y:ef P O U):ef P J U:=λb o e H=>y b o (x b o e H) H
theorem ef.ext{P:List Nat}(x:Heap.ExtBut I h h')(U:I∈P):ef P h h':=λb o e O=>x b o (λq=>O (q▸U)) e
section
variable {w:bz}{s₀ s s₁ s₂:aj}{W aI cM W':Wd}{σ aD bR σ':AH}{S:bF}{nm:List Str}{env:Env}{ρ:bc}{P X:List Nat}{h h':cR}{k:Nat}
theorem dw.grow(x:dw h h'):fy h W N h' W N:=⟨x,cY _,λY Y=>rfl,λY Y=>rfl⟩
def Off(W:Wd)(σ:AH)(P:List Nat):Prop:=∀p∈P,4138<=p/\∀n,n<σ.length->p≠W.π n/\p≠W.δ n
theorem St.jV(T:St w s₀ W σ s)(U:Off W σ P)(J:ef P s.heap h')(V:dw s.heap h'):St w s₀ W σ {s with heap:=h',toks:=k}:=by
 have O:∀n,n<σ.length->W.π n∉P/\W.δ n∉P:=λn H=>⟨λq=>((U _ q).2 n H).1 rfl,λq=>((U _ q).2 n H).2 rfl⟩
 refine⟨by obtain⟨h,Z,e⟩:=T.same;exact⟨h',k,e▸rfl⟩,λa o e=>J a o (T.K a o e) λY=>gQ.mpr (U a Y).1 (A7 e),λn c e=>?_,T.ge,T.apart,λn H=>?_⟩
 ·exact kA.mono V.grow (T.ow e) (λo q=>J _ o q (O n (T.ow e)).1) (λo q=>J _ o q (O n (T.ow e)).2) (T.cell n c e)
 ·exact⟨by obtain⟨o,e⟩:=(T.lt n H).1;exact⟨o,J _ _ e (O n H).1⟩,by obtain⟨o,e⟩:=(T.lt n H).2;exact⟨o,J _ _ e (O n H).2⟩⟩
theorem cV.jV(Z:cV S nm env W σ ρ s)(U:∀a∈fS env,a∉P)(J:ef P s.heap h')(O:dw s.heap h'):cV S nm env W σ ρ {s with heap:=h',toks:=k}:=Z.carry (λa H o e=>J a o e (U a H)) O.grow λa H=>(Z.gW a H).2.2
theorem Step.rA(st:Step X W σ s aI aD s₁)(H:∀p∈P,¬Lv s.heap p)(J:ef P s₁.heap h')(U:dw s₁.heap h'):Step X W σ s aI aD {s₁ with heap:=h',toks:=k}:=
 ⟨st.grow.trans U.grow,st.fresh,λb o e O V=>J b o (st.keep b o e O V) λq=>H b q ⟨o,e⟩,λb O=>by obtain⟨o,e⟩:=st.live b O;exact⟨o,J b o e λq=>H b q O⟩⟩
noncomputable abbrev E3(l:cT)(i:Nat):Data:=.fields #[.ref l,.int i 0]
def uE(h:cR)(W:Wd)(N I i:Nat)(src:Src)(os:List (Nat×Obj)):Prop:=match src with
 |.lst l=>∃o,os=[(I,o)]/\((∃t us,(o.cls=.type "tuple_iterator"/\o.data=E3 t i)/\mL h t (dG us)/\RL h W N l us)\/
  ∃x step:Int,o={cls:=.type "range_iterator",data:=.fields #[rawInt (x+i*step),rawInt ((l.length:Int) - i),rawInt step]}/\∀(j:Nat) v,l[j]?=some v->v=.int (x+j*step))
 |.live n=>∃o,os=[(I,o)]/\n<N/\o.cls=.type "list_iterator"/\o.data=E3 (W.π n) i
 |.gv n=>∃J O o o',os=[(I,o),(J,o')]/\I≠J/\n<N/\(∀h:cR,h.get? I=some o->IsEnum h I J i O)/\o.cls=.type "enumerate"/\o'.cls=.type "list_iterator"/\o'.data=E3 (W.π n) i
 |.keys n H=>∃o,os=[(I,o)]/\n<N/\o.cls=.type "dict_keyiterator"/\o.data=.fields #[.ref (W.π n),.int i 0,.int H 0,.int H 0]
inductive fX(h:cR)(W:Wd)(N I:Nat)(P:List Nat)(i:Nat)(src:Src):Prop
 |mk (os:List (Nat×Obj)) (e:os.map (·.1)=P) (o:uE h W N I i src os) (g:∀p∈os,h.get? p.1=some p.2/\p.2.cls≠.type "tuple")
theorem uE.mono{os:List (Nat×Obj)}(G:fy h W N h' W' N')(x:uE h W N I i src os):uE h' W' N' I i src os:=by
 cases src with
 |lst l=>exact x.imp λo z=>⟨z.1,z.2.imp (λy=>y.imp λt y=>y.imp λus y=>⟨y.1,G.tup _ _ y.2.1,y.2.2.mono G⟩) id⟩
 |live n=>
  obtain⟨o,e,H,a,b⟩:=x
  exact⟨o,e,bN H G.le,a,(G.pi n H).symm▸b⟩
 |gv n=>
  obtain⟨J,O,o,o',e,U,H,a,b,c,d⟩:=x
  exact⟨J,O,o,o',e,U,bN H G.le,a,b,c,(G.pi n H).symm▸d⟩
 |keys n V=>
  obtain⟨o,e,H,a,b⟩:=x
  exact⟨o,e,bN H G.le,a,(G.pi n H).symm▸b⟩
section
variable {N N' I i:Nat}{src:Src}
theorem fX.keep(G:fy h W N h' W' N')(H:∀p∈P,∀o,h.get? p=some o->h'.get? p=some o):fX h W N I P i src->fX h' W' N' I P i src
 |⟨os,e,o,g⟩=>⟨os,e,o.mono G,λp hp=>⟨H _ (e▸mQ (f:=(·.1)) hp) _ (g p hp).1,(g p hp).2⟩⟩
theorem fX.obj(x:fX h W N I P i src)(p:Nat)(hp:p∈P):∃o,h.get? p=some o/\o.cls≠.type "tuple":=by obtain⟨os,e,_,g⟩:=x;exact by obtain⟨q,H,J⟩:=jN.mp (e.symm▸hp:p∈os.map (·.1));exact⟨q.2,J▸g q H⟩
theorem fX.live(x:fX h W N I P i src)(p:Nat)(hp:p∈P):Lv h p:=by obtain⟨o,e,_⟩:=x.obj p hp;exact⟨o,e⟩
theorem fX.sO(x:fX h W N I P i src)(H:ef P h h'):dw h h':=λa O ⟨o,e,c,r⟩=>⟨o,H a o e λq=>by obtain⟨o',J,n⟩:=x.obj a q;exact n (bT (J.symm.trans e)▸c),c,r⟩
end
theorem abD {E : af → aj → Prop} {J : Unit → aj → Prop} (H : s'.heap.get? I = some o) (O : o.cls = .type n) (U : o.data = .fields vs)
    (V : ["enumerate", "zip", "dict_itemiterator", "dict_reverseitemiterator", "odict_iterator", "itertools.zip_longest", "itertools.pairwise"].contains n = false) (h : J () s') :
    wpAny (model prog w) A (letOwnedTupleGo target (.ref I) v) J E s' := by
  have k : wpAny (model prog w) A (do let (.ref r, .ref a) := (Value.ref I, v) | return
                                      let o ← load r
                                      match o.cls, o.data with
                                      | .type n, .fields vs => if ["enumerate", "zip", "dict_itemiterator", "dict_reverseitemiterator", "odict_iterator", "itertools.zip_longest", "itertools.pairwise"].contains n && vs[0]? == some (rawInt a) then do
                                          rule "for.unpacks-the-owned-tuple"
                                          updateField r 0 .none
                                      | _, _ => pure ()) J E s' := by
    cases v with
    | ref a =>
      refine aM (qs H ?_)
      rw [O, U]
      dsimp only
      rw [V]
      exact cH h
    | _ => exact cH h
  cases target with
  | Tuple _ _ _ => exact k
  | List _ _ => exact k
  | _ => exact cH h
def rZ(w:bz)(A:cu)(W:Wd)(σ:AH)(s:aj)(I:Nat)(P:List Nat)(i:Nat)(src:Src)(target:aG)(v:V)(u:af)(s₁:aj):Prop:=
 ∀{Q:Unit->aj->Prop},(∀h' k,ef P s.heap h'->dw s.heap h'->R h' W σ.length v u->fX h' W σ.length I P (i+1) src->Q () {s with heap:=h',toks:=k})->wpAny (model aL w) A (letOwnedTupleGo target (.ref I) u) Q (λY Y=>False) s₁
section
variable {A:cu}{I i:Nat}{src:Src}{target:aG}{v:V}{u:af}
theorem Bq(U:fX s.heap W σ.length I [I] i src)(V:kq I s.heap h')(g:h'.get? I=some o)(J:o.cls=.type n)(Y:o.data=.fields vs)
  (Z:["enumerate","zip","dict_itemiterator","dict_reverseitemiterator","odict_iterator","itertools.zip_longest","itertools.pairwise"].contains n=false) (ht:n≠"tuple") (r:dw s.heap h'->R h' W σ.length v u) (x:dw s.heap h'->uE h' W σ.length I (i+1) src [(I,o)]):
  rZ w A W σ s I [I] i src target v u {s with heap:=h',toks:=k}:=λ{Q} q=>
 have O:=ef.ext V.extBut (cA.mpr rfl)
 have H:=U.sO O
 abD (s':={s with heap:=h',toks:=k}) g J Y Z (q h' k O H (r H) ⟨_,rfl,x H,λp hp=>cA.mp hp▸⟨g,λe=>ht (Uc (J.symm.trans e))⟩⟩)
end
noncomputable def ry(src:Src)(e:aG):Bool:=match src with
 |.gv _=>dP e.ctorIdx 25
 |_=>true
section
theorem RI.pairs:∀{l:List (Int×V)} {es:List bY},RI w h W N l es->Pairs (intKind prog J) es ((l.map (·.1)).zip (es.map (·.val)))
 |[],_,x=>by cases x;exact .nil
 |(k,v)::l,_,⟨t,u,r,q,a,b⟩=>by
  subst q
  exact .cons (intKind_is _ _ _ _) rfl (RI.pairs b)
theorem RI.keysOf(x:RI w h W N l es):KeysOf (intKind prog J) (dG es):=λe H=>by obtain⟨k,t,a,b⟩:=x.keys e (qx.mp H);exact⟨k,a▸intKind_is _ _ _ _,b⟩
theorem RI.fst(x:RI w h W N l es):((l.map (·.1)).zip (es.map (·.val))).map (·.1)=l.map (·.1):=HS (by rw [bf,bf,x.length];exact cY _)
theorem St.dictAt(T:St w s₀ W σ s)(e:σ[n]?=some (.bQ l)):∃H,s.heap.DictAt (intKind aL w) (W.π n) H l.length/\H.map (·.1)=l.map (·.1)/\H.length=l.length:=by
 obtain⟨es,ep,O,J,U,V⟩:=T.cell _ _ e
 exact⟨_,⟨_,_,V▸O,⟨rfl,rfl,rfl⟩,rfl,J.keysOf,J.pairs,by rw [J.fst];exact U⟩,J.fst,by have:=congrArg zo J.fst;rw [bf,bf] at this;exact this⟩
end
section
variable {A:cu}{I i:Nat}{src:Src}{target:aG}{o:Option V}{Q:Option af->aj->Prop}
theorem Ea(x:RL h W N l us)(e:l[i]?=none):(dG us)[i]?=none:=by
 rw [rQ]
 exact qv (x.length▸Hf.mp e)
theorem aeb(hh:A.handled=none){xs:List af}(U:fX s.heap W σ.length I [I] i (.live n))(H:s.heap.IsListIter I (W.π n) i)(hn:n<σ.length)(J:s.heap.IsList (W.π n) (dG xs))(O:RL s.heap W σ.length l xs)(h:some l[i]?=some o)
  (k0:o=none->∀h',ef [I] s.heap h'->dw s.heap h'->Q none {s with heap:=h'}) (k1:∀v u s₁,o=some v->rZ w A W σ s I [I] i (.live n) target v u s₁->Q (some u) s₁):wpAny (model aL w) A (pyNext (.ref I)) Q (λY Y=>False) s:=by
 have h:=bT h
 cases o with
 |none=>exact wpAny_pyNext_list_end hh H J (Ea O h) λh' V=>k0 rfl h' (ef.ext V (cA.mpr rfl)) (U.sO (ef.ext V (cA.mpr rfl)))
 |some v=>
  obtain⟨u,hu,hr⟩:=O.get h
  exact wpAny_pyNext_list_item H J (x:=u) (rQ.trans hu) λh' ⟨o1,a1,Z,d1⟩ hs=>k1 v u _ rfl (Bq (k:=s.toks) U hs a1 Z d1 ∅ ∅ (λkT=>hr.mono kT.grow) λkT=>⟨o1,rfl,hn,Z,d1⟩)
theorem aed(hh:A.handled=none)(U:fX s.heap W σ.length I [I] i (.lst l))(H:IsTupIter s.heap I t i)(Z:mL s.heap t (dG us))(O:RL s.heap W σ.length l us)(h:some l[i]?=some o)
  (k0:o=none->∀h',ef [I] s.heap h'->dw s.heap h'->Q none {s with heap:=h'}) (k1:∀v u s₁,o=some v->rZ w A W σ s I [I] i (.lst l) target v u s₁->Q (some u) s₁):wpAny (model aL w) A (pyNext (.ref I)) Q (λY Y=>False) s:=by
 have h:=bT h
 cases o with
 |none=>exact next_tuple_end hh H Z (Ea O h) λh' V=>k0 rfl h' (ef.ext V (cA.mpr rfl)) (U.sO (ef.ext V (cA.mpr rfl)))
 |some v=>
  obtain⟨u,hu,hr⟩:=O.get h
  exact next_tuple_item H Z (x:=u) (rQ.trans hu) λh' ⟨o1,a1,c1,d1⟩ hs=>k1 v u _ rfl (Bq (k:=s.toks) U hs a1 c1 d1 ∅ ∅ (λJ=>hr.mono J.grow) λJ=>⟨o1,rfl,.inl ⟨t,us,⟨c1,d1⟩,J _ _ Z,O.mono J.grow⟩⟩)
theorem aec(V:A.handled=none){st:Int}(U:fX s.heap W σ.length I [I] i (.lst l))(H:kU s.heap I (x+i*st) ((l.length:Int) - i) st)(J:∀(j:Nat) v,l[j]?=some v->v=.int (x+j*st))(h:some l[i]?=some o)
  (Z:o=none->∀h',ef [I] s.heap h'->dw s.heap h'->Q none {s with heap:=h'}) (k1:∀v u s₁,o=some v->rZ w A W σ s I [I] i (.lst l) target v u s₁->Q (some u) s₁):wpAny (model aL w) A (pyNext (.ref I)) Q (λY Y=>False) s:=by
 have h:=bT h
 cases o with
 |none=>exact wpAny_pyNext_range_end V H (SG (CR.mpr (Hf.mp h))) λh' O=>Z rfl h' (ef.ext O (cA.mpr rfl)) (U.sO (ef.ext O (cA.mpr rfl)))
 |some v=>
  refine Hg H (Int.sub_pos_of_lt (wy.mpr (gC.mp h).1)) λh' g hs=>k1 v _ _ rfl (Bq U hs g rfl rfl ∅ ∅ (λkT=>J i v h▸⟨_,rfl⟩) λkT=>⟨_,rfl,.inr ⟨x,st,?_,J⟩⟩)
  rw [show x+(i:Int)*st+st=x+((i+1:Nat):Int)*st by rw [Int.natCast_add,Iq,Int.natCast_one,lO,Int.add_assoc],show(l.length:Int) - i- 1=(l.length:Int) - ((i+1:Nat):Int) from Int.sub_sub ..]
theorem aea(hh:A.handled=none)(T:St w s₀ W σ s)(It:fX s.heap W σ.length I [I] i (.keys n l.length))(J:s.heap.IsKeyIter I (W.π n) i l.length l.length)(hn:n<σ.length)(e:σ[n]?=some (.bQ l))(h:some ((l[i]?).map λp=>V.int p.1)=some o)
  (k0:o=none->∀h',ef [I] s.heap h'->dw s.heap h'->Q none {s with heap:=h'}) (k1:∀v u s₁,o=some v->rZ w A W σ s I [I] i (.keys n l.length) target v u s₁->Q (some u) s₁):wpAny (model aL w) A (pyNext (.ref I)) Q (λY Y=>False) s:=by
 have h:=bT h
 obtain⟨H,hD,LV,O⟩:=T.dictAt e
 have J:s.heap.IsKeyIter I (W.π n) i H.length l.length:=by rw [O];exact J
 cases q:l[i]? with
 |none=>
  rw [q] at h
  exact wpAny_pyNext_dict_end hh J hD (qv (O▸Hf.mp q)) λh' he=>k0 h.symm h' (ef.ext he (cA.mpr rfl)) (It.sO (ef.ext he (cA.mpr rfl)))
 |some p=>
  rw [q] at h
  have nH:i<H.length:=O▸(gC.mp q).1
  have U:H[i]?=some H[i]:=iy nH
  have Ep:H[i].1=p.1:=by
   have h1:(H.map (·.1))[i]?=(l.map (·.1))[i]?:=by rw [LV]
   rw [eT,eT,U,q] at h1
   exact bT h1
  refine wpAny_pyNext_dict_item J hD (k:=H[i].1) (v:=H[i].2) U λkey h' Z ⟨o1,a1,c1,d1⟩ hs=>k1 _ key _ h.symm (Bq (k:=s.toks) It hs a1 c1 d1 ∅ ∅ (λkT=>?_) λkT=>⟨o1,rfl,hn,c1,O▸d1⟩)
  obtain⟨t,e⟩:=Value.isInt_shape Z
  exact⟨t,e.trans (congrArg (qt · t) Ep)⟩
end
end
end
section
noncomputable abbrev eX:=Fin 14
noncomputable def wW:List (Str×af):=[(sl "abs",.builtin "abs"),(sl "int",.type "int"),(sl "len",.builtin "len"),(sl "isinstance",.builtin "isinstance"),(sl "max",.builtin "max"),(sl "min",.builtin "min"),(sl "sum",.builtin "sum"),(sl "bytes",.type "bytes"),(sl "bytearray",.type "bytearray"),(sl "list",.type "list"),(sl "range",.type "range"),(sl "enumerate",.type "enumerate"),(sl "tuple",.type "tuple"),(sl "bool",.type "bool")]
noncomputable def eX.str(b:eX):Str:=(wW.getD b.1 (sl "",.none)).1
noncomputable def eX.val(b:eX):af:=(wW.getD b.1 (sl "",.none)).2
theorem V7(P:cE):(wW.all λb=>decide ((pairsOf (o0 P)).lookup b.1=some b.2))=true:=by rfl'
theorem V9:(wW.all λb=>decide (jv b.1=none)&&(!(b.1==("__debug__":Str))&&!Nat.beq b.2.ctorIdx 10))=true:=by rfl'
theorem eX.mem(b:eX):(b.str,b.val)∈wW:=rR (i:=b.1) ((iy b.2).trans (congrArg some (congrArg (λo:Option (Str×af)=>o.getD (sl "",.none)) (iy b.2)).symm))
theorem eX.all(b:eX):Dr b.str b.val/\jv b.str=none/\(b.str==("__debug__":Str))=false/\∀a,b.val≠.ref a:=
 ⟨λP=>aW (jM.mp (V7 P) _ b.mem),aw (jM.mp V9 _ b.mem) λH h=>aw h λJ O=>⟨aW H,eI J,λa e=>nomatch (congrArg (λv:af=>!Nat.beq v.ctorIdx 10) e).symm.trans O⟩⟩
section
variable {φ:bK}{d:Nat}{w:bz}{s₀ s:aj}{A:cu}{E:af->aj->Prop}{W:Wd}{σ aD σ':AH}{S:bF}{nm:List Str}{env:Env}{ρ:bc}
theorem vK(b:eX)(T:St w s₀ W σ s)(Z:cV S nm env W σ ρ s){Q:af->aj->Prop}(O:S.names.lookup b.str=some .globalImplicit)(h:Q b.val s):
  wpAny (model aL w) A (eval (.Name b.str pos) env) Q E s:=ad2 T Z O b.all.2.1 b.all.1 b.all.2.2.1 h
theorem xd(b:eX)(X:jP φ d S nm l es)(H:Ok A d)(T:St w s₀ W σ s)(Z:cV S nm env W σ ρ s)(O:S.names.lookup b.str=some .globalImplicit)(J:es.all fV=true)
  {vs:List V} (U:xl φ ρ l σ=some (vs,aD)) {Q:af->aj->Prop} (k:KL w s₀ W σ s aD vs λus s₁=>ao (model aL w) A (call b.val us) Q (λY Y=>False) s₁):
  ao (model aL w) A (eval (.Call (.Name b.str p) es [] pos) env) Q (λY Y=>False) s:=
 wI (up<|vK b T Z O (oX J▸qH b.all.2.2.2 mE (l7 (X H T Z U k))))
end
noncomputable def qA.blt:qA->Option eX
 |.abs=>some 0
 |.jU=>some 1
 |.len=>some 2
 |.max2=>some 4
 |.min2=>some 5
 |.listOf=>some 9
 |.sum=>none
 |.bytesOf=>none
 |.q8=>none
 |.isInt=>none
 |.isBool=>none
 |.vA=>none
 |.qV=>none
section
variable {w:bz}{s₀ s:aj}{A:cu}{W:Wd}{σ σ':AH}{v:V}{Q:af->aj->Prop}{u:af}
theorem KP.more(k:KP w s₀ W σ s σ v Q)(T:St w s₀ W σ s)(H:∀(b:Nat) o,s.heap.get? b=some o->h'.get? b=some o)(h:R h' W σ.length v u):Q u {s with heap:=h',toks:=n}:=
 have z:=T.more [] (k:=n) H
 k _ _ W z.1 z.2 h
theorem small(h:n=m)(V:m<=most):(n:Int)<2^63:=HC (CR.mpr (h▸V)) ∅
theorem abC(T:St w s₀ W σ s)(x:R s.heap W σ.length a u)(h:eA (vR a λn=>ie σ n λl=>if l.length<=most then some (V.int l.length,σ) else none) (eA (vT a λl=>if l.length<=most then some (V.int l.length,σ) else none) (rD a λb=>if b.size<=most then some (V.int b.size,σ) else none))=some (v,σ')):
  KP w s₀ W σ s σ' v Q->wpAny (model aL w) A (call (.builtin "len") [u]) Q (λY Y=>False) s:=
 fj h (λh=>kQ h x λn hn h=>jr h λl e h=>cf h λH h=>bX h λk=>let⟨xs,U,O⟩:=T.lst e;
   call_len_list U (small O.length H) (k.tok T _ ⟨_,congrArg (λn:Nat=>qt n (s.toks+1)) O.length⟩)) λh=>fj h
  (λh=>rF h x λl c us Z J h=>cf h λH h=>bX h λk=>len_tuple Z (small J.length H) (k.tok T _ ⟨_,congrArg (λn:Nat=>qt n (s.toks+1)) J.length⟩))
  λh=>B6 h x λb t h=>cf h λH h=>bX h λk=>len_bytes (bo H ∅) (k.tok T _ ⟨_,rfl⟩)
theorem aeX(hA:A.handled=none)(T:St w s₀ W σ s)(O:p.blt=some b)(V:RL s.heap W σ.length vs us)(h:fk p vs σ=some (v,σ'))(k:KP w s₀ W σ s σ' v Q):
  wpAny (model aL w) A (call b.val us) Q (λY Y=>False) s:=by
 cases p with
 |abs=>exact bT O▸ph h V λa u x h=>fH h x λi t h=>eS h (λk=>call_abs_int λt' n=>k.tok T _ ⟨_,rfl⟩) k
 |jU=>exact bT O▸ph h V λa u x h=>aim h x λi h=>eS h (λk=>call_int_bool (k.tok T _ ⟨_,rfl⟩)) k
 |len=>exact bT O▸ph h V λa u x h=>abC T x h k
 |max2=>exact bT O▸Dd h V λa b u u' x y h=>fH h x λi t h=>fH h y λj t' h=>eS h (λk=>max_two_ints hA λh' tk H=>k.more T H (by split<;>exact⟨_,rfl⟩)) k
 |min2=>exact bT O▸Dd h V λa b u u' x y h=>fH h x λi t h=>fH h y λj t' h=>eS h (λk=>min_two_ints hA λh' tk H=>k.more T H (by split<;>exact⟨_,rfl⟩)) k
 |listOf=>
  exact bT O▸ph h V λa u x h=>fj h
   (λh=>rF h x λl c us h1 h2 h=>cf h λJ h=>by obtain⟨o,U,hc,n,hd⟩:=h1;exact eS h (λk=>call_list_seq c (.inr rfl) U hc hd (λh' c' H Z=>k.list T h2 H Z) (h2.length.symm▸qZ J:us.length<=_)) k)
   λh=>kQ h x λn hn h=>jr h λl e h=>cf h λJ h=>by obtain⟨xs,ep,U,hx⟩:=T.cell _ _ e;exact eS h (λk=>call_list_seq _ (.inl rfl) U rfl rfl (λh' c' H Z=>k.list T hx H Z) (hx.length.symm▸qZ J:xs.length<=_)) k
 |_=>exact nn O
end
theorem agX{S:bF}(U:p.blt=some b)(X:jP φ d S nm l es)(Y:S.names.lookup b.str=some .globalImplicit)(hs:es.all fV=true):aP φ d S nm (.prim p l) (.Call (.Name b.str q) es [] pos):=by
 intro w s₀ A env W σ s ρ v σ' Q O T Z h k
 exact bg h λvs aD h1 h=>xd b X O T Z Y hs h1 λus s₁ aI J H V=>up<|aeX O.hn J U V h (k.from H)
end
section
section
variable {prog:iG}{w:bz}{A:cu}{E:af->aj->Prop}{s:aj}
theorem VN(O:s.TypeIs (.ref D) "bytearray"){Q:Bool->aj->Prop}(h:Q true s):wpAny (model prog w) A (uC (.ref D) "__buffer__") Q E s:=by
 unfold uC
 refine aM (kR O Dk ?_)
 dsimp only
 have J:(!("bytearray.__buffer__":String).endsWith ("."++"__buffer__"))=false:=by decide+kernel
 rw [if_neg (by rw [J];exact jK)]
 have H:("bytearray.__buffer__":String).dropRight ("__buffer__".length+1)="bytearray":=by decide+kernel
 rw [H]
 exact wk O Dl h
theorem VM{Q:af->aj->Prop}(J:s.heap.get? D=some (iM b))(hz:b.size<=sizeLine)
  (V:∀t k,Q (.bytes b t) {s with toks:=k}):
  codeAny (model prog w) A (.call (.builtin "bytes.__new__") ⟨[.type "bytes",.ref D],[]⟩) (wants Q E) s:=by
 refine codeAny_of_tree ?_
 refine aM (iZ (F.bm_newCall _) (cH ⟨rL F.bm_plain _,CA F.bm_entry ?_⟩))
 rw [uf F.bm_plain _]
 have O:s.TypeIs (.ref D) "bytearray":=⟨_,J,rfl⟩
 unfold nX.«bytes.__new__»
 refine aM (iZ (a:=true) rfl ?_)
 refine wC rfl ?_
 refine aM (iZ F.bm_sub ?_)
 refine wC rfl ?_
 refine aM (iZ (F.bm_bind _) ?_)
 refine aM (iZ (a:=()) rfl ?_)
 refine aM (iZ (a:=()) rfl ?_)
 refine wC rfl ?_
 refine aM (kR O VB ?_)
 refine aM (aM ?_)
 refine aM (qs J ?_)
 refine cH (cH ?_)
 refine wC rfl ?_
 refine aM (kR O VC ?_)
 refine bm_if_true rfl ?_
 first
  |show wpAny _ _ (Cj "bytes.__new__" (.ref D) true>>=_) _ _ _
  |(refine aM ?_;show wpAny _ _ (Cj "bytes.__new__" (.ref D) true>>=_) _ _ _)
 refine aM ?_
 unfold Cj
 refine aM (kR O Dk ?_)
 refine aM (VN O ?_)
 refine wC rfl ?_
 refine aM (kR O Dk ?_)
 refine aM ?_
 unfold Cd
 refine aM (Jj O ?_)
 refine cH ?_
 refine wC rfl ?_
 refine aM ?_
 unfold Sz Sv
 refine aM (aM (qs J ?_))
 refine cH (cH ?_)
 refine cH ?_
 refine aM (oY ?_)
 refine aM (wpAny_mkBytes ?_ hz)
 refine bm_if_true ∅ ?_
 first
  |exact cH (V _ _)
  |exact cH (cH (V _ _))
  |exact aM (cH (cH (V _ _)))
theorem Wy{Q:af->aj->Prop}(H:s.heap.get? D=some (iM b))(hz:b.size<=sizeLine)
  (V:∀t k,Q (.bytes b t) {s with toks:=k}):wpAny (model prog w) A (call (.type "bytes") [.ref D]) Q E s:=by
 refine callType_codes (Q₁:=λO s₁=>s₁.TypeIs O "bytes"/\Q O s₁) IB (F.bm_typeCall _) F.entry_object_init
  (VM H hz λt k=>⟨PySem.W.typeIs_bytes _ _ _,V t k⟩) λO s₁ J=>?_
 exact⟨J.1,F.args_object_init_2 O _,object_init_meets IB.init.lookup IB.made ∅ prog w A.in1 _ s₁ ⟨J.1,rfl,J.2⟩⟩
end
noncomputable def qA.A6:qA->Option (Str×af)
 |.isInt=>some (sl "int",.type "int")
 |.isBool=>some (sl "bool",.type "bool")
 |.vA=>some (sl "tuple",.type "tuple")
 |.qV=>some (sl "Cells",.ref 104)
 |.abs=>none
 |.jU=>none
 |.len=>none
 |.max2=>none
 |.min2=>none
 |.sum=>none
 |.bytesOf=>none
 |.q8=>none
 |.listOf=>none
theorem WG(P:cE):isNotIn (K P) "list" (104:Nat)=true:=by rfl'
theorem WE(P:cE):isIn (K P) (.ref (104:Nat)) (104:Nat)=true:=by rfl'
theorem ints_of{W:Wd}:∀{l:List V} {us:List af} {xs:List Int},RL h W N l us->sM l=some xs->wE us xs
 |[],_,_,x,e=>by cases x;exact fU e .nil
 |v::l,_,xs,⟨u,r,q,a,b⟩,e=>q▸fH e a λi t e=>jc e λY e=>.cons i t (ints_of b e)
section
variable {φ:bK}{d:Nat}{w:bz}{s₀ s:aj}{A:cu}{W:Wd}{σ σ':AH}{S:bF}{nm:List Str}{env:Env}{ρ:bc}{v a:V}{u:af}{us:List af}{vs:List V}{Q:af->aj->Prop}
theorem aa5{p:qA}{c:Str×af}(H:p.A6=some c)(T:St w s₀ W σ s)(Z:cV S nm env W σ ρ s){pos:Pos}(O:S.names.lookup c.1=some .globalImplicit)(h:Q c.2 s):
  wpAny (model aL w) A (eval (.Name c.1 pos) env) Q (λY Y=>False) s:=by
 revert O h
 cases p with
 |isInt=>exact bT H▸λO h=>vK 1 T Z O h
 |isBool=>exact bT H▸λO h=>vK 13 T Z O h
 |vA=>exact bT H▸λO h=>vK 12 T Z O h
 |qV=>exact bT H▸λO h=>tg T Z O (show jv (sl "Cells")=some (.ref 104) by rfl') ∅ h
 |_=>exact nn H
theorem aa4(T:St w s₀ W σ s)(O:p.A6=some c)(x:R s.heap W σ.length a u)(h:fk p [a] σ=some (v,σ'))(k:KP w s₀ W σ s σ' v Q):
  wpAny (model aL w) A (call (.builtin "isinstance") [u,c.2]) Q (λY Y=>False) s:=by
 cases p with
 |isInt=>exact bT O▸fH h x λi t h=>eS h (λk=>IsiPair.int_int (k.same T rfl)) k
 |isBool=>exact bT O▸fH h x λi t h=>eS h (λk=>IsiPair.int_bool (k.tok T _ rfl)) k
 |vA=>exact bT O▸rF h x λl c us H Z h=>by obtain⟨o,J,U,_⟩:=H;exact eS h (λk=>IsiPair.tuple_tuple J U (k.same T rfl)) k
 |qV=>
  exact bT O▸kQ h x λn hn h=>fj h (λh=>jr h λl e h=>eS h (λk=>let⟨xs,ep,J,hx⟩:=T.cell _ _ e;
    isn_call (T:="list") (P:=λh=>∃o,h.get? (W.π _)=some o/\o.cls=.type "list") T.K (λM=>(Looks.ld J).andThen .now) (WG _) (λq=>nomatch q) ⟨_,J,rfl⟩ list_cls (k.tok T _ rfl)) k)
   λh=>wR h λC l e h=>cf h λV h=>eS h (λk=>isi_call T.K (λM=>(Looks.ld (T.cell _ _ e).1).andThen .now) (by rw [show C=104 from V];exact WE _) (λq=>nomatch q) (k.same T rfl)) k
 |_=>exact nn O
theorem ahD(V:A.handled=none)(T:St w s₀ W σ s)(H:RL s.heap W σ.length vs us)(h:fk .sum vs σ=some (v,σ'))(k:KP w s₀ W σ s σ' v Q):wpAny (model aL w) A (call (.builtin "sum") us) Q (λY Y=>False) s:=
 ph h H λa u x h=>kQ h x λn hn h=>jr h λl e h=>jc (P:=λp=>p=(v,σ')->_) h (λxs J q=>eS (congrArg some q) (λk=>by
  obtain⟨ws,U,Z⟩:=T.lst e
  have O:=ints_of Z J
  obtain⟨ps,hp⟩:=O.allInts.items
  refine sum_intListG V (hp▸U) λh' tk t' hk=>k.more T hk ⟨t',?_⟩
  rw [preSum_eq,yX (by rw [bf];exact cY _),←nums_intItems,←hp,O.numsOf]) k) rfl
theorem Wl(H:A.handled=none)(T:St w s₀ W σ s)(J:RL s.heap W σ.length vs us)(h:fk .bytesOf vs σ=some (v,σ'))(k:KP w s₀ W σ s σ' v Q):wpAny (model aL w) A (call (.type "bytes") us) Q (λY Y=>False) s:=
 ph h J λa u x h=>kQ h x λn hn h=>fj h (λh=>jr h λl e h=>dz h λxs U h=>cf h λV h=>eS h (λk=>
   by obtain⟨ws,hL,O⟩:=T.lst e;exact call_bytes_ints hL (ints_of O U) V.2 (O.length▸qZ V.1:ws.length<=_) H λh' t Y Z=>k.more T Z ⟨t,rfl⟩) k)
  λh=>Dj h λb e h=>cf h λhb h=>eS h (λk=>Wy (T.cell _ _ e) (bo hb (qo▸by decide)) λt n=>k.tok T n ⟨t,rfl⟩) k
end
section
variable {φ:bK}{d d':Nat}{S:bF}{nm:List Str}
theorem agP(O:p.A6=some c)(X:aP φ d S nm x e)(U:S.names.lookup (eX.str 3)=some .globalImplicit)(Y:S.names.lookup c.1=some .globalImplicit)(hs:fV e=true):
  aP φ d S nm (.prim p (.cons x .nil)) (.Call (.Name (eX.str 3) q) [e,.Name c.1 q'] [] pos):=by
 intro w s₀ A env W σ s ρ v σ' Q hA T Z h k
 exact bg h λvs aD h1 h=>bg h1 λa bR h2 h3=>bX (P:=λvs aD=>fk p vs aD=some (v,σ')->_) h3 (λh=>wI (up<|vK 3 T Z U (oX (es:=[e,.Name c.1 q']) (by rw [wu,hs];rfl)▸
  qH (λa q=>nomatch q) mE (l7 (BU (X hA T Z h2 λu s₁ aI J H V=>BU (up<|aa5 O J (Z.step H) Y (up (zl (up<|aa4 J O V h (k.from H))))))))))) h
theorem ag3(X:jP φ d S nm l es)(U:S.names.lookup (eX.str 6)=some .globalImplicit)(Y:es.all fV=true):aP φ d S nm (.prim .sum l) (.Call (.Name (eX.str 6) q) es [] pos):=by
 intro w s₀ A env W σ s ρ v σ' Q O T Z h k
 exact bg h λvs aD h1 h=>xd 6 X O T Z U Y h1 λus s₁ aI J H V=>up<|ahD O.hn J V h (k.from H)
theorem agF(X:jP φ d S nm l es)(U:S.names.lookup (eX.str 7)=some .globalImplicit)(Y:es.all fV=true):aP φ d S nm (.prim .bytesOf l) (.Call (.Name (eX.str 7) q) es [] pos):=by
 intro w s₀ A env W σ s ρ v σ' Q O T Z h k
 exact bg h λvs aD h1 h=>xd 7 X O T Z U Y h1 λus s₁ aI J H V=>up<|Wl O.hn J V h (k.from H)
theorem agU(hx:S.names.lookup (eX.str 8)=some .globalImplicit):aP φ d S nm (.prim .q8 .nil) (.Call (.Name (eX.str 8) q) [] [] pos):=by
 intro w s₀ A env W σ s ρ v σ' Q hA T Z h k
 exact bg h λvs aD h1 h=>xd 8 O6 hA T Z hx rfl h1 λus s₁ aI O J V=>bX (P:=λvs H=>H=aD->RL s₁.heap aI aD.length vs us->fk .q8 vs aD=some (v,σ')->_) h1 (λY V h=>(show us=[] from V)▸eS h (λk=>
  Wx hA.gu λh' hk U=>
   let⟨W',e1,e2,T',j0⟩:=O.new [] (k:=s₁.toks) (h':=h') (p:=s₁.heap.objs.size) (d:=s₁.heap.objs.size) (c:=.ba #[]) hk (cY _) (cY _) ⟨_,U⟩ ⟨_,U⟩ (λW' G e1 e2=>by unfold kA;rw [e1];exact U)
   k _ _ W' T' j0 ⟨bZ▸jL _,congrArg _ e1.symm⟩) (k.from J)) rfl V h
theorem aeR(P:cE):readsIn (K P) (3698:Nat) (.type "type")=true:=by rfl'
theorem aeS(P:cE):findCls (K P) (.ref (3698:Nat)) (.type "type") (sl "rows")=some (.val (.ref 492)):=by rfl'
theorem aeQ(P:cE):(K P).lookup (492:Nat)=some (tL 883 128):=by rfl'
theorem afX(P:cE):readsIn (K P) (3846:Nat) (.type "type")=true:=by rfl'
theorem afV(P:cE):findCls (K P) (.ref (3846:Nat)) (.type "type") (sl "__init__")=some (.val (.ref 3780)):=by rfl'
theorem afU(P:cE):specialIn (K P) (.ref (3846:Nat)) "__getattribute__"=some (some (.builtin "type.__getattribute__")):=by rfl'
theorem afW(P:cE):keepIn (K P) (.ref 3780)=true:=by rfl'
theorem aba(P:cE):(K P).lookup (3731:Nat)=some ⟨(.type "tuple"),none,(.seq [(.str (sl "lit") 10150),(.str (sl "match") 10151),(.str (sl "rep") 10152),(.str (sl "short") 10153)].toArray 0),[].toArray⟩:=by rfl'
theorem agY(Y:aP φ d S nm i ei)(hx:S.names.lookup (sl "PriceRows")=some .globalImplicit)(hs:pO ei=true):aP φ d S nm (.rows i) (.Subscript (.Attribute (.Name (sl "PriceRows") p) (sl "rows") p2) ei pos):=by
 intro w s₀ A env W σ s ρ v σ' Q hA T Z h k
 exact bg h λa aD h1 h=>zK (IK (up<|tg T Z hx (show jv (sl "PriceRows")=some (.ref 3698) by rfl') ∅ (up (cls_value T.K (aeR _) (aeS _) rfl
  (let z:=T.tok [] (s.toks+1);Y hA z.1 (Z.step z.2) h1 λu s₂ cM O J V=>up<|fH h V λn t h=>cf h λH h=>eS h (λk=>by
   have hL:s₂.heap.IsList (492:Nat) (rowItems 883 128):=⟨_,O.K _ _ (aeQ _),rfl,128,rfl⟩
   have hn:n.toNat<128:=(Int.toNat_lt H.1).mpr H.2
   have hg:(rowItems 883 128)[n.toNat]?=some (BE 883 n.toNat):=by
    unfold rowItems
    rw [rQ,eT,mS hn]
    rfl
   exact uz hL.typeIs HG.lookup (wpAny_getItem_list hL H.1 (Int.lt_trans H.2 ∅) hg ((k.from (z.2.trans J)).same O ⟨_,by unfold BE;rw [be H.1]⟩)) (tR hs).1) k)))) λU=>zR rfl)
theorem agQ(O:S.names.lookup (sl "KINDS")=some .globalImplicit):aP φ d S nm (.const (.tup [.str 35,.str 36,.str 37,.str 38])) (.Name (sl "KINDS") p):=by
 intro w s₀ A env W σ s ρ v σ' Q V T Z h
 exact vc h λk=>up<|tg T Z O (show jv (sl "KINDS")=some (.ref 3731) by rfl') ∅ (k.same T ⟨_,_,rfl,⟨_,T.K _ _ (aba _),rfl,_,rfl⟩,_,_,rfl,⟨_,rfl⟩,_,_,rfl,⟨_,rfl⟩,_,_,rfl,⟨_,rfl⟩,_,_,rfl,⟨_,rfl⟩,rfl⟩)
theorem ag4(Φ:i4 φ d')(hd:d'<=d)(Y:jP φ d S nm l es)(hs:es.all fV=true)(V:es.length<30)(hl:(kE.endLine==pos.line)=true)(hx:S.names.lookup (sl "StepCoder")=some .globalImplicit):
  aP φ d S nm (.fn 3780 l) (.Call (.Attribute (.Name (sl "StepCoder") p) (sl "__init__") kE) es [] pos):=by
 intro w s₀ A env W σ s ρ v σ' Q hA T Z h k
 refine bg h λvs aD h1 h=>?_
 show ao _ _ (attributeBase (.Name (sl "StepCoder") p) (sl "__init__") env (eval (.Name (sl "StepCoder") p) env)>>=λov=>standAt kE.atName>>=λJ=>methodCall (.Name (sl "StepCoder") p) (sl "__init__") kE pos env ov es.length (backTo pos (starEach es env)) []) _ _ _
 rw [zR rfl,oX hs]
 refine aF (up<|tg T Z hx (show jv (sl "StepCoder")=some (.ref 3846) by rfl') ∅ (dj (sZ hl V (λpl Q hQ=>up<|method_cls T.K (afU _) (cls_value T.K (afX _) (afV _) rfl hQ)) ?_)))
 exact let z:=T.tok [] (s.toks+1);wZ mE (keeps_K (afW _)) (l7 (Y hA z.1 (Z.step z.2) h1 λus s₂ cM O H U=>⟨O.K,uT Φ (hA.le hd) O U h (k.from (z.2.trans H))⟩))
end
end
section
section
variable {w:bz}{s₀ s s₁ s₂:aj}{A:cu}{W aI cM W':Wd}{σ aD bR σ':AH}{X P:List Nat}{I i:Nat}{src:Src}{target:aG}{o:Option V}{Q:Option af->aj->Prop}
theorem ad'(hh:A.handled=none){xs:List af}(ht:target.ctorIdx=25)(It:fX s.heap W σ.length I [I,J] i (.gv n))(he:IsEnum s.heap I J i old)(hit:s.heap.IsListIter J (W.π n) i)(U:I≠J)(hn:n<σ.length)
  (hL:s.heap.IsList (W.π n) (dG xs)) (hx:RL s.heap W σ.length l xs) (h:some ((l[i]?).map λv=>V.tup [.int i,v])=some o)
  (k0:o=none->∀h',ef [I,J] s.heap h'->dw s.heap h'->Q none {s with heap:=h'}) (k1:∀v u s₁,o=some v->rZ w A W σ s I [I,J] i (.gv n) target v u s₁->Q (some u) s₁):wpAny (model aL w) A (pyNext (.ref I)) Q (λY Y=>False) s:=by
 have h:=bT h
 cases q:l[i]? with
 |none=>
  rw [q] at h
  exact wpAny_pyNext_enum_end hh he hit hL (Ea hx q) λh' ZV=>have kX:=ef.ext ZV (ib _ (cA.mpr rfl));k0 h.symm h' kX (It.sO kX)
 |some v=>
  rw [q] at h
  obtain⟨u,hu,hr⟩:=hx.get q
  refine wpAny_pyNext_enum_item he hit hL (x:=u) (rQ.trans hu) U λO ZU H aaJ aji aab=>k1 _ _ _ h.symm λ{Q'} q'=>?_
  refine CF (motive_1:=λt=>wpAny (model aL w) A (letOwnedTupleGo t (.ref I) (.ref s.heap.objs.size)) Q' _ {s with heap:=O,toks:=s.toks+1}) target ht λes k p=>wpAny_letOwnedTupleGo_enum ZU λZ ZW aaE=>?_
  have EU:∀(b:Nat) o,O.get? b=some o->b≠I->Z.get? b=some o:=λb o e hb=>(aaE.2 b hb).trans e
  have kX:ef [I,J] s.heap Z:=λb o eb hb=>have q:=So hb;EU b o (aab b o q (So (List.not_mem_of_not_mem_cons hb)) eb) q
  have kT:=It.sO kX
  obtain⟨o1,a1,c1,d1⟩:=H
  exact q' Z (s.toks+1) kX kT ⟨_,[.int i s.toks,u],rfl,⟨_,EU _ _ aaJ (gZ (jl he)),rfl,_,rfl⟩,_,_,rfl,⟨_,rfl⟩,_,_,rfl,hr.mono kT.grow,rfl⟩
   ⟨_,rfl,⟨J,u,_,o1,rfl,U,hn,λh q=>q,rfl,c1,d1⟩,λp hp=>(eJ.mp hp).elim (λq=>q▸⟨ZW,λq=>absurd (show ic "enumerate"=ic "tuple" from q) ∅⟩) λq=>cA.mp q▸⟨EU _ _ a1 (eN U),λe=>absurd (c1.symm.trans e) ∅⟩⟩
theorem NB(O:A.handled=none)(T:St w s₀ W σ s)(U:fX s.heap W σ.length I P i src)(h:src.jf σ i=some o)(ht:ry src target=true)
  (V:o=none->∀h',ef P s.heap h'->dw s.heap h'->Q none {s with heap:=h'}) (Z:∀v u s₁,o=some v->rZ w A W σ s I P i src target v u s₁->Q (some u) s₁):wpAny (model aL w) A (pyNext (.ref I)) Q (λY Y=>False) s:=by
 obtain⟨os,e,x,g⟩:=id U
 cases src with
 |lst l=>
  obtain⟨ob,rfl,z⟩:=x
  cases e
  have g:=(g _ (cA.mpr rfl)).1
  rcases z with⟨t,us,H,ht',hl⟩|⟨x,st,he,hv⟩
  ·exact aed O U ⟨ob,g,H⟩ ht' hl h V Z
  ·exact aec O U (g.trans (congrArg some he)) hv h V Z
 |live n=>
  obtain⟨ob,rfl,hn,H⟩:=x
  cases e
  exact jc (P:=λp=>p=o->_) h (λl e q=>let⟨xs,hL,hx⟩:=T.E7 e;aeb O U ⟨ob,(g _ (cA.mpr rfl)).1,H⟩ hn hL hx (congrArg some q) V Z) rfl
 |gv n=>
  obtain⟨J,old,o1,o2,rfl,jw,hn,a,b,H⟩:=x
  cases e
  exact jr h λl e h=>let⟨xs,hL,hx⟩:=T.lst e;ad' O (jJ ht) U (a _ (g _ (gh ..)).1) ⟨o2,(g _ (ib _ (cA.mpr rfl))).1,H⟩ jw hn hL hx h V Z
 |keys n len=>
  obtain⟨ob,rfl,hn,H⟩:=x
  cases e
  exact uN h λl e h=>cf h λhl h9=>by
   subst hl
   exact aea O T U ⟨ob,(g _ (cA.mpr rfl)).1,H⟩ hn e h9 V Z
theorem Off.step(H:Off aI aD P)(st:Step X aI aD s₁ cM bR s₂)(J:∀p∈P,Lv s₁.heap p):Off cM bR P:=λp hp=>⟨(H p hp).1,st.apart (J p hp) (H p hp).2⟩
theorem fX.step(st:Step X aI aD s₁ cM bR s₂)(H:Off aI aD P)(V:∀p∈P,p∉X)(U:fX s₁.heap aI aD.length I P i src):fX s₂.heap cM bR.length I P i src:=
 U.keep st.grow λp hp o e=>st.keep p o e (H p hp).2 (V p hp)
end
def KI(w:bz)(s₀:aj)(W:Wd)(σ:AH)(s:aj)(σ':AH)(src:Src)(Q:af->aj->Prop):Prop:=
 ∀s' W' I P,St w s₀ W' σ' s'->Step [] W σ s W' σ' s'->fX s'.heap W' σ'.length I P 0 src->Off W' σ' P->(∀p∈P,¬Lv s.heap p)->Q (.ref I) s'
def lT(φ:bK)(d:Nat)(S:bF)(nm:List Str)(x:XI)(e:aG):Prop:=
 ∀⦃w:bz⦄ ⦃s₀:aj⦄ ⦃A:cu⦄ ⦃env:Env⦄ ⦃W:Wd⦄ ⦃σ:AH⦄ ⦃s:aj⦄ ⦃ρ:bc⦄ ⦃src:Src⦄ ⦃σ':AH⦄ ⦃Q:af->aj->Prop⦄,Ok A d->St w s₀ W σ s->cV S nm env W σ ρ s->xi φ ρ x σ=some (src,σ')->KI w s₀ W σ s σ' src Q->
  ao (model aL w) A (eval e env) (λu s₁=>ao (model aL w) A (pyIter u) Q (λY Y=>False) s₁) (λY Y=>False) s
def zL(S:bF)(nm:List Str)(t:XT)(H:aG):Prop:=
 ∀⦃φ:bK⦄ ⦃w:bz⦄ ⦃s₀:aj⦄ ⦃A:cu⦄ ⦃env:Env⦄ ⦃W:Wd⦄ ⦃σ:AH⦄ ⦃s:aj⦄ ⦃ρ aV:bc⦄ ⦃v:V⦄ ⦃u:af⦄ ⦃σ':AH⦄ ⦃Q:Unit->aj->Prop⦄,A.handled=none->St w s₀ W σ s->cV S nm env W σ ρ s->R s.heap W σ.length v u->xt φ t v ρ σ=some (aV,σ')->
  (∀s',St w s₀ W σ' s'->Step (fS env) W σ s W σ' s'->cV S nm env W σ' aV s'->Q () s')->wpAny (model aL w) A (assign H env u) Q (λY Y=>False) s
section
variable {φ:bK}{d:Nat}{S:bF}{nm:List Str}
theorem ahR(H:nm.Nodup)(O:nm[i]?=some y)(J:kH S y=true):zL S nm (.var i) (.Name y p):=by
 intro φ w s₀ A env W σ s ρ aV v u σ' Q U T Z V h
 exact bX h λk=>assign_Name (vZ H T Z O (qY J) V k)
theorem ahQ(H:nm.Nodup){L:List (Nat×Str)}(O:oW U=some (L.map (·.2)))(V:∀p∈L,nm[p.1]?=some p.2/\kH S p.2=true):zL S nm (.tup (L.map (·.1))) (.Tuple U k p):=by
 intro φ w s₀ A env W σ s ρ aV v u σ' Q Y T Z hr h
 exact bg h λvs aD h1 J=>rF (P:=λu=>_->wpAny _ A (assign _ env u) Q _ s) h1 hr λl c us a1 a2 h=>cf h λhl h=>bX (P:=λvs aD=>M.ret (jF (L.map (·.1)) vs ρ) aD=some (aV,σ')->_) h (λJ=>bX J λk=>
  PV Y H O V (hl.trans (bf _)) T Z a1 a2 k) J
noncomputable def xiE:XI->Bool
 |.gv _=>true
 |.range _=>false
 |.val _=>false
noncomputable def rz(x:XI)(e:aG):Bool:=!xiE x||dP e.ctorIdx 25
@[elab_as_elim] theorem Oz{P:List V->Src->Prop}(h:FY vs=some s)(H:∀a,iE a=true->P [.int a] (.lst (eV 0 a)))(U:∀a b,iE a=true->iE b=true->P [.int a,.int b] (.lst (eV a b)))
  (Z:∀a b,iE a=true->iE b=true->P [.int a,.int b,.int (-1)] (.lst (lr a b))):P vs s:=by
 cases vs with
 |nil=>exact nn h
 |cons a r=>
  exact rE (v:=a) h λi e h=>by
   subst e
   cases r with
   |nil=>exact cf h λq h=>fU h (H i q)
   |cons b r=>
    exact rE (v:=b) h λj e h=>by
     subst e
     cases r with
     |nil=>exact cf h λq h=>aw q λJ O=>fU h (U i j J O)
     |cons c r=>cases r with
      |nil=>exact rE (v:=c) h λm e h=>cf h λq h=>aw q λq Y=>aw q λJ O=>fU h (by rw [e,eq_of_beq J];exact Z i j O Y)
      |cons _ _=>exact nn h
theorem RO(h:xi φ ρ x σ=some (src,σ'))(Z:rz x J=true):ry src J=true:=by
 cases x with
 |gv e=>exact bg h λv aD O h=>p8 h λn Y h=>jr h λl Y h=>bX (P:=λsrc Y=>ry src J=true) h Z
 |range l=>exact bg h λvs aD O h=>pairE (P:=λsrc Y=>ry src J=true) h λs H=>Oz (P:=λY s=>ry s J=true) H (λY Y=>rfl) (λY Y Y Y=>rfl) λY Y Y Y=>rfl
 |val e=>
  exact bg h λv aD O h=>fj h (λh=>p8 h λn Y h=>dz h λc Y h=>pairE (P:=λsrc Y=>ry src J=true) h λs H=>by
   cases c with
   |list l=>exact fU H rfl
   |jT l o=>exact fU H rfl
   |bQ l=>exact fU H rfl
   |_=>exact nn H) λh=>v8 h λl Y h=>bX (P:=λsrc Y=>ry src J=true) h rfl
noncomputable def ri(e:aG):Bool:=!Nat.beq e.ctorIdx 7
theorem Le(h:ri e=true)(env:Env)(x:af):foldedSetIterable e env x=pure x:=by
 cases e with
 |Set _ _=>exact ff h
 |_=>rfl
end
end
section
inductive UH(φ:bK)(w:bz)(s₀:aj)(S:bF)(nm:List Str)(env:Env)(W:Wd)(σ:AH)(s:aj)(I:Nat)(P:List Nat)(src:Src)(t:XT)(b:XB)(q:Option ((Fl×bc)×AH))(n:Nat)(s':aj):Prop
 |mk (cM:Wd) (bR:AH) (SL:bc) (i:Nat) (T:St w s₀ cM bR s') (Z:cV S nm env cM bR SL s') (st:Step (fS env) W σ s cM bR s') (It:fX s'.heap cM bR.length I P i src) (O:Off cM bR P) (h:mj φ src t (λρ=>xb φ b ρ) n i SL bR=q)
section
variable {φ:bK}{d:Nat}{S:bF}{nm:List Str}
theorem agr{body:List cy}(X:lT φ d S nm it e)(Y:om φ d S nm b body)(G:zL S nm t PL)(ht:rz it PL=true)(hs:ri e=true):
  eG φ d S nm (.loop t it b) (.For PL e body [] pos):=by
 intro w s₀ A env W σ s ρ r σ' Q hA T Z h k
 exact bg h λsrc aD h1 h=>UD (X hA T Z h1 λs₂ aI I P jQ rq wK wL oz=>WY (UH φ w s₀ S nm env W σ s I P src t b (some (r,σ'))) (λn ji x=>by
  obtain⟨iL,uD,zw,i,gF,uK,rt,UG,zI,U⟩:=x
  cases n with
  |zero=>exact nn U
  |succ n=>
   have own:∀a∈fS env,a∉P:=λa ha hp=>oz a hp (Z.gW a ha).2.1
   have Fy:∀p∈P,p∉fS env:=λp hp ha=>own p ha hp
   exact dz U λo hn U=>up<|NB hA.hn gF UG hn (RO h1 ht) (λe h' kx kt=>up<|wo (bX (P:=λr σ'=>KS S nm env w s₀ W σ s r σ' Q->Q .next {ji with heap:=h'}) ((e▸U:):some ((Fl.next,zw),uD)=some (r,σ')) (λk=>
     k _ _ iL (gF.jV (k:=ji.toks) zI kx kt) (rt.rA (k:=ji.toks) oz kx kt) (uK.jV (k:=ji.toks) own kx kt) rfl) k))
    λv u BX e nx=>bg ((e▸U:):((xt φ t v zw).bw λaV=>((λρ=>xb φ b ρ) aV).bw λr=>match r.1 with
     |.ret v=>M.ret (.ret v,r.2)
     |.next=>mj φ src t (λρ=>xb φ b ρ) n (i+1) r.2
     |.cont=>mj φ src t (λρ=>xb φ b ρ) n (i+1) r.2) uD=some (r,σ')) λajv ajw h6 h8=>bg h8 λp zy h7 h9=>up<|nx λh' k' kx kt hr zE=>up<|G hA.hn (gF.jV (k:=k') zI kx kt) (uK.jV (k:=k') own kx kt) hr h6 λGv zM V Dc=>by
     have zJ:=zI.step V zE.live
     have zF:=zE.step V zI Fy
     have st:=(rt.rA (k:=k') oz kx kt).trans V
     exact Y hA zM Dc h7 λf Gw uI qC H J F=>match p,h9,J,F with
      |(.next,O),h,J,F=>by
       obtain rfl:f=.next:=F
       exact⟨n,jL n,uI,zy,O,i+1,qC,J,st.trans H,zF.step H zJ Fy,zJ.step H zF.live,h⟩
      |(.cont,O),h,J,F=>by
       obtain rfl:f=.cont:=F
       exact⟨n,jL n,uI,zy,O,i+1,qC,J,st.trans H,zF.step H zJ Fy,zJ.step H zF.live,h⟩
      |(.ret v,O),h,J,⟨u,e,q⟩=>e▸bX (P:=λr σ'=>KS S nm env w s₀ W σ s r σ' Q->Q (.ret u) Gw) h (λk=>k _ _ uI qC (st.trans H) J ⟨u,rfl,q⟩) k)
  (src.sC aD) ⟨aI,aD,ρ,0,jQ,Z.step rq,rq.ir,wK,wL,h⟩) (Le hs env)
end
section
variable {w:bz}{s₀ s s₁:aj}{W aI:Wd}{σ aD:AH}{src:Src}{Q:af->aj->Prop}
theorem KI.more(k:KI w s₀ W σ s aD src Q)(st:Step [] W σ s aI aD s₁)(T:St w s₀ aI aD s₁){P:List Nat}(H:∀(b:Nat) o,s₁.heap.get? b=some o->h'.get? b=some o)(U:∀p∈P,s₁.heap.objs.size<=p)
  (J:fy s₁.heap aI aD.length h' aI aD.length->fX h' aI aD.length I P 0 src):Q (.ref I) {s₁ with heap:=h',toks:=n}:=
 have z:=T.more [] (k:=n) H
 k _ aI I P z.1 (st.trans z.2) (J z.2.grow) (λp hp=>⟨bo T.wS (U p hp),λm O=>have b:=T.below m O;⟨gZ (bN b.1 (U p hp)),gZ (bN b.2 (U p hp))⟩⟩) λp hp V=>Lv.not (U p hp) (st.live _ V)
theorem KI.push(k:KI w s₀ W σ s aD src Q)(st:Step [] W σ s aI aD s₁)(T:St w s₀ aI aD s₁)(J:O.isFreed=false)(Z:O.cls≠.type "tuple")(U:fy s₁.heap aI aD.length (s₁.heap.push O) aI aD.length->uE (s₁.heap.push O) aI aD.length s₁.heap.objs.size 0 src [(s₁.heap.objs.size,O)]):
  Q (.ref s₁.heap.objs.size) {s₁ with heap:=s₁.heap.push O,toks:=n}:=
 k.more st T (λb o e=>dZ _ e) (P:=[s₁.heap.objs.size]) (λp hp=>cA.mp hp▸cY _) λG=>⟨_,rfl,U G,λp hp=>cA.mp hp▸⟨gM _ J,Z⟩⟩
theorem oV(h:iE a=true): -(2^62)<=a/\a<2^62:=have h:=of_decide_eq_true h;by lia
theorem Pc(a b:Int):uB a b 1=((eV a b).length:Nat):=by
 rw [rangeSize_one,eV,bf,gO];split<;>lia
theorem ag7(a b:Int):uB a b (-1)=((lr a b).length:Nat):=by
 rw [rangeSize_downNat,lr,bf,gO]
theorem yC{f:Nat->V}(h:((bV n).map f)[j]?=some v):v=f j:=
 jc (P:=λv=>v=f j) ((eT ..).symm.trans h) λi e=>congrArg f (bT (e.symm.trans (mS (by have h:=(gC.mp e).1;rwa [gO] at h))))
theorem ET(T:St w s₀ aI aD s₁)(st:Step [] W σ s aI aD s₁)(H:Builtin.Range.small a b c=true)(hz:uB a b c=(l.length:Nat))(J:∀(j:Nat) x,l[j]?=some x->x=.int (a+j*c))(k:KI w s₀ W σ s aD (.lst l) Q):
  wpAny (model aL w) A (pyIter (.ref s₁.heap.objs.size)) Q (λY Y=>False) {s₁ with heap:=s₁.heap.push {cls:=.type "range",data:=.fields #[.int a t,.int b u,.int c v]},toks:=n}:=
 have z:=T.more [] (k:=n) (h':=s₁.heap.push {cls:=.type "range",data:=.fields #[.int a t,.int b u,.int c v]}) (λb o e=>dZ _ e)
 Hz (IsRange.new ..) H (KI.push k (n:=n) (st.trans z.2) z.1 rfl (show ic "range_iterator"≠.type "tuple" by decide) λG=>⟨_,rfl,.inr ⟨a,c,by rw [hz,Int.natCast_zero,ww,uv,Int.sub_zero],J⟩⟩)
end
section
variable {φ:bK}{d:Nat}{S:bF}{nm:List Str}
theorem age(X:aP φ d S nm x e):lT φ d S nm (.val x) e:=by
 intro w s₀ A env W σ s ρ src σ' Q hA T Z h k
 exact bg h λv aD h1 h=>X hA T Z h1 λu s₁ aI J H V=>up<|fj h
  (λh=>kQ h V λn hn h=>dz h λc U h=>pairE (P:=λsrc σ'=>KI w s₀ W σ s σ' src Q->_) h (λO Y=>by
   cases c with
   |list l=>exact fU (P:=λO=>KI w s₀ W σ s aD O Q->_) Y λk=>by obtain⟨xs,hL,hx⟩:=J.lst U;exact wpAny_pyIter_list hL (k.push (n:=s₁.toks) H J rfl (show ic "list_iterator"≠.type "tuple" by decide) λG=>⟨_,rfl,hn,rfl,rfl⟩)
   |jT l o=>exact fU (P:=λO=>KI w s₀ W σ s aD O Q->_) Y λk=>by obtain⟨xs,hL,hx⟩:=J.E7 (n:=n) (l:=l) (by unfold nI;rw [U];rfl);exact wpAny_pyIter_list hL (k.push (n:=s₁.toks) H J rfl (show ic "list_iterator"≠.type "tuple" by decide) λG=>⟨_,rfl,hn,rfl,rfl⟩)
   |bQ l=>exact fU (P:=λO=>KI w s₀ W σ s aD O Q->_) Y λk=>by obtain⟨kvs,hD,LV,hkl⟩:=J.dictAt U;exact wpAny_pyIter_dict (BW J U) hD (hkl.symm▸k.push (n:=s₁.toks) H J rfl (show ic "dict_keyiterator"≠.type "tuple" by decide) λG=>⟨_,rfl,hn,rfl,rfl⟩)
   |_=>exact nn Y) k)
  λh=>rF h V λl a us ht hl h=>bX (P:=λsrc σ'=>KI w s₀ W σ s σ' src Q->_) h (λk=>iter_tuple ht (k.push (n:=s₁.toks) H J rfl (show ic "tuple_iterator"≠.type "tuple" by decide) λG=>⟨_,rfl,.inl ⟨a,us,⟨rfl,rfl⟩,ht.push _,hl.mono G⟩⟩)) k
theorem agd(X:jP φ d S nm l es)(hx:S.names.lookup (eX.str 10)=some .globalImplicit)(hs:es.all fV=true):lT φ d S nm (.range l) (.Call (.Name (eX.str 10) q) es [] pos):=by
 intro w s₀ A env W σ s ρ src σ' Q hA T Z h k
 exact bg h λvs aD h1 h=>xd 10 X hA T Z hx hs h1 λus s₁ aI J H V=>up<|pairE (P:=λsrc σ'=>KI w s₀ W σ s σ' src Q->_) h (λsr Y=>
  Oz (P:=λvs sr=>RL s₁.heap aI aD.length vs us->KI w s₀ W σ s aD sr Q->_) Y
   (λb O V k=>by
    obtain⟨u,r,rfl,⟨t,rfl⟩,rfl⟩:=V
    exact Ii (up<|ET J H (C1 ∅ ∅ (oV O).1 (oV O).2) (Pc ..) (λj x=>yC) k))
   (λa b U O V k=>by
    obtain⟨u,r,rfl,⟨t,rfl⟩,u',r',rfl,⟨t',rfl⟩,rfl⟩:=V
    exact call_range_2 (up<|ET J H (C1 (oV U).1 (oV U).2 (oV O).1 (oV O).2) (Pc ..) (λj x=>yC) k))
   (λa b U O V k=>by
    obtain⟨u,r,rfl,⟨t,rfl⟩,u',r',rfl,⟨t',rfl⟩,u2,r2,rfl,⟨t2,rfl⟩,rfl⟩:=V
    exact call_range_3 ∅ (up<|ET J H (small_down (oV U).1 (oV U).2 (oV O).1 (oV O).2) (ag7 ..) (λj x=>yC) k) (.inl (Hp ∅))) V) k
theorem agc(X:aP φ d S nm x e)(hx:S.names.lookup (eX.str 11)=some .globalImplicit)(hs:fV e=true):lT φ d S nm (.gv x) (.Call (.Name (eX.str 11) q) [e] [] pos):=by
 intro w s₀ A env W σ s ρ src σ' Q hA T Z h k
 exact bg h λv aD h1 h=>wI (up<|vK 11 T Z hx (oX (es:=[e]) (by rw [wu,hs];rfl)▸qH (λa q=>nomatch q) mE (l7 (BU (X hA T Z h1 λu s₁ aI J H V=>up (zl (up<|
  kQ h V λn hn h=>jr h λl hc h=>bX (P:=λsrc σ'=>KI w s₀ W σ s σ' src Q->_) h (λk=>by obtain⟨xs,ep,hl,hxx⟩:=J.cell _ _ hc;exact call_enumerate_1 hl λh' U O hz hk=>up<|wpAny_pyIter_enum U (
   let⟨o1,a1,Y,d1⟩:=O
   k.more (n:=s₁.toks) H J hk (P:=[s₁.heap.objs.size+1,s₁.heap.objs.size]) (λp hp=>(eJ.mp hp).elim (λq=>q▸mH _) λq=>cA.mp q▸cY _)
    λG=>⟨_,rfl,⟨s₁.heap.objs.size,.none,_,o1,rfl,zd _,hn,λh q=>q,rfl,Y,d1⟩,λp hp=>(eJ.mp hp).elim (λq=>q▸⟨U,λq=>absurd (show ic "enumerate"=ic "tuple" from q) ∅⟩) λq=>cA.mp q▸⟨a1,λe=>absurd (Y.symm.trans e) ∅⟩⟩)) k)))))))
end
end
section
open SeqAt
section
noncomputable abbrev gK(l:List (Int×V))(es:List bY):List (Int×af):=(l.map (·.1)).zip (es.map (·.val))
section
variable {w:bz}{h:cR}{W:Wd}{N:Nat}{A:cu}{s:aj}
theorem RI.value:∀{l:List (Int×V)} {es:List bY},RI w h W N l es->(jy l k=none/\valueAt (gK l es) k=none)\/∃v u,jy l k=some v/\valueAt (gK l es) k=some u/\R h W N v u
 |[],_,x=>by cases x;exact .inl ⟨rfl,rfl⟩
 |(H,v')::l,_,⟨t,u,r,q,a,b⟩=>by
  subst q
  by_cases J:H=k
  ·exact .inr ⟨v',u,Mr J,congrArg (fu λq:Int×af=>q.2) (yW (p:=λq:Int×af=>decide (q.1=k)) (a:=(H,u)) (decide_eq_true J)),a⟩
  ·have e:valueAt (gK ((H,v')::l) (⟨hashInt H,.int H t,u⟩::r)) k=valueAt (gK l r) k:=congrArg (fu λq:Int×af=>q.2) (we (p:=λq:Int×af=>decide (q.1=k)) (a:=(H,u)) λq=>J (of_decide_eq_true q))
   rw [Ms J,e]
   exact RI.value b
theorem J'(x':RI w h W N l' O):∀{l:List (Int×V)} {es:List bY} {r:Bool},RI w h W N l es->nv.go l' l=some r->zu A s (gK l' O) (gK l es) r
 |[],_,r,x,H=>by cases x;exact fU H .nil
 |(k,v)::l,_,r,⟨t,u,U,q,a,b⟩,H=>by
  subst q
  unfold nv.go at H
  rcases x'.value (k:=k) with⟨Y,J⟩|⟨v',u',Y,J,ru⟩
  ·rw [Y] at H
   exact fU H (.miss J)
  ·rw [Y] at H
   exact fH (P:=λu=>zu A s _ ((k,u)::gK l U) r) H a λp t1 H=>fH (P:=λu'=>valueAt _ k=some u'->zu A s _ ((k,.int p t1)::gK l U) r) H ru (λp' t2 H J=>jc (P:=λr=>zu A s _ ((k,.int p t1)::gK l U) r) H λbb Z=>
    .hit J (λprog w E Q hq=>wpAny_eqBool_int (show Q (p==p') s from hq)) (J' x' b Z)) J
end
theorem Oj(h:(gK l es).map (·.1)=l.map (·.1)):(gK l es).length=l.length:=by have:=congrArg zo h;rwa [bf,bf] at this
theorem Al:pe:=by
 intro w s₀ s W σ x y l l' r A T hx hy h hu
 obtain⟨es,ep,h1,H,h3,h4⟩:=T.cell _ _ hx
 obtain⟨O,ep',g1,V,g3,g4⟩:=T.cell _ _ hy
 have ax:=BW T hx
 have ay:=BW T hy
 have D:∀prog J,s.heap.DictOf (intKind prog J) (W.π x) (gK l es):=λprog J=>⟨_,_,_,h1,⟨rfl,rfl,rfl⟩,rfl,H.keysOf,H.pairs,by rw [H.fst];exact h3⟩
 have D':∀prog J,s.heap.DictOf (intKind prog J) (W.π y) (gK l' O):=λprog J=>⟨_,_,_,g1,⟨rfl,rfl,rfl⟩,rfl,V.keysOf,V.pairs,by rw [V.fst];exact g3⟩
 have hc:A.units<cLine:=bN hu ∅
 have go:∀b,((gK l es).length=(gK l' O).length->zu A.in1 s (gK l' O) (gK l es) b)->((gK l es).length==(gK l' O).length&&b)=r->RcAt A s (.ref (W.π x)) (.ref (W.π y)) r/\RcNeAt A s (.ref (W.π x)) (.ref (W.π y)) (!r):=
  λb U e=>⟨λprog J E Q Z=>keq_eq ax ay (D prog J) (D' prog J) hc U (e.symm▸Z),λprog J E Q Z=>keq_ne ax ay (D prog J) (D' prog J) hc U (e.symm▸Z)⟩
 have e:((gK l es).length==(gK l' O).length)=(l.length==l'.length):=by rw [Oj H.fst,Oj V.fst]
 by_cases q:l.length=l'.length
 ·exact go r (λY=>J' V H ((if_pos q).symm.trans h)) (by rw [e,beq_iff_eq.mpr q];rfl)
 ·have e0:((gK l es).length==(gK l' O).length)=false:=e.trans (beq_eq_false_iff_ne.mpr q)
  exact go false (λz=>absurd z (beq_eq_false_iff_ne.mp e0)) (by rw [e0];exact bT ((if_neg q).symm.trans h))
noncomputable def pR(S:bF)(n:Str)(k:kh):kh:=if(k==.free&&S.kind==.function&&S.names.lookup n==some .cell) then .cell else k
noncomputable def iV(Sc S:bF):bF:={Sc with names:=Sc.names.map λp=>(p.1,pR S p.1 p.2)}
theorem afk{S:bF}(h:env.scope=S):relabel Sc env=iV Sc S:=by
 subst h
 exact congrArg (λl=>{Sc with names:=l}) (List.map_congr_left (l:=Sc.names) (f:=λ(n,k)=>if(k==.free&&env.scope.kind==.function&&env.kindOf n==some .cell) then(n,.cell) else(n,k)) (g:=λp=>(p.1,pR env.scope p.1 p.2)) λ(n,k) Y=>(apply_ite (Prod.mk n) _ _ _).symm)
noncomputable def Bv(S:bF)(nm:List Str)(x y:Str)(k:kh):Bool:=match k with
 |.local=>decide (y=x)||!nm.contains y
 |.cell=>false
 |.free=>decide (S.names.lookup y=some .cell)
 |.globalExplicit=>true
 |.globalImplicit=>true
noncomputable def J0(S Sc:bF)(nm:List Str)(x:Str):Bool:=
 decide (Sc.kind=.function)&&(decide ((Sc.names.map (·.1)).Nodup)&&(Sc.names.all (λp=>Bv S nm x p.1 p.2)&&decide (Sc.names.lookup x=some .local)))
structure kB(S Sc:bF)(nm:List Str)(x:Str):Prop where
 kind:Sc.kind=.function
 nd:(Sc.names.map (·.1)).Nodup
 ok:∀{y k},(y,k)∈Sc.names->Bv S nm x y k=true
 x:Sc.names.lookup x=some .local
theorem W2{S:bF}(h:J0 S Sc nm x=true):kB S Sc nm x:=aw h λH h=>aw h λJ h=>aw h λO U=>⟨aW H,aW J,λm=>jM.mp O _ m,aW U⟩
section
variable {S Sc:bF}{nm:List Str}{x:Str}
theorem kB.NE(C:kB S Sc nm x)(p:Str×kh)(hp:p∈Sc.names)(e:p.2=.cell):False:=ff ((e▸C.ok (y:=p.1) (k:=p.2) hp:):Bv S nm x p.1 .cell=true)
theorem kB.free(C:kB S Sc nm x)(hp:p∈Sc.names)(e:p.2=.free):S.names.lookup p.1=some .cell:=aW ((e▸C.ok (y:=p.1) (k:=p.2) hp:):Bv S nm x p.1 .free=true)
theorem Bh(y:Str):∀l:List (Str×kh),(l.map λp=>(p.1,pR S p.1 p.2)).lookup y=(l.lookup y).map (pR S y)
 |[]=>rfl
 |(n,k)::r=>by
  rw [jk,HN,HN]
  cases q:y==n with
  |true=>exact eq_of_beq q▸rfl
  |false=>exact Bh y r
theorem afh(h:pR S y k=.local):k=.local:=by
 unfold pR at h
 by_cases q:(k==.free&&S.kind==.function&&S.names.lookup y==some .cell)=true
 ·rw [if_pos q] at h;nomatch h
 ·rwa [if_neg q] at h
theorem afg(h:pR S y k=.cell)(H:k≠.cell):k=.free:=by
 unfold pR at h
 by_cases q:(k==.free&&S.kind==.function&&S.names.lookup y==some .cell)=true
 ·exact aw q λq Y=>aw q λq Y=>eq_of_beq q
 ·rw [if_neg q] at h;exact absurd h H
theorem afi(h:(iV Sc S).names.lookup y=some .local):(y,.local)∈Sc.names:=jc (P:=λk=>k=.local->(y,NameKind.local)∈Sc.names) ((Bh y _).symm.trans h) (λk e q=>afh q▸mem_lookup e) rfl
theorem Ov(C:kB S Sc nm x)(h:(iV Sc S).names.lookup y=some .cell):(y,.free)∈Sc.names:=jc (P:=λk=>k=.cell->(y,NameKind.free)∈Sc.names) ((Bh y _).symm.trans h) (λk e q=>afg q (C.NE _ (mem_lookup e))▸mem_lookup e) rfl
theorem afj(C:kB S Sc nm x):(iV Sc S).names.lookup x=some .local:=(Bh x _).trans (congrArg (fu (pR S x)) C.x)
end
noncomputable def uX(cells:List (Str×cT))(n:Str)(k:kh)(acc:List (Str×cT)):List (Str×cT):=if k=.free then(match cells.lookup n with|some a=>(n,a)::acc|none=>acc) else acc
noncomputable def ii(cells:List (Str×cT)):List (Str×kh)->List (Str×cT)->List (Str×cT)
 |[],acc=>acc
 |p::r,acc=>ii cells r (uX cells p.1 p.2 acc)
section
variable {cells:List (Str×cT)}{n m:Str}{k:kh}{a:cT}
theorem DA(h:cells.lookup n=some a):uX cells n .free acc=(n,a)::acc:=by
 show(match cells.lookup n with|some a=>(n,a)::acc|none=>acc)=_
 rw [h]
theorem Dz{P:List (Str×cT)->Prop}(acc:List (Str×cT))(H:P acc)(J:∀a,cells.lookup n=some a->P ((n,a)::acc)):P (uX cells n k acc):=by
 by_cases q:k=.free
 ·cases e:cells.lookup n with
  |some a=>exact q▸(DA e).symm▸J a e
  |none=>
   have:uX cells n .free acc=acc:=by
    show(match cells.lookup n with|some a=>(n,a)::acc|none=>acc)=_
    rw [e]
   exact q▸this.symm▸H
 ·rw [show uX cells n k acc=acc from if_neg q];exact H
theorem JL:∀{l:List (Str×kh)} {acc:List (Str×cT)},(n,a)∈ii cells l acc->(n,a)∈acc\/cells.lookup n=some a
 |[],acc,h=>.inl h
 |p::r,acc,h=>(JL (l:=r) (acc:=uX cells p.1 p.2 acc) h).elim (Dz (P:=λl=>(n,a)∈l->(n,a)∈acc\/cells.lookup n=some a) acc .inl λb e h=>(eJ.mp h).elim (λq=>.inr ((rP q).1▸(rP q).2▸e)) .inl) .inr
theorem JJ:∀{l:List (Str×kh)} {acc:List (Str×cT)},(n,a)∈acc->(n,a)∈ii cells l acc
 |[],acc,h=>h
 |p::r,acc,h=>JJ (l:=r) (Dz (P:=λl=>(n,a)∈l) acc h λb e=>ib _ h)
theorem JK(e:cells.lookup n=some a):∀{l:List (Str×kh)} {acc:List (Str×cT)},(n,.free)∈l->(n,a)∈ii cells l acc
 |p::r,acc,h=>(eJ.mp h).elim (λq=>q▸JJ (l:=r) ((DA (acc:=acc) e).symm▸gh ..)) λh=>JK e (l:=r) h
theorem Dy:∀{l:List (Str×kh)} {acc:List (Str×cT)},(l.map (·.1)).Nodup->(acc.map (·.1)).Nodup->(∀n∈l.map (·.1),n∉acc.map (·.1))->((ii cells l acc).map (·.1)).Nodup
 |[],acc,_,h,_=>h
 |p::r,acc,H,J,O=>have H:=iz.mp H;Dz (P:=λl=>((ii cells r l).map (·.1)).Nodup) acc (Dy H.2 J λn h=>O n (ib _ h))
   λb e=>Dy (acc:=(p.1,b)::acc) H.2 (iz.mpr ⟨O _ (gh ..),J⟩) λn h q=>(eJ.mp q).elim (λe=>H.1 (e▸h)) (O n (ib _ h))
end
theorem WL (h : ∀ p ∈ Sc.names, p.2 = .free → ∃ a, env.cells.lookup p.1 = some a) : closureFor Sc env = pure (ii env.cells Sc.names []) := by
  have key : ∀ (l : List (Str × kh)) (acc : List (Str × cT)), (∀ p ∈ l, p.2 = .free → ∃ a, env.cells.lookup p.1 = some a) →
      (forIn l acc fun (x : Str × kh) r => do
        let U := r
        if x.2 == NameKind.free then do
            let y ← cellOf env x.1
            pure (mV ((x.1, y) :: U))
          else pure (mV U) : Sem (List (Str × cT))) = pure (ii env.cells l acc) := by
    intro l
    induction l with
    | nil => intro acc _; rfl
    | cons p r Y =>
      intro acc hp
      rw [TV]
      have H := fun a => Y a fun q Z => hp q (ib _ Z)
      by_cases O : p.2 = .free
      · obtain ⟨a, V⟩ := hp p (gh ..) O
        have J : cellOf env p.1 = pure a := by unfold cellOf; rw [V]
        have e : ii env.cells (p :: r) acc = ii env.cells r ((p.1, a) :: acc) := congrArg (ii env.cells r) (O ▸ DA V)
        rw [if_pos (beq_iff_eq.mpr O), J, e]
        exact H _
      · have e : ii env.cells (p :: r) acc = ii env.cells r acc := congrArg (ii env.cells r) (if_neg O)
        rw [if_neg (fun q => O (eq_of_beq q)), e]
        exact H _
  exact congrArg (fun t => (t >>= fun s => pure s : Sem (List (Str × cT)))) (key Sc.names [] h)
section
variable {w:bz}{s₀ s:aj}{W:Wd}{σ:AH}{A:cu}{E:af->aj->Prop}{S Sc:bF}{nm:List Str}{env:Env}{ρ:bc}{x:Str}
noncomputable def uV(S Sc:bF)(C:cT)(env:Env):Env:=
 {scope:=iV Sc S,locals:=C,globals:=env.globals,cells:=ii env.cells Sc.names [],qual:=env.qual,func:=none,code:=env.code,frame:=env.frame,builtins:=env.builtins}
theorem JN(K:kB S Sc nm x):((ii env.cells Sc.names []).map (·.1)).Nodup:=Dy K.nd zg λn Y h=>nomatch h
theorem JM(K:kB S Sc nm x)(h:(y,.free)∈Sc.names)(e:env.cells.lookup y=some c):(ii env.cells Sc.names []).lookup y=some c:=yf (JN K) (JK e h)
theorem z8(h:(y,c)∈ii env.cells Sc.names []):env.cells.lookup y=some c:=(JL h).resolve_left λq=>nomatch q
theorem Fz(h:a∈fS (uV S Sc C env)){P:Nat->Prop}(p:P C)(q:∀a∈fS env,P a):P a:=(eJ.mp h).elim (λe=>e▸p) λh=>by obtain⟨⟨_,_⟩,H,e⟩:=jN.mp h;exact e▸q _ (vJ (z8 H))
theorem aej{α β:Type}{l:List (α×β)}(h:(l.map (·.1)).Nodup)(H:∀{a J b},(a,b)∈l->(J,b)∈l->a=J):(l.map (·.2)).Nodup:=by
 rw [List.nodup_iff_pairwise_ne,HH] at h⊢
 exact h.imp_of_mem λ{p q} hp O U e=>U (H (b:=p.2) hp (by rw [e];exact O))
theorem WI(K:kB S Sc nm x)(Z:cV S nm env W σ ρ s){C:cT}{m:Str->Option af}(hC:s.heap.Ns C m)(h4:4138<=C)(O:∀n,n<σ.length->C≠W.π n/\C≠W.δ n)(U:C∉fS env){i:Nat}(hi:nm[i]?=some x)(fO:nm.Nodup):
  cV (iV Sc S) nm (uV S Sc C env) W σ (ρ.set i none) s where
 sc:=rfl
 kind:=K.kind
 gl:=Z.gl
 bl:=Z.bl
 ns:=⟨m,hC,λj y v J V Y=>dD (K.ok (afi V)) (λe=>by
   have q:=NF fO J (aW e▸hi)
   subst q
   exact nomatch (Ch (lN▸(gC.mp Y).1)).symm.trans Y) λe=>absurd (Ck.mpr (rR J)) (eI e▸jK)⟩
 cell:=λj y v J V Y=>by
  have H:=Ov K V
  have Z5:i≠j:=λq=>by
   have e:x=y:=bT ((q▸hi:).symm.trans J)
   have z:Sc.names.lookup y=some .local:=e▸K.x
   exact nomatch (yf K.nd H).symm.trans z
  obtain⟨c,u,a,r⟩:=Z.cell j y v J (K.free H rfl) ((qw Z5).symm.trans Y)
  exact⟨c,u,JM K H a,r⟩
 cells:=λy h=>have H:=Ov K h;by obtain⟨c,v,a,b⟩:=Z.cells y (K.free H rfl);exact⟨c,v,JM K H a,b⟩
 gW:=λa ha=>Fz (P:=λa=>4138<=a/\Lv s.heap a/\∀n,n<σ.length->a≠W.π n/\a≠W.δ n) ha ⟨h4,by obtain⟨o,_,_,q,_⟩:=hC;exact⟨o,q⟩,O⟩ Z.gW
 nodup:=iz.mpr ⟨λh=>by obtain⟨⟨_,_⟩,H,e⟩:=jN.mp h;exact U ((show _=C from e)▸vJ (z8 H)),aej (JN K) λJ V=>Z.JE (z8 J) (z8 V)⟩
end
end
end
section
inductive pg(φ:bK)(d:Nat)(S:bF)(nm:List Str):Option XE->List aG->Prop
 |none:pg φ d S nm none []
 |one {x:XE} {e:aG}:fY φ d S nm x e->pg φ d S nm (some x) [e]
theorem DK{f:V->M V}{c:Option (V->M V)}:∀{n i:Nat} {acc:List V} {σ:AH},gT src f c n i acc σ=some (vs,σ')->acc.length<=vs.length
 |0,_,_,_,h=>nn h
 |n+1,i,acc,σ,h=>dz h λo Y h=>by
  have H:∀{y:V} {σ:AH},gT src f c n (i+1) (acc++[y]) σ=some (vs,σ')->acc.length<=vs.length:=λh=>bo (bZ▸mH _) (DK h)
  cases o with
  |none=>exact bX (P:=λvs Y=>acc.length<=vs.length) h (cY _)
  |some v=>cases c with
   |none=>exact bg h λy aD Y h=>H h
   |some t=>exact bg h λb aD Y h=>kP h λb Y h=>match b,h with
    |true,h=>bg h λy bR Y h=>H h
    |false,h=>DK h
section
variable {φ:bK}{d:Nat}{S:bF}{nm:List Str}{w:bz}{s₀ s s₁ s₂:aj}{A:cu}{env:Env}{W aI cM:Wd}{σ aD bR:AH}{ρ iJ:bc}{E:af->aj->Prop}{bH I D i ep:Nat}{P:List Nat}{src:Src}{acc:List V}{us:List af}
theorem aa6{Q:af->aj->Prop}(x:fX s.heap W N I P i src)(h:Q (.ref I) s):wpAny (model aL w) A (pyIter (.ref I)) Q E s:=by
 obtain⟨os,e,x,g⟩:=x
 cases src with
 |lst l=>
  obtain⟨O,rfl,z⟩:=x
  have g:=(g _ (cA.mpr rfl)).1
  rcases z with⟨t,us,H,_⟩|⟨x,st,V,hv⟩
  ·exact wpAny_pyIter_tupleiter (show s.heap.IsTupleIter I t i from⟨O,g,H⟩) h
  ·exact Su (g.trans (congrArg some V)) h
 |live n=>
  obtain⟨O,rfl,U,H⟩:=x
  exact wpAny_pyIter_listiter ⟨O,(g _ (cA.mpr rfl)).1,H⟩ h
 |gv n=>
  obtain⟨J,Y,o1,o2,rfl,Z,U,a,_⟩:=x
  exact wpAny_pyIter_enum (a _ (g _ (gh ..)).1) h
 |keys n len=>
  obtain⟨O,rfl,U,H⟩:=x
  exact wpAny_pyIter_keyiter ⟨O,(g _ (cA.mpr rfl)).1,H⟩ h
structure CS(w:bz)(s₀:aj)(S:bF)(nm:List Str)(env:Env)(W:Wd)(σ:AH)(s:aj)(bH:Nat)(ρ:bc)(I:Nat)(P:List Nat)(D:Nat)(src:Src)(aI:Wd)(aD:AH)(iJ:bc)(i:Nat)(acc:List V)(us:List af)(ep:Nat)(s':aj):Prop where
 T:St w s₀ aI aD s'
 st:Step [] W σ s aI aD s'
 Z:cV S nm env aI aD iJ s'
 sJ:∀v,iJ.set bH (some v)=ρ.set bH (some v)
 It:fX s'.heap aI aD.length I P i src
 O:Off aI aD (D::P)
 g:s'.heap.get? D=some {cls:=.type "list",data:=.seq us.toArray ep}
 rl:RL s'.heap aI aD.length acc us
theorem CS.oP(x:CS w s₀ S nm env W σ s bH ρ I P D src aI aD iJ i acc us ep s₁):Off aI aD P:=λp hp=>x.O p (ib _ hp)
theorem CS.oD(x:CS w s₀ S nm env W σ s bH ρ I P D src aI aD iJ i acc us ep s₁):Off aI aD [D]:=λp hp=>cA.mp hp▸x.O D (gh ..)
theorem CS.Df(x:CS w s₀ S nm env W σ s bH ρ I P D src aI aD iJ i acc us ep s₁)(T:St w s₀ cM bR s₂)(st:Step [] aI aD s₁ cM bR s₂):CS w s₀ S nm env W σ s bH ρ I P D src cM bR iJ i acc us ep s₂ where
 T:=T
 st:=x.st.trans st
 Z:=x.Z.step st
 sJ:=x.sJ
 It:=x.It.step st x.oP λp Y h=>nomatch h
 O:=x.O.step st λp hp=>(eJ.mp hp).elim (λe=>e▸⟨_,x.g⟩) (x.It.live p)
 g:=st.keep D _ x.g (x.O D (gh ..)).2 λh=>nomatch h
 rl:=x.rl.mono st.grow
theorem ahM(Xc:pg φ d S nm c O)(hA:Ok A d)(T:St w s₀ W σ s)(Z:cV S nm env W σ ρ s){f:V->bc}(hf:f v=ρ){g:V->M V}{Q:Bool->aj->Prop}
  (h:(match c.map λt=>λv=>xe φ (f v) t with
   |none=>((g v).bw λy=>gT src g (c.map λt=>λv=>xe φ (f v) t) n j (acc++[y])) σ
   |some t=>((t v).bw λb σ=>vB b λb=>match b with
    |true=>((g v).bw λy=>gT src g (c.map λt=>λv=>xe φ (f v) t) n j (acc++[y])) σ
    |false=>gT src g (c.map λt=>λv=>xe φ (f v) t) n j acc σ) σ)=r) (hr:r.isSome=true)
  (U:∀aI aD s₁,St w s₀ aI aD s₁->Step [] W σ s aI aD s₁->((g v).bw λy=>gT src g (c.map λt=>λv=>xe φ (f v) t) n j (acc++[y])) aD=r->Q true s₁)
  (k0:∀aI aD s₁,St w s₀ aI aD s₁->Step [] W σ s aI aD s₁->gT src g (c.map λt=>λv=>xe φ (f v) t) n j acc aD=r->Q false s₁):
  ao (model aL w) A (forIn O true λc r=>if r=true then do let ok←isTrue c env (eval c env);pure (mV ok) else pure (mV r)) Q (λY Y=>False) s:=by
 obtain⟨r,rfl⟩:=uA.mp hr
 cases Xc with
 |none=>exact ahN (U W σ s T (Step.refl ..) h)
 |one Xt=>
  subst hf
  exact bg (r:=r.1) (σ':=r.2) h λb aD hb h=>kP h λt e h=>ahO (Xt (b:=t) hA T Z (e▸hb) λs₁ aI J H=>match t,h with
   |true,h=>U aI aD s₁ J H h
   |false,h=>k0 aI aD s₁ J H h)
inductive zC(φ:bK)(w:bz)(s₀:aj)(S:bF)(nm:List Str)(env:Env)(W:Wd)(σ:AH)(s:aj)(bH:Nat)(ρ:bc)(I:Nat)(P:List Nat)(D:Nat)(src:Src)(ju:XE)(c:Option XE)(r:Option (List V×AH))(n:Nat)(s':aj):Prop
 |mk (aI:Wd) (aD:AH) (iJ:bc) (i:Nat) (acc:List V) (us:List af) (ep:Nat) (x:CS w s₀ S nm env W σ s bH ρ I P D src aI aD iJ i acc us ep s')
  (h:gT src (λv=>xe φ (ρ.set bH (some v)) ju) (c.map λt=>λv=>xe φ (ρ.set bH (some v)) t) n i acc aD=r)
theorem W3(hi:nm[bH]?=some x)(fO:nm.Nodup)(Xe:aP φ d S nm ju ee)(Xc:pg φ d S nm c ifs)(hx:S.names.lookup x=some .local)(hk:ry src (.Name x px)=true)(hA:Ok A d)
  (oz:∀p∈env.locals::D::P,¬Lv s.heap p) (oc:∀a∈fS env,a≠D/\a∉P) (PD:D∉P) {vs:List V} (iO:vs.length<=most) {R:aj->Prop}
  (fin:∀aI iJ i us ep s',CS w s₀ S nm env W σ s bH ρ I P D src aI bR iJ i vs us ep s'->∀h',ef P s'.heap h'->dw s'.heap h'->R {s' with heap:=h'})
  (n:Nat) (s':aj) (H:zC φ w s₀ S nm env W σ s bH ρ I P D src ju c (some (vs,bR)) n s'):
  ao (model aL w) A (pyNext (.ref I)) (λr s₁=>match r with
   |none=>R s₁
   |some v=>ao (model aL w) A (letOwnedTupleGo (.Name x px) (.ref I) v) (λY s₂=>ao (model aL w) A (assign (.Name x px) env v) (λY s₂=>
     ao (model aL w) A (forIn ifs true λc r=>if r=true then do let ok←isTrue c env (eval c env);pure (mV ok) else pure (mV r)) (λok ji=>
      if ok=true then ao (model aL w) A (eval ee env) (λx BX=>ao (model aL w) A (call (.builtin "list.append") [.ref D,x]) (λY Gu=>∃m,m<n/\zC φ w s₀ S nm env W σ s bH ρ I P D src ju c (some (vs,bR)) m Gu) (λY Y=>False) BX) (λY Y=>False) ji
      else∃m,m<n/\zC φ w s₀ S nm env W σ s bH ρ I P D src ju c (some (vs,bR)) m ji) (λY Y=>False) s₂) (λY Y=>False) s₂) (λY Y=>False) s₁) (λY Y=>False) s':=by
 obtain⟨aI,aD,iJ,i,acc,us,ep,y,h⟩:=H
 cases n with
 |zero=>exact nn h
 |succ n=>
  exact dz h λo hn h=>up<|NB hA.hn y.T y.It hn hk (λe h' kx kt=>bX (P:=λU7 aiR=>U7=vs->aiR=bR->R {s' with heap:=h'}) ((e▸h:):some (acc,aD)=some (vs,bR)) (λe1 e2=>by subst e1 e2;exact fin aI iJ i us ep s' y h' kx kt) rfl rfl)
   λv u s₁ e nx=>up<|nx λh' k kx kt hr zE=>up<|assign_Name (Pw fO (y.T.jV (k:=k) y.oP kx kt) (y.Z.jV (k:=k) (λa ha=>(oc a ha).2) kx kt) hi hx hr λGv zM U Dc=>by
    have nC:∀p,p=D\/p∈P->p∉[env.locals]:=λp hp q=>have o:=oc _ (gh ..);have q:=cA.mp q;hp.elim (λe=>o.1 (q.symm.trans e)) λm=>o.2 (q▸m)
    have G7:CS w s₀ S nm env W σ s bH ρ I P D src aI aD (ρ.set bH (some v)) (i+1) acc us ep Gv:={
     T:=zM
     st:=(y.st.rA (k:=k) (λp hp=>oz p (ib _ (ib _ hp))) kx kt).hide U λa ha=>cA.mp ha▸oz _ (gh ..)
     Z:=y.sJ v▸Dc
     sJ:=λY=>Im ..
     It:=zE.step U y.oP λp hp=>nC p (.inr hp)
     O:=y.O
     g:=U.keep D _ (kx D _ y.g PD) (y.O D (gh ..)).2 (nC D (.inl rfl))
     rl:=(y.rl.mono kt.grow).mono U.grow}
    exact ahM Xc hA zM G7.Z (f:=λv=>ρ.set bH (some v)) (v:=v) rfl (g:=λv=>xe φ (ρ.set bH (some v)) ju) (n:=n) (j:=i+1) (acc:=acc) (src:=src) (r:=some (vs,bR)) (e▸h:) rfl (λuI zy Gw qC Gr h=>by
      have RV:=G7.Df qC Gr
      rw [if_pos rfl]
      exact bg h λz aiT hz h=>Xe hA qC RV.Z hz λxv yL U4 U0 ahv US=>up<|by
       have J:=RV.Df U0 ahv
       refine Dh J.g (λh' e' hs=>?_) (show us.length<=1000 from J.rl.length.symm▸bo (bo (bZ▸mH _) (DK h)) iO)
       have Bc:ef [D] yL.heap h':=ef.ext hs.extBut (cA.mpr rfl)
       have vD:dw yL.heap h':=dw.lj J.g (show ic "list"≠ic "tuple" by decide) λb o q hb=>(hs.2 b hb).trans q
       exact⟨n,jL n,.mk U4 aiT _ (i+1) (acc++[z]) (us++[xv]) (ep+1) {
        T:=J.T.jV (k:=yL.toks) J.oD Bc vD
        st:=J.st.rA (k:=yL.toks) (λp hp=>cA.mp hp▸oz D (ib _ (gh ..))) Bc vD
        Z:=J.Z.jV (k:=yL.toks) (λa ha q=>(oc a ha).1 (cA.mp q)) Bc vD
        sJ:=J.sJ
        It:=J.It.keep vD.grow λp hp o e=>Bc p o e λq=>PD (cA.mp q▸hp)
        O:=J.O
        g:=by rw [e',Tq]
        rl:=(J.rl.mono vD.grow).append ⟨xv,[],rfl,US.mono vD.grow,rfl⟩} h⟩)
     λuI zy Gw qC Gr h=>by
      rw [if_neg jK]
      exact⟨n,jL n,.mk uI zy _ (i+1) acc us ep (G7.Df qC Gr) h⟩)
end
end
section
def KC(w:bz)(s₀:aj)(W:Wd)(σ:AH)(s:aj)(σ':AH)(v:V)(Q:Nat->Nat->aj->Prop):Prop:=
 ∀C D s' W',St w s₀ W' σ' s'->Step [] W σ s W' σ' s'->R s'.heap W' σ'.length v (.ref D)->Off W' σ' [C]->¬Lv s.heap C->(∃m,s'.heap.Ns C m)->Q C D s'
theorem ME{m:Str->Option af}(O:kq C h h')(U:h.Ns C m):dw h h':=λa ws ⟨o',H,V,n,J⟩=>let⟨o,es,ep,Y,Z,_⟩:=U
 ⟨o',(O.2 a λq=>nomatch ((bT (Y.symm.trans (q▸H:))▸Z:).symm.trans J)).trans H,V,n,J⟩
section
variable {φ:bK}{d:Nat}{S Sc:bF}{nm:List Str}
theorem J3(K:kB S Sc nm x)(hi:nm[bH]?=some x)(fO:nm.Nodup){iter:aG}(Xe:aP φ d (iV Sc S) nm ju ee)(X:lT φ d S nm RP iter)(AW:ri iter=true)
  {c:Option XE} {ifs:List aG} (Xc:pg φ d (iV Sc S) nm c ifs) {px:Pos} (AY:rz RP (.Name x px)=true) {w:bz} {s₀ s:aj} {A:cu} {env:Env} {W:Wd} {σ σ':AH} {ρ:bc} {use:Option (af->Sem Unit)} {Q:af->aj->Prop} {pos aeN:Pos} {r:V}
  (hA:Ok A d) (T:St w s₀ W σ s) (Z:cV S nm env W σ ρ s) (h:((xi φ ρ RP).bw λsrc=>Aa src (λv=>xe φ (ρ.set bH (some v)) ju) (c.map λt=>λv=>xe φ (ρ.set bH (some v)) t)) σ=some (r,σ')):
  KC w s₀ W σ s σ' r (λC D s'=>xj (model aL w) A use Q (.ref D) C (.ok .next) s')->
  ao (model aL w) A (comprehension (.ListComp ee [⟨.Name x px,iter,ifs,0⟩] Sc pos) Sc env aeN (newList []) false (eval iter env) use) Q (λY Y=>False) s:=
 bg h λsrc aD h1 h=>bg h λvs bR Z2 h=>cf h λiO h=>bX (P:=λr σ'=>KC w s₀ W σ s σ' r _->_) h λk=>W4 rfl (Le AW env) (WL λp hp hf=>by obtain⟨c,v,e,_⟩:=Z.cells p.1 (K.free hp hf);exact⟨c,e⟩) K.kind (λp hp hl=>yf K.nd (hl▸hp))
  (X hA T Z h1 λs₂ aI I P U rq wK wL H=>up (wpAny_newList (up (Hv (λp hp=>K.NE p hp) (λy hy=>nomatch hy) (λJ AQ hsb=>by
   have hC:(s₂.heap.push {cls:=.type "list",dict:=none,data:=.seq ([]:List af).toArray}).objs.size=s₂.heap.objs.size+1:=iY ..
   have keep:∀(b:Nat) o,(s₂.heap.push {cls:=.type "list",dict:=none,data:=.seq ([]:List af).toArray}).get? b=some o->J.get? b=some o:=λb o e=>(hsb.2 b (dW (bN (jl e:@LT.lt Nat _ b _) (cY _)))).trans (dZ _ e)
   have gD:J.get? s₂.heap.objs.size=some {cls:=.type "list",data:=.seq ([]:List af).toArray 0}:=keep _ _ (gM _ rfl)
   have z:=U.more [] (k:=s₂.toks+([]:List (Str×af)).length) (h':=J) λb o e=>keep b o (dZ _ e)
   have Po:=rq.trans z.2
   have new:∀p,s₂.heap.objs.size<=p->¬Lv s.heap p/\4138<=p/\∀n,n<aD.length->p≠aI.π n/\p≠aI.δ n:=λp hp=>⟨λq=>Lv.not hp (rq.live _ q),bo U.wS hp,λn hn=>have b:=U.below n hn;⟨gZ (bN b.1 hp),gZ (bN b.2 hp)⟩⟩
   have nD:=new _ (cY _)
   have nC:=new _ (mH _)
   have own:∀a∈fS env,∀p,¬Lv s.heap p->a≠p:=λa ha p hp q=>hp (q▸(Z.gW a ha).2.1)
   have lP:∀p∈P,p<s₂.heap.objs.size:=λp hp=>(wK.live p hp).lt
   have aap:J.Ns (s₂.heap.objs.size+1) (λx=>([]:List (Str×af)).reverse.lookup x):=hC▸AQ
   have UA:cV (iV Sc S) nm (uV S Sc (s₂.heap.objs.size+1) env) aI aD (ρ.set bH none) {s₂ with heap:=J,toks:=s₂.toks+([]:List (Str×af)).length}:=
    WI K (Z.step Po) aap nC.2.1 nC.2.2 (λq=>own _ q _ nC.1 rfl) hi fO
   have YI:({newEnv Sc (s₂.heap.push {cls:=.type "list",dict:=none,data:=.seq ([]:List af).toArray}).objs.size env.globals (ii env.cells Sc.names []) env.qual none .none (some env) builtinsNs with scope:=relabel Sc env}:Env)=uV S Sc (s₂.heap.objs.size+1) env:=by
    rw [afk Z.sc,hC];rfl
   show fE _ _ (.compStart _ 0 (.ref I) (.ref s₂.heap.objs.size) {newEnv Sc (s₂.heap.push {cls:=.type "list",dict:=none,data:=.seq ([]:List af).toArray}).objs.size env.globals (ii env.cells Sc.names []) env.qual none .none (some env) builtinsNs with scope:=relabel Sc env})
    (xj _ _ use Q (.ref s₂.heap.objs.size) (s₂.heap.push {cls:=.type "list",dict:=none,data:=.seq ([]:List af).toArray}).objs.size) _
   rw [YI,hC]
   have loop:fE (model aL w) A (.compLoop (.ListComp ee [⟨.Name x px,iter,ifs,0⟩] Sc pos) 0 (.ref I) (.ref s₂.heap.objs.size) (uV S Sc (s₂.heap.objs.size+1) env)) (xj (model aL w) A use Q (.ref s₂.heap.objs.size) (s₂.heap.objs.size+1)) {s₂ with heap:=J,toks:=s₂.toks+([]:List (Str×af)).length}:=
    WW (zC φ w s₀ (iV Sc S) nm (uV S Sc (s₂.heap.objs.size+1) env) W σ s bH ρ I P s₂.heap.objs.size src ju c (some (vs,bR))) (W3 hi fO Xe Xc (afj K) (RO h1 AY) hA
     (λp hp=>(eJ.mp hp).elim (λe=>e▸nC.1) λhp=>(eJ.mp hp).elim (λe=>e▸nD.1) (H p)) (λa ha=>Fz (P:=λa=>a≠s₂.heap.objs.size/\a∉P) ha ⟨zd _,λq=>SV _ (Tr (lP _ q))⟩ λa ha=>⟨own a ha _ nD.1,λq=>own a ha a (H a q) rfl⟩)
     (λq=>qg _ (lP _ q)) iO (R:=λs'=>xj (model aL w) A use Q (.ref s₂.heap.objs.size) (s₂.heap.objs.size+1) (.ok .next) s') λiL iJ i us ep s' y h' kx kt=>by
      have C8:=y.T.jV (k:=s'.toks) y.oP kx kt
      have ahu:=y.st.rA (k:=s'.toks) H kx kt
      have Ed:=kx _ _ y.g λq=>qg _ (lP _ q)
      have Zc:=y.Z.jV (k:=s'.toks) (P:=P) (λa ha=>Fz (P:=λa=>a∉P) ha (λq=>SV _ (Tr (lP _ q))) λa ha q=>own a ha a (H a q) rfl) kx kt
      have pc:=Zc.gW _ (gh ..)
      obtain⟨W',e1,e2,T',j0,ap⟩:=C8.adopt (c:=.list vs) (y.O _ (gh ..)) (y.O _ (gh ..)) ⟨_,Ed⟩ ⟨_,Ed⟩ λW' G e1 e2=>⟨us,ep,e1▸Ed,(y.rl.mono kt.grow).mono G⟩
      exact k _ _ _ W' T' (j0 ahu nD.1 nD.1) ⟨bZ▸jL _,congrArg _ e1.symm⟩ (λp hp=>cA.mp hp▸⟨pc.1,ap _ pc.2.2 (zd _) (zd _)⟩) nC.1 (by obtain⟨m,hm,_⟩:=Zc.ns;exact⟨m,hm⟩))
    (src.sC aD) ⟨aI,aD,ρ.set bH none,0,[],[],0,{
     T:=z.1
     st:=Po
     Z:=UA
     sJ:=λY=>Im ..
     It:=wK.step z.2 wL λp Y h=>nomatch h
     O:=λp hp=>(eJ.mp hp).elim (λe=>e▸nD.2) (wL p)
     g:=gD
     rl:=rfl},Z2⟩
   exact WX loop (up<|aa6 (wK.step z.2 wL λp Y h=>nomatch h) loop)) K.kind)) (qo▸by decide)))
noncomputable def Ab(bH:Nat)(U:XE)(it:XI)(c:Option XE):XE:=match c with
 |none=>.comp bH U it
 |some c=>.nt bH U it c
theorem J2:xe φ ρ (Ab bH U it c)=(xi φ ρ it).bw λsrc=>Aa src (λv=>xe φ (ρ.set bH (some v)) U) (c.map λt=>λv=>xe φ (ρ.set bH (some v)) t):=by
 cases c<;>rfl
theorem Gn(K:kB S Sc nm x)(hi:nm[bH]?=some x)(V:nm.Nodup){iter:aG}(Xe:aP φ d (iV Sc S) nm Y ee)(X:lT φ d S nm it iter)(H:ri iter=true)
  {c:Option XE} {O:List aG} (Xc:pg φ d (iV Sc S) nm c O) {px:Pos} (J:rz it (.Name x px)=true) {pos:Pos}:aP φ d S nm (Ab bH Y it c) (.ListComp ee [⟨.Name x px,iter,O,0⟩] Sc pos):=by
 intro w s₀ A env W σ s ρ v σ' Q hA T Z h k
 rw [J2] at h
 rw [eval_ListComp]
 exact J3 K hi V Xe X H Xc J (use:=none) hA T Z h λC D s' W' T' j0 R' O' U ⟨m,hm⟩=>⟨m,hm,λh' hs=>have kx:=ef.ext hs.extBut (cA.mpr rfl);have kt:=ME hs hm
  k _ _ W' (T'.jV (k:=s'.toks) O' kx kt) (j0.rA (k:=s'.toks) (λp hp=>cA.mp hp▸U) kx kt) (R'.mono kt.grow)⟩
theorem agh(fO:nm.Nodup)(hy:nm[i]?=some y)(LW:kH S y=true)(K:kB S Sc nm x)(hi:nm[bH]?=some x){iter:aG}(Xe:aP φ d (iV Sc S) nm ju ee)
  {it:XI} (X:lT φ d S nm it iter) (AW:ri iter=true) {c:Option XE} {O:List aG} (Xc:pg φ d (iV Sc S) nm c O) {px:Pos} (AY:rz it (.Name x px)=true) {pos H:Pos}:
  eG φ d S nm (.assign (.var i) (Ab bH ju it c)) (.Assign [.Name y py] (.ListComp ee [⟨.Name x px,iter,O,0⟩] Sc pos) H):=by
 intro w s₀ A env W σ s ρ r σ' Q hA T Z h k
 refine bg h λv aD h1 h=>bg h λaV bR h2 h=>bX (P:=λaV bR=>M.ret (Fl.next,aV) bR=some (r,σ')->_) h2 (λh=>bX (P:=λr σ'=>KS S nm env w s₀ W σ s r σ' Q->_) h (λk=>?_) k) h
 have AX:∃b,swapsWith (.ListComp ee [⟨.Name x px,iter,O,0⟩] Sc pos) (some (.Name y py)) H.line env=pure b:=⟨_,rfl⟩
 obtain⟨b,AX⟩:=AX
 cases b with
 |false=>exact IJ (Gn K hi fO Xe X AW Xc AY hA T Z h1 λu s₁ aI jQ U jO=>up<|vZ fO jQ (Z.step U) hy (qY LW) jO λs₂ V J C9=>k _ _ aI V (U.ir.trans J) C9 rfl) AX
 |true=>
  rw [J2] at h1
  rw [Iw]
  refine dj ?_
  rw [show swapsWithSole [.Name y py] (.ListComp ee [⟨.Name x px,iter,O,0⟩] Sc pos) H.line env=pure true from AX]
  refine aF (aS ?_)
  rw [if_pos rfl]
  show ao _ _ ((comprehension (.ListComp ee [⟨.Name x px,iter,O,0⟩] Sc pos) Sc env (firstIterPos [⟨.Name x px,iter,O,0⟩] pos) (newList []) false (eval iter env) (some λv=>assignAll v [assign (.Name y py) env])>>=λY=>pure ())>>=λY=>pure Flow.next) _ _ _
  refine aF (aF (J3 K hi fO Xe X AW Xc AY (use:=some λv=>assignAll v [assign (.Name y py) env]) hA T Z h1 λC D s' W' T' j0 R' O' oz hm=>?_))
  have hC:C∉fS env:=λq=>oz (Z.gW _ q).2.1
  exact up (assign_Name (vZ fO T' (Z.step j0) hy (qY LW) R' λs₂ V J C9=>let⟨m,o,es,ep,e1,e2⟩:=hm
   have qP:s₂.heap.Ns C m:=⟨o,es,ep,J.keep C o e1 (O' C (cA.mpr rfl)).2 hC,e2⟩
   ⟨m,qP,λh' hs=>aS (aS (have kx:=ef.ext hs.extBut (cA.mpr rfl);have kt:=ME hs qP
    k _ _ W' (V.jV (k:=s₂.toks) O' kx kt) ((j0.ir.trans J).rA (k:=s₂.toks) (λp hp=>cA.mp hp▸oz) kx kt) (C9.jV (k:=s₂.toks) (λa ha q=>hC ((cA.mp q:a=C)▸ha)) kx kt) rfl))⟩))
end
end
section
noncomputable def v6(e:aG)(k:Const->Bool):Bool:=if q:e.ctorIdx=19 then Expr.Constant.elim (motive_1:=λY=>Bool) e q λa Y Y=>k a else false
theorem yQ{M:aG->Prop}{k}(h:v6 e k=true)(f:∀a b p,k a=true->M (.Constant a b p)):M e:=
 fg h λq h=>Expr.Constant.elim (motive_1:=λe=>∀q,Expr.Constant.elim (motive_1:=λY=>Bool) e q (λa Y Y=>k a)=true->M e) e q (λx y p Y h=>f x y p h) q h
noncomputable def qK:List (Option aG)->List bu->Bool
 |[],J=>l0 J
 |o::r,J=>match J with
  |[]=>false
  |k::J=>oB o (λe=>v6 e λc=>decide (c=.str k.str))&&qK r J
theorem Am{M:List (Option aG)->List bu->Prop}(h:qK J O=true)(H:M [] [])(U:∀r O (k:bu) b p,qK r O=true->M (some (.Constant (.str k.str) b p)::r) (k::O)):M J O:=by
 cases J with
 |nil=>exact jW (M:=M []) h H
 |cons o r=>cases O with
  |nil=>exact ff h
  |cons k O=>
   exact aw h λV h=>jg V λe Y Z=>Y▸yQ (M:=λe=>M (some e::r) (k::O)) Z λc b p q=>aW q▸U r O k b p h
theorem Ka:∀{H:List bu} {J:List (Option aG)},qK J H=true->J.all (·.isSome)=true/\J.length=H.length
 |[],J,h=>Am (M:=λJ H=>H=[]->J.all (·.isSome)=true/\J.length=H.length) h (λY=>⟨rfl,rfl⟩) (λY Y Y Y Y Y e=>nomatch e) rfl
 |k'::O,J,h=>Am (M:=λJ H=>H=k'::O->J.all (·.isSome)=true/\J.length=H.length) h (λe=>nomatch e) (λr H k b p h e=>have i:=Ka ((rM e).2▸h:qK r O=true);⟨wu▸i.1,congrArg wD (i.2.trans (congrArg zo (rM e).2.symm))⟩) rfl
section
variable {prog:iG}{w:bz}{h:cR}{W:Wd}{N:Nat}
theorem J9:∀{O:List bu} {vs:List V} {us:List af} {es:List bY},RL h W N vs us->O.length=vs.length->(∀e∈es,∃k,(ut prog w).is k e.key=true/\e.hash=(ut prog w).hash k)->Pairs (ut prog w) es ((O.map bu.str).zip us)->RS w h W N (O.zip vs) es
 |[],vs,us,es,r,U,_,p=>by
  cases p
  rfl
 |k::O,vs,us,es,r,U,hk,p=>by
  cases vs with
  |nil=>nomatch U
  |cons v vs=>
   obtain⟨u,r,rfl,a1,b⟩:=r
   set_option tactic.hygienic true in
   cases p with
   |cons Z J H=>
    rename_i e es
    obtain⟨t,ht⟩:=Tc Z
    obtain⟨k',h1,h2⟩:=hk e (gh ..)
    obtain⟨t',Y⟩:=Tc h1
    have e1:k.str=k':=(Uf (ht.symm.trans Y)).1
    exact⟨t,e.val,es,congrArg (· ::es) (congr (congrArg (λa b=>DictEntry.mk a b e.val) (h2.trans (congrArg (hashStr w) e1.symm))) ht),J▸a1,J9 b (rO U) (λx hx=>hk x (ib _ hx)) H⟩
theorem ahw{A:cu}{s:aj}{K:Type}[DecidableEq K]{knd:KeyKind prog w K}{H:List (Sem af×Sem af)}{Q:cT->aj->Prop}(V:H.length<=15)
  (h:ao (model prog w) A (evalPairs H) (λvs s₁=>vs.length=H.length/\∃J,Carries knd vs J/\s₁.heap.DictOf knd s.heap.objs.size []/\
   ∀h',h'.DictOf knd s.heap.objs.size (merged [] J)->kq s.heap.objs.size s₁.heap h'->Q s.heap.objs.size {s₁ with heap:=h',toks:=s₁.toks+vs.length}) (λY Y=>False)
   {s with heap:=s.heap.push {cls:=.type "dict",data:=.dict #[]}}):ao (model prog w) A (subDict H) Q (λY Y=>False) s:=by
 unfold subDict
 refine aF (up (CZ (aF (cz ?_))))
 rw [if_pos V]
 refine bD h λvs s₁ z=>?_
 obtain⟨O,J,hc,hm,hQ⟩:=z
 have U:([]:List (K×af)).length+J.length<=sizeLine:=by
  rw [qo,rK,hc.length,O,CX];exact bo V ∅
 exact cz (aF (up (wpAny_storeAll (knd:=knd) vs J [] s₁ _ hc hm U λh' Z xM=>aS (aS (hQ h' Z xM)))))
end
section
variable {φ:bK}{d:Nat}{S:bF}{nm:List Str}
def wN(φ:bK)(d:Nat)(S:bF)(nm:List Str)(l:XL)(vals:List aG):Prop:=
 ∀⦃w:bz⦄ ⦃s₀:aj⦄ ⦃A:cu⦄ ⦃env:Env⦄ ⦃W:Wd⦄ ⦃σ:AH⦄ ⦃s:aj⦄ ⦃ρ:bc⦄ ⦃vs:List V⦄ ⦃σ':AH⦄ ⦃J:List (Option aG)⦄ ⦃H:List bu⦄ ⦃pos:Pos⦄ ⦃Q:List (af×af)->aj->Prop⦄,Ok A d->St w s₀ W σ s->cV S nm env W σ ρ s->xl φ ρ l σ=some (vs,σ')->qK J H=true->H.length=vs.length->
  KL w s₀ W σ s σ' vs (λus s'=>∀ps,ps.length=(pairTrees J vals env pos).length->Carries (ut aL w) ps ((H.map bu.str).zip us)->Q ps s')->
  ao (model aL w) A (evalPairs (pairTrees J vals env pos)) Q (λY Y=>False) s
theorem agb:wN φ d S nm .nil []:=by
 intro w s₀ A env W σ s ρ vs σ' J H pos Q U T Z h O V k
 exact bX (P:=λvs σ'=>H.length=vs.length->KL w s₀ W σ s σ' vs _->_) h (λV k=>Am (M:=λJ H=>H.length=0->(∀ps,ps.length=(pairTrees J [] env pos).length->Carries (ut aL w) ps ((H.map bu.str).zip [])->Q ps s)->ao (model aL w) A (evalPairs (pairTrees J [] env pos)) Q (λY Y=>False) s) O
  (λY k=>aS (k [] rfl trivial)) (λY Y Y Y Y Y e=>nomatch e) V (k _ _ W T (Step.refl ..) rfl)) V k
theorem aga(X:aP φ d S nm x e)(Y:wN φ d S nm l es):wN φ d S nm (.cons x l) (e::es):=by
 intro w s₀ A env W σ s ρ vs σ' H V pos Q hA T Z h hk hl k
 exact bg h λv aD h1 h=>bg h λGL bR h2 h=>bX (P:=λvs σ'=>V.length=vs.length->KL w s₀ W σ s σ' vs _->_) h (λhl k=>Am (M:=λH V=>V.length=GL.length+1->KL w s₀ W σ s bR (v::GL) (λus s'=>∀ps,ps.length=(pairTrees H (e::es) env pos).length->Carries (ut aL w) ps ((V.map bu.str).zip us)->Q ps s')->
   ao (model aL w) A (evalPairs (pairTrees H (e::es) env pos)) Q (λJ J=>False) s) hk (λe=>nomatch e)
  (λr V c b p hk hl k=>have z:=T.tok [] (s.toks+1);aF (up (Constant_str (aF (cz (aF (X hA z.1 (Z.step z.2) h1 λu s₂ cM kC O eY=>dj (aS (aF (cz (Y hA kC ((Z.step z.2).step O) h2 hk (rO hl) λus ji iL gF U nc ps EG hc=>
   aS (k (u::us) ji iL gF ((z.2.trans O).trans U) ⟨u,us,rfl,eY.mono U.grow,nc⟩ (_::ps) (congrArg wD EG) ⟨(show zj c.str (.str c.str s.toks)=true from beq_self_eq_true c.str),rfl,hc⟩)))))))))))) hl k) hl k
theorem agJ{ks:List bu}{l:XL}{J:List (Option aG)}{vals:List aG}{pos:Pos}(X:wN φ d S nm l vals)(hk:qK J ks=true)(hl:J.length=vals.length)(h0:J.isEmpty=false)(Ln:J.length<=15)(fO:(ks.map bu.str).Nodup):
  aP φ d S nm (.dict ks l) (.Dict J vals pos):=by
 intro w s₀ A env W σ s ρ v σ' Q hA T Z h
 refine bg h λvs aD h1 h=>cf h λY h=>eS h λk=>?_
 have ha:=Ka hk
 have vv:=pairTrees_length J vals env pos ha.1 hl
 rw [arm_eval_Dict,zip_pairTrees J vals env pos ha.1 hl,dictDisplay_pairs _ (λe=>nomatch h0.symm.trans (List.isEmpty_iff.mpr (List.length_eq_zero_iff.mp (vv.symm.trans (congrArg zo e))))) (vv▸wh Ln ∅)]
 have z:=T.more [] (k:=s.toks) (h':=s.heap.push {cls:=.type "dict",data:=.dict #[]}) (λb o e=>dZ _ e)
 have gD:(s.heap.push {cls:=.type "dict",data:=.dict #[]}).get? s.heap.objs.size=some {cls:=.type "dict",data:=.dict #[]}:=gM _ rfl
 have O:¬Lv s.heap s.heap.objs.size:=Lv.not (cY _)
 have NR:Off W σ [s.heap.objs.size]:=λp hp=>cA.mp hp▸⟨T.wS,λn hn=>⟨gZ (T.below n hn).1,gZ (T.below n hn).2⟩⟩
 refine dj (aF (ahw (knd:=ut aL w) (vv▸Ln) (X hA z.1 (Z.step z.2) h1 hk Y λus s₂ cM kC H V ps EG hc=>?_)))
 have g2:=H.keep _ _ gD (NR _ (cA.mpr rfl)).2 (λh=>nomatch h)
 refine⟨EG,_,hc,⟨_,_,0,g2,⟨rfl,rfl,rfl⟩,rfl,(λe he=>nomatch qx.mp he),.nil,zg⟩,λh' hd hs=>aS ?_⟩
 have U:=NR.step H λp hp=>cA.mp hp▸⟨_,gD⟩
 have kx:ef [s.heap.objs.size] s₂.heap h':=ef.ext hs.extBut (cA.mpr rfl)
 have kt:dw s₂.heap h':=dw.lj g2 (show ic "dict"≠ic "tuple" by decide) λb o q hb=>(hs.2 b hb).trans q
 rw [merged_nil_of_nodup _ (by rw [HS (by rw [bf,V.length,Y];exact cY _)];exact fO)] at hd
 obtain⟨o,es,ep,e1,⟨x1,x2,x3⟩,e2,e3,e4,_⟩:=hd
 have eo:o=dictOf es.toList ep:=by
  obtain⟨oc,od,dd,os⟩:=o
  cases x1;cases x2;cases x3;cases e2
  rfl
 obtain⟨W',q1,q2,T',j0,_⟩:=(kC.jV (k:=s₂.toks+ps.length) U kx kt).adopt (c:=.gX (ks.zip vs)) (U _ (cA.mpr rfl)) (U _ (cA.mpr rfl)) ⟨_,e1⟩ ⟨_,e1⟩ λW' G q1 q2=>⟨es.toList,ep,(q1▸eo▸e1:),(J9 (V.mono kt.grow) Y (λe he=>e3 e (SM.mp he)) e4).mono G⟩
 exact k _ _ W' T' (j0 ((z.2.trans H).rA (k:=s₂.toks+ps.length) (λp hp=>cA.mp hp▸O) kx kt) O O) ⟨bZ▸jL _,congrArg _ q1.symm⟩
theorem agK:aP φ d S nm .oA (.Dict [] [] pos):=by
 intro w s₀ A env W σ s ρ v σ' Q V T Z h
 refine eS h λk=>?_
 rw [arm_eval_Dict]
 refine dj ?_
 show ao _ _ newDict _ _ _
 unfold newDict
 refine aF (up (CZ (aS ?_)))
 obtain⟨W',J,H,O,U⟩:=T.new [] (k:=s.toks) (h':=s.heap.push {cls:=.type "dict",data:=.dict #[]}) (p:=s.heap.objs.size) (d:=s.heap.objs.size) (c:=.bQ []) (λb o e=>dZ _ e) (cY _) (cY _) ⟨_,gM _ rfl⟩ ⟨_,gM _ rfl⟩
  (λW' G J H=>⟨[],0,J▸gM _ rfl,rfl,zg,rfl⟩)
 exact k _ _ W' O U ⟨bZ▸jL _,congrArg _ J.symm⟩
end
end
section
noncomputable def D6:List Nat:=[115,165,172,179,186,193,200,207,214,363,370,377,384,475,480,3709,3716,3723,3730,3738,3745,3752,3759,3766,4030,4037,4044,4051,4056,4061,4066,4073,4078,4085,4092,4097,4104,4111,4118,4125,4132,4137]
noncomputable def isFn(o:Obj):Bool:=dP o.data.ctorIdx 7
theorem aaY(h:isFn o=true):∃fd,o.data=.func fd:=Data.func.elim (motive:=λd=>∃fd,d=.func fd) o.data (jJ h) λf=>⟨f,rfl⟩
theorem Y8(P:cE):(D6.all λa=>oB ((K P).lookup a) isFn)=true:=by rfl'
theorem Y9(h:D6.contains a=true)(P):∃o fd,(K P).lookup a=some o/\o.data=.func fd:=
 jg (jM.mp (Y8 P) a (Ck.mp h)) λo H J=>by obtain⟨fd,O⟩:=aaY J;exact⟨o,fd,H,O⟩
noncomputable def oG(S:bF)(x:Str):Bool:=decide (S.names.lookup x=some .globalImplicit)
noncomputable def Br(x:Str):Bool:=!(x==("__debug__":Str))
section
variable {α:Type}
noncomputable def jH(e:aG)(k:Str->Pos->Bool):Bool:=if q:e.ctorIdx=23 then um (motive_1:=λY=>Bool) e q k else false
theorem kc{M:aG->Prop}{k}(h:jH e k=true)(f:∀x p,k x p=true->M (.Name x p)):M e:=
 fg h λq h=>um (motive_1:=λe=>∀q,um (motive_1:=λY=>Bool) e q k=true->M e) e q (λx p Y h=>f x p h) q h
noncomputable def vBool(e:aG)(k:BoolOp->List aG->Pos->Bool):Bool:=if q:e.ctorIdx=0 then Expr.BoolOp.elim (motive_1:=λY=>Bool) e q k else false
theorem aio{M:aG->Prop}{k}(h:vBool e k=true)(f:∀o es p,k o es p=true->M (.BoolOp o es p)):M e:=
 fg h λq h=>Expr.BoolOp.elim (motive_1:=λe=>∀q,Expr.BoolOp.elim (motive_1:=λY=>Bool) e q k=true->M e) e q (λx y p Y h=>f x y p h) q h
noncomputable def P4(e:aG)(k:aG->nW->aG->Bool):Bool:=if q:e.ctorIdx=2 then Expr.BinOp.elim (motive_1:=λY=>Bool) e q λa o b Y=>k a o b else false
theorem ain{M:aG->Prop}{k}(h:P4 e k=true)(f:∀a o b p,k a o b=true->M (.BinOp a o b p)):M e:=
 fg h λq h=>Expr.BinOp.elim (motive_1:=λe=>∀q,Expr.BinOp.elim (motive_1:=λY=>Bool) e q (λa o b Y=>k a o b)=true->M e) e q (λx y z p Y h=>f x y z p h) q h
noncomputable def GJ(e:aG)(k:UnaryOp->aG->Bool):Bool:=if q:e.ctorIdx=3 then Expr.UnaryOp.elim (motive_1:=λY=>Bool) e q λo a Y=>k o a else false
theorem Qi{M:aG->Prop}{k}(h:GJ e k=true)(f:∀o a p,k o a=true->M (.UnaryOp o a p)):M e:=
 fg h λq h=>Expr.UnaryOp.elim (motive_1:=λe=>∀q,Expr.UnaryOp.elim (motive_1:=λY=>Bool) e q (λo a Y=>k o a)=true->M e) e q (λx y p Y h=>f x y p h) q h
noncomputable def Qa(e:aG)(k:aG->aG->aG->Bool):Bool:=if q:e.ctorIdx=5 then Expr.IfExp.elim (motive_1:=λY=>Bool) e q λa b c Y=>k a b c else false
theorem aiq{M:aG->Prop}{k}(h:Qa e k=true)(f:∀a b c p,k a b c=true->M (.IfExp a b c p)):M e:=
 fg h λq h=>Expr.IfExp.elim (motive_1:=λe=>∀q,Expr.IfExp.elim (motive_1:=λY=>Bool) e q (λa b c Y=>k a b c)=true->M e) e q (λx y z p Y h=>f x y z p h) q h
noncomputable def GF(e:aG)(k:List (Option aG)->List aG->Bool):Bool:=if q:e.ctorIdx=6 then Expr.Dict.elim (motive_1:=λY=>Bool) e q λa b Y=>k a b else false
theorem P8{M:aG->Prop}{k}(h:GF e k=true)(f:∀a b p,k a b=true->M (.Dict a b p)):M e:=
 fg h λq h=>Expr.Dict.elim (motive_1:=λe=>∀q,Expr.Dict.elim (motive_1:=λY=>Bool) e q (λa b Y=>k a b)=true->M e) e q (λx y p Y h=>f x y p h) q h
noncomputable def Qd(e:aG)(k:aG->List Ie->bF->Bool):Bool:=if q:e.ctorIdx=8 then Expr.ListComp.elim (motive_1:=λY=>Bool) e q λa b c Y=>k a b c else false
theorem air{M:aG->Prop}{k}(h:Qd e k=true)(f:∀a b c p,k a b c=true->M (.ListComp a b c p)):M e:=
 fg h λq h=>Expr.ListComp.elim (motive_1:=λe=>∀q,Expr.ListComp.elim (motive_1:=λY=>Bool) e q (λa b c Y=>k a b c)=true->M e) e q (λx y z p Y h=>f x y z p h) q h
noncomputable def GE(e:aG)(k:aG->List CmpOp->List aG->Bool):Bool:=if q:e.ctorIdx=15 then Expr.Compare.elim (motive_1:=λY=>Bool) e q λa b c Y=>k a b c else false
theorem P7{M:aG->Prop}{k}(h:GE e k=true)(f:∀a b c p,k a b c=true->M (.Compare a b c p)):M e:=
 fg h λq h=>Expr.Compare.elim (motive_1:=λe=>∀q,Expr.Compare.elim (motive_1:=λY=>Bool) e q (λa b c Y=>k a b c)=true->M e) e q (λx y z p Y h=>f x y z p h) q h
noncomputable def tZ(e:aG)(k:aG->List aG->Pos->Bool):Bool:=if q:e.ctorIdx=16 then CM (motive_1:=λY=>Bool) e q λa b c p=>l0 c&&k a b p else false
theorem v5{M:aG->Prop}{k}(h:tZ e k=true)(f:∀a b p,k a b p=true->M (.Call a b [] p)):M e:=
 fg h λq h=>CM (motive_1:=λe=>∀q,CM (motive_1:=λY=>Bool) e q (λa b c p=>l0 c&&k a b p)=true->M e) e q (λx y z p Y h=>aw h λH h=>jW (M:=λz=>M (.Call x y z p)) H (f x y p h)) q h
noncomputable def tY(e:aG)(k:aG->Str->Pos->Bool):Bool:=if q:e.ctorIdx=20 then Cp (motive_1:=λY=>Bool) e q k else false
theorem v4{M:aG->Prop}{k}(h:tY e k=true)(f:∀a b p,k a b p=true->M (.Attribute a b p)):M e:=
 fg h λq h=>Cp (motive_1:=λe=>∀q,Cp (motive_1:=λY=>Bool) e q k=true->M e) e q (λx y p Y h=>f x y p h) q h
noncomputable def v7(e:aG)(k:aG->aG->Bool):Bool:=if q:e.ctorIdx=21 then Cq (motive_1:=λY=>Bool) e q λa b Y=>k a b else false
theorem yR{M:aG->Prop}{k}(h:v7 e k=true)(f:∀a b p,k a b=true->M (.Subscript a b p)):M e:=
 fg h λq h=>Cq (motive_1:=λe=>∀q,Cq (motive_1:=λY=>Bool) e q (λa b Y=>k a b)=true->M e) e q (λx y p Y h=>f x y p h) q h
noncomputable def Qe(e:aG)(k:List aG->Bool):Bool:=if q:e.ctorIdx=24 then Expr.List.elim (motive_1:=λY=>Bool) e q λa Y=>k a else false
theorem ais{M:aG->Prop}{k}(h:Qe e k=true)(f:∀x p,k x=true->M (.List x p)):M e:=
 fg h λq h=>Expr.List.elim (motive_1:=λe=>∀q,Expr.List.elim (motive_1:=λY=>Bool) e q (λx Y=>k x)=true->M e) e q (λx p Y h=>f x p h) q h
noncomputable def B7(e:aG)(k:List aG->Nat->Pos->Bool):Bool:=if q:e.ctorIdx=25 then CF (motive_1:=λY=>Bool) e q k else false
theorem GI{M:aG->Prop}{k}(h:B7 e k=true)(f:∀x n p,k x n p=true->M (.Tuple x n p)):M e:=
 fg h λq h=>CF (motive_1:=λe=>∀q,CF (motive_1:=λY=>Bool) e q k=true->M e) e q (λx n p Y h=>f x n p h) q h
noncomputable def GG(e:aG)(k:Option aG->Option aG->Option aG->Bool):Bool:=if q:e.ctorIdx=26 then Expr.Slice.elim (motive_1:=λY=>Bool) e q λa b c Y=>k a b c else false
theorem Qg{M:aG->Prop}{k}(h:GG e k=true)(f:∀a b c p,k a b c=true->M (.Slice a b c p)):M e:=
 fg h λq h=>Expr.Slice.elim (motive_1:=λe=>∀q,Expr.Slice.elim (motive_1:=λY=>Bool) e q (λa b c Y=>k a b c)=true->M e) e q (λx y z p Y h=>f x y z p h) q h
noncomputable def GD(o:BoolOp)(e:aG)(k:aG->aG->Bool):Bool:=vBool e λo' es p=>decide (o'=o)&&(match es with
 |[]=>false
 |e1::r=>match r with
  |[]=>false
  |e2::V=>k e1 (match V with
   |[]=>e2
   |_::_=>.BoolOp o' (e2::V) p))
theorem P5{M:aG->Prop}{k}(h:GD o e k=true)(f:∀J H p,k J H=true->M (.BoolOp o [J,H] p))(U:∀J H O r p,k J (.BoolOp o (H::O::r) p)=true->M (.BoolOp o (J::H::O::r) p)):M e:=
 aio h λo' es p h=>aw h λV=>aW V▸match es with
  |[]=>λh=>ff h
  |[_]=>λh=>ff h
  |[_,_]=>f _ _ _
  |_::_::_::_=>U _ _ _ _ _
noncomputable def P9(l:List Ie)(k:Str->Pos->aG->List aG->Bool):Bool:=l1 l λg=>decide (g.is_async=0)&&jH g.target λx p=>k x p g.iter g.ifs
theorem aip{M:List Ie->Prop}{l}{k}(h:P9 l k=true)(f:∀x H iter O,k x H iter O=true->M [⟨.Name x H,iter,O,0⟩]):M l:=
 sR h λ⟨t,i,c,a⟩ h=>aw h λJ h=>by
  cases aW J
  exact kc (M:=λt=>M [⟨t,i,c,0⟩]) h λx H h=>f x H i c h
end
noncomputable def lq(f:XE->aG->Bool):XL->List aG->Bool
 |.nil,l=>l0 l
 |.cons x r,l=>match l with
  |[]=>false
  |e::es=>f x e&&lq f r es
noncomputable def Fr(f:XE->aG->Bool)(S:bF)(x:XI)(e:aG):Bool:=match x with
 |.range l=>tZ e λg es Y=>jH g λx Y=>decide (x=eX.str 10)&&(oG S x&&(es.all fV&&lq f l es))
 |.gv a=>tZ e λg es Y=>jH g λx Y=>decide (x=eX.str 11)&&(oG S x&&l1 es λe=>fV e&&f a e)
 |.val a=>f a e
noncomputable def NY(f:XE->aG->Bool)(c:Option XE)(l:List aG):Bool:=match c with
 |none=>l0 l
 |some x=>l1 l (f x)
noncomputable def Bt(nm:List Str)(f:Bool->XE->bF->aG->Bool)(S:bF)(bH:Nat)(J:XE)(it:XI)(c:Option XE)(e:aG):Bool:=
 Qd e λU H Sc=>P9 H λx V iter O=>J0 S Sc nm x&&(ri iter&&(decide (nm[bH]?=some x)&&(f false J (iV Sc S) U&&(Fr (λx e=>f false x S e) S it iter&&(rz it (.Name x V)&&NY (λx e=>f true x (iV Sc S) e) c O)))))
noncomputable def GH:List V->List bu->Bool
 |[],k=>l0 k
 |v::l,k=>match k with
  |[]=>false
  |s::k=>(if q:v.ctorIdx=3 then V.str.elim (motive_1:=λY=>Bool) v q λx=>decide (x=s) else false)&&GH l k
theorem Qh:∀{l:List V} {k:List bu},GH l k=true->l=k.map .str
 |[],_,h=>jW (M:=λk=>[]=k.map V.str) h rfl
 |v::l,[],h=>ff h
 |v::l,s::k,h=>aw h λH h=>by
  rw [Qh h]
  exact fg H λq h=>V.str.elim (motive_1:=λe=>∀q,V.str.elim (motive_1:=λY=>Bool) e q (λx=>decide (x=s))=true->e::k.map V.str=(s::k).map V.str) v q (λx Y h=>by rw [aW h];rfl) q h
noncomputable def NU(S:bF)(v:V)(e:aG):Bool:=match v with
 |.none=>v6 e λc=>decide (c=.none)
 |.bool b=>v6 e λc=>decide (c=.bool b)
 |.int i=>v6 e (λc=>decide (c=.int i))||jH e λx Y=>Br x&&(oG S x&&oB (jv x) λv=>vInt v λj=>decide (j=i))
 |.str s=>v6 e λc=>decide (c=.str s.str)
 |.bytes _=>false
 |.tup l=>GH l [35,36,37,38]&&jH e λx Y=>decide (x=sl "KINDS")&&oG S x
 |.ref _=>false
 |.st _=>false
noncomputable def pl(t:Bool)(e:aG):Bool:=!t||(dP e.ctorIdx 23||(dP e.ctorIdx 16||(dP e.ctorIdx 20||dP e.ctorIdx 21)))
noncomputable def Ou(o:Option af)(a:Nat):Bool:=decide (o=some (.ref a))
noncomputable def EX(l:XL):Bool:=match l with
 |.nil=>true
 |.cons _ _=>false
theorem ML{M:XL->Prop}{l}(h:EX l=true)(f:M .nil):M l:=by
 cases l with
 |nil=>exact f
 |cons _ _=>exact ff h
noncomputable def MN(l:XL)(k:XE->Bool):Bool:=match l with
 |.nil=>false
 |.cons a r=>EX r&&k a
theorem abk{M:XL->Prop}{l k}(h:MN l k=true)(f:∀a,k a=true->M (.cons a .nil)):M l:=by
 cases l with
 |nil=>exact ff h
 |cons a r=>exact aw h λH h=>ML (M:=λr=>M (.cons a r)) H (f a h)
noncomputable def N2(f:XE->aG->Bool)(S:bF)(p:qA)(l:XL)(x:Str)(es:List aG):Bool:=oG S x&&(oB p.blt (λb=>decide (x=b.str)&&(es.all fV&&lq f l es))||
 (decide (x=eX.str 3)&&l2 es (λe n=>fV e&&jH n λn Y=>oG S n&&oB p.A6 λc=>decide (c.1=n)&&MN l λa=>f a e)||
 (decide (p=.sum)&&(decide (x=eX.str 6)&&(es.all fV&&lq f l es))||
 (decide (p=.bytesOf)&&(decide (x=eX.str 7)&&(es.all fV&&lq f l es))||
 decide (p=.q8)&&(decide (x=eX.str 8)&&(l0 es&&EX l))))))
noncomputable def N5(nm:List Str)(f:Bool->XE->bF->aG->Bool)(t:Bool)(x:XE)(S:bF)(e:aG):Bool:=match x with
 |.var i=>pl t e&&jH e λx Y=>Br x&&(kH S x&&decide (nm[i]?=some x))
 |.const v=>pl t e&&NU S v e
 |.bin O a b=>pl t e&&P4 e λl o r=>decide (o=O)&&(f false a S l&&f false b S r)
 |.neg a=>pl t e&&GJ e λo x=>decide (o=.USub)&&f false a S x
 |.eI a=>GJ e λo x=>decide (o=.Not)&&f t a S x
 |.aw a b=>GD .And e λl r=>f t a S l&&f t b S r
 |.dD a b=>GD .Or e λl r=>f t a S l&&f t b S r
 |.bj c a b=>Qa e λx y z=>f true c S x&&(f t a S y&&f t b S z)
 |.cmp O a b=>GE e λl os H=>l1 os λo=>l1 H λr=>decide (o=O)&&(!behindInMarks o r&&(f false a S l&&f false b S r))
 |.k8 O U a b c=>GE e λl os H=>l2 os λo o'=>l2 H λr r'=>decide (o=O)&&(decide (o'=U)&&(!lastMarks [o,o'] [r,r']&&(f false a S l&&(f false b S r&&f false c S r'))))
 |.tup l=>pl t e&&B7 e λes Y Y=>es.all fV&&lq (λx e=>f false x S e) l es
 |.list l=>pl t e&&Qe e λes=>es.all fV&&lq (λx e=>f false x S e) l es
 |.oA=>pl t e&&GF e λa b=>l0 a&&l0 b
 |.dict ks l=>pl t e&&GF e λJ vals=>lq (λx e=>f false x S e) l vals&&(qK J ks&&(decide (J.length=vals.length)&&(!J.isEmpty&&(decide (J.length<=15)&&decide (ks.map bu.str).Nodup))))
 |.attr a x=>pl t e&&tY e λb y Y=>ym b&&(decide (y=x.str)&&f false a S b)
 |.sub a i=>pl t e&&v7 e λb j=>pO j&&(f false a S b&&f false i S j)
 |.rows i=>pl t e&&v7 e λb j=>tY b λs r Y=>decide (r=sl "rows")&&jH s λs Y=>decide (s=sl "PriceRows")&&(oG S s&&(pO j&&f false i S j))
 |.sliceTo a k=>pl t e&&v7 e λb j=>GG j λx y z=>decide (x.isNone=true)&&(decide (z.isNone=true)&&oB y λy=>f false a S b&&f false k S y)
 |.sliceFrom a k=>pl t e&&v7 e λb j=>GG j λx y z=>decide (y.isNone=true)&&(decide (z.isNone=true)&&oB x λy=>f false a S b&&f false k S y)
 |.fn a l=>pl t e&&tZ e λg es pos=>lq (λx e=>f false x S e) l es&&(es.all fV&&((jH g λx Y=>oG S x&&(Br x&&(Ou (jv x) a&&D6.contains a)))||
  (dP a 3780&&tY g λo m V=>decide (m=sl "__init__")&&(decide (es.length<30)&&(decide ((V.endLine==pos.line)=true)&&jH o λc Y=>decide (c=sl "StepCoder")&&oG S c)))))
 |.cls a l=>pl t e&&tZ e λg es pos=>jH g λx Y=>lq (λx e=>f false x S e) l es&&(es.all fV&&(oG S x&&(Br x&&Ou (jv x) a)))
 |.prim p l=>pl t e&&tZ e λg es pos=>jH g λx Y=>N2 (λx e=>f false x S e) S p l x es
 |.aZ o m l=>pl t e&&tZ e λg es pos=>tY g λb y V=>lq (λx e=>f false x S e) l es&&(es.all fV&&(decide (y=m.str)&&(decide (es.length<30)&&(decide ((V.endLine==pos.line)=true)&&(ym b&&f false o S b)))))
 |.comp i Z it=>pl t e&&Bt nm f S i Z it none e
 |.nt i Z it c=>pl t e&&Bt nm f S i Z it (some c) e
noncomputable def Fq(nm:List Str):Nat->Bool->XE->bF->aG->Bool
 |0,_,_,_,_=>false
 |n+1,t,x,S,e=>N5 nm (Fq nm n) t x S e
noncomputable def Fv(S:bF)(nm:List Str)(is:List Nat)(xs:List Str):Bool:=decide ((is.zip xs).map (·.1)=is)&&(decide ((is.zip xs).map (·.2)=xs)&&(is.zip xs).all λp=>decide (nm[p.1]?=some p.2)&&kH S p.2)
noncomputable def NW(S:bF)(nm:List Str)(t:XT)(e:aG):Bool:=match t with
 |.var i=>jH e λy Y=>kH S y&&decide (nm[i]?=some y)
 |.tup is=>B7 e λH Y Y=>oB (oW H) λxs=>Fv S nm is xs
 |.attr _ _=>false
 |.sub _ _=>false
noncomputable def Gd(e:cy)(k:Option aG->Bool):Bool:=if q:e.ctorIdx=3 then Stmt.Return.elim (motive_2:=λY=>Bool) e q λa Y=>k a else false
theorem OR{M:cy->Prop}{k}(h:Gd e k=true)(f:∀a p,k a=true->M (.Return a p)):M e:=
 fg h λq h=>Stmt.Return.elim (motive_2:=λe=>∀q,Stmt.Return.elim (motive_2:=λY=>Bool) e q (λa Y=>k a)=true->M e) e q (λa p Y h=>f a p h) q h
noncomputable def OJ(e:cy)(k:List aG->aG->Bool):Bool:=if q:e.ctorIdx=5 then Stmt.Assign.elim (motive_2:=λY=>Bool) e q λa b Y=>k a b else false
theorem afN{M:cy->Prop}{k}(h:OJ e k=true)(f:∀a b p,k a b=true->M (.Assign a b p)):M e:=
 fg h λq h=>Stmt.Assign.elim (motive_2:=λe=>∀q,Stmt.Assign.elim (motive_2:=λY=>Bool) e q (λa b Y=>k a b)=true->M e) e q (λa b p Y h=>f a b p h) q h
noncomputable def Gb(e:cy)(k:aG->nW->aG->Bool):Bool:=if q:e.ctorIdx=7 then Hw (motive_2:=λY=>Bool) e q λa o b Y=>k a o b else false
theorem OL{M:cy->Prop}{k}(h:Gb e k=true)(f:∀a o b p,k a o b=true->M (.AugAssign a o b p)):M e:=
 fg h λq h=>Hw (motive_2:=λe=>∀q,Hw (motive_2:=λY=>Bool) e q (λa o b Y=>k a o b)=true->M e) e q (λa o b p Y h=>f a o b p h) q h
noncomputable def OO(e:cy)(k:aG->aG->List cy->List cy->Bool):Bool:=if q:e.ctorIdx=9 then Stmt.For.elim (motive_2:=λY=>Bool) e q λa b c d Y=>k a b c d else false
theorem afQ{M:cy->Prop}{k}(h:OO e k=true)(f:∀a b c d p,k a b c d=true->M (.For a b c d p)):M e:=
 fg h λq h=>Stmt.For.elim (motive_2:=λe=>∀q,Stmt.For.elim (motive_2:=λY=>Bool) e q (λa b c d Y=>k a b c d)=true->M e) e q (λa b c d p Y h=>f a b c d p h) q h
noncomputable def OS(e:cy)(k:aG->List cy->List cy->Bool):Bool:=if q:e.ctorIdx=11 then Stmt.While.elim (motive_2:=λY=>Bool) e q λa c d Y=>k a c d else false
theorem afS{M:cy->Prop}{k}(h:OS e k=true)(f:∀a c d p,k a c d=true->M (.While a c d p)):M e:=
 fg h λq h=>Stmt.While.elim (motive_2:=λe=>∀q,Stmt.While.elim (motive_2:=λY=>Bool) e q (λa c d Y=>k a c d)=true->M e) e q (λa c d p Y h=>f a c d p h) q h
noncomputable def OP(e:cy)(k:aG->List cy->List cy->Bool):Bool:=if q:e.ctorIdx=12 then Stmt.If.elim (motive_2:=λY=>Bool) e q λa c d Y=>k a c d else false
theorem afR{M:cy->Prop}{k}(h:OP e k=true)(f:∀a c d p,k a c d=true->M (.If a c d p)):M e:=
 fg h λq h=>Stmt.If.elim (motive_2:=λe=>∀q,Stmt.If.elim (motive_2:=λY=>Bool) e q (λa c d Y=>k a c d)=true->M e) e q (λa c d p Y h=>f a c d p h) q h
noncomputable def ON(e:cy)(k:aG->Bool):Bool:=if q:e.ctorIdx=24 then Stmt.Expr.elim (motive_2:=λY=>Bool) e q λa Y=>k a else false
theorem afP{M:cy->Prop}{k}(h:ON e k=true)(f:∀a p,k a=true->M (.Expr a p)):M e:=
 fg h λq h=>Stmt.Expr.elim (motive_2:=λe=>∀q,Stmt.Expr.elim (motive_2:=λY=>Bool) e q (λa Y=>k a)=true->M e) e q (λa p Y h=>f a p h) q h
noncomputable def OM(e:cy):Bool:=dP e.ctorIdx 27
theorem afO{M:cy->Prop}(h:OM e=true)(f:∀p,M (.Continue p)):M e:=Stmt.Continue.elim (motive_2:=M) e (jJ h) f
noncomputable def GO(x:XE)(k:Nat->XE->XI->Option XE->Bool):Bool:=XE.casesOn (motive_1:=λY=>Bool) x (λY=>false) (λY=>false) (λY Y Y=>false) (λY=>false) (λY=>false) (λY Y=>false) (λY Y=>false) (λY Y Y=>false) (λY Y Y=>false) (λY Y Y Y Y=>false) (λY=>false) (λY=>false) false (λY Y=>false) (λY Y=>false) (λY Y=>false) (λY=>false) (λY Y=>false) (λY Y=>false) (λY Y=>false) (λY Y=>false) (λY Y=>false) (λY Y Y=>false) (λi J it=>k i J it none) (λi J it c=>k i J it (some c))
theorem aiH{M:XE->Prop}{x}{k}(h:GO x k=true)(f:∀i J it c,k i J it c=true->M (Ab i J it c)):M x:=XE.casesOn (motive_1:=λx=>GO x k=true->M x) x (λY h=>ff h) (λY h=>ff h) (λY Y Y h=>ff h) (λY h=>ff h) (λY h=>ff h) (λY Y h=>ff h) (λY Y h=>ff h) (λY Y Y h=>ff h) (λY Y Y h=>ff h) (λY Y Y Y Y h=>ff h) (λY h=>ff h) (λY h=>ff h) (λh=>ff h) (λY Y h=>ff h) (λY Y h=>ff h) (λY Y h=>ff h) (λY h=>ff h) (λY Y h=>ff h) (λY Y h=>ff h) (λY Y h=>ff h) (λY Y h=>ff h) (λY Y h=>ff h) (λY Y Y h=>ff h) (λi J it h=>f i J it none h) (λi J it c h=>f i J it (some c) h) h
noncomputable def tD(f:XS->cy->Bool):XB->List cy->Bool
 |.nil,l=>l0 l
 |.cons x r,l=>match l with
  |[]=>false
  |e::es=>f x e&&tD f r es
section
variable (nm:List Str)(S:bF)(f:Bool->XE->bF->aG->Bool)
noncomputable def NT(t:XT)(x:XE)(a e:aG):Bool:=match t with
 |.var i=>jH a λy Y=>kH S y&&(decide (nm[i]?=some y)&&((my e&&f false x S e)||GO x λi J it c=>Bt nm f S i J it c e))
 |.attr o k=>tY a λb y Y=>my e&&(decide (y=k.str)&&(f false o S b&&f false x S e))
 |.sub o i=>v7 a λb j=>my e&&(pO j&&(f false o S b&&(f false i S j&&f false x S e)))
 |.tup is=>B7 a λH n p=>my e&&(f false x S e&&(decide is.Nodup&&oB (oW H) λxs=>Fv S nm is xs&&(FN (swappedStores [.Tuple H n p] e (xq S)) none||FN (swappedStores [.Tuple H n p] e (xq S)) (some xs))))
noncomputable def N3(g:XS->cy->Bool)(x:XS)(st:cy):Bool:=match x with
 |.expr x=>ON st λe=>my e&&f false x S e
 |.assign t x=>OJ st λl e=>l1 l λa=>NT nm S f t x a e
 |.sj i O x=>Gb st λa o e=>decide (o=O)&&(f false x S e&&jH a λy Y=>decide (nm[i]?=some y)&&kH S y)
 |.g9 b k O x=>Gb st λa o e=>decide (o=O)&&(f false x S e&&tY a λc y Y=>decide (y=k.str)&&f false b S c)
 |.bj c a b=>OP st λe x y=>f true c S e&&(tD g a x&&tD g b y)
 |.loop t it b=>OO st λa e x y=>l0 y&&(ri e&&(Fr (λx e=>f false x S e) S it e&&(tD g b x&&(NW S nm t a&&rz it a))))
 |.while c b=>OS st λe x y=>l0 y&&(f true c S e&&tD g b x)
 |.ret x=>Gd st λe=>oB e λe=>f false x S e
 |.lu=>Gd st λe=>decide (e.isNone=true)
 |.cont=>OM st
 |.bad=>true
end
noncomputable def Fw(S:bF)(nm:List Str)(m:Nat):Nat->XS->cy->Bool
 |0,_,_=>false
 |n+1,x,s=>N3 nm S (Fq nm m) (Fw S nm m n) x s
noncomputable def Fj(nm:List Str)(st:cy)(x:XB):Bool:=tD (Fw (gg st) nm 30 30) x (iF st)
end
section
section
variable {φ:bK}{d d':Nat}{S:bF}{nm:List Str}{f:Bool->XE->bF->aG->Bool}
theorem nK{g:XE->aG->Bool}(F:∀{x e},g x e=true->aP φ d S nm x e):∀{l:XL} {es:List aG},lq g l es=true->jP φ d S nm l es
 |.nil,_,h=>jW h O6
 |.cons _ _,[],h=>ff h
 |.cons _ _,_::_,h=>aw h λH J=>agf (F H) (nK F J)
theorem N1{g:XE->aG->Bool}(F:∀{x e},g x e=true->aP φ d S nm x e):∀{l:XL} {es:List aG},lq g l es=true->wN φ d S nm l es
 |.nil,_,h=>jW h agb
 |.cons _ _,[],h=>ff h
 |.cons _ _,_::_,h=>aw h λH J=>aga (F H) (N1 F J)
theorem NX{g:XE->aG->Bool}(F:∀{x e},g x e=true->aP φ d S nm x e)(h:Fr g S x e=true):lT φ d S nm x e:=by
 cases x with
 |range l=>
  exact v5 h λg es p h=>kc (M:=λg=>lT φ d S nm _ (.Call g es [] p)) h λx q h=>aw h λH h=>aw h λJ h=>aw h λO h=>aW H▸agd (nK F h) (aW (aW H▸J)) O
 |gv a=>
  exact v5 h λg es p h=>kc (M:=λg=>lT φ d S nm _ (.Call g es [] p)) h λx q h=>aw h λH h=>aw h λJ h=>sR (M:=λes=>lT φ d S nm _ (.Call (.Name x q) es [] p)) h λe h=>aw h λO h=>aW H▸agc (F h) (aW (aW H▸J)) O
 |val a=>
  exact age (F h)
def sd(φ:bK)(d:Nat)(S:bF)(nm:List Str)(t:Bool)(x:XE)(e:aG):Prop:=match t with
 |false=>aP φ d S nm x e
 |true=>fY φ d S nm x e
def Good(φ:bK)(d:Nat)(nm:List Str)(f:Bool->XE->bF->aG->Bool):Prop:=∀{t x S e},f t x S e=true->sd φ d S nm t x e
theorem iD(h:(pl t e&&c)=true)(k:c=true->aP φ d S nm x e):sd φ d S nm t x e:=aw h λH J=>match t,H with
 |false,_=>k J
 |true,H=>agB (k J) (dD H ff λH=>dD H (λq=>um (motive_1:=λe=>∀env,isTrue e env (eval e env)=(do let v←eval e env;standAt e.pos;holding [v] (truthy v))) e (jJ q) λY Y Y=>rfl)
  λH=>dD H (λq=>CM (motive_1:=λe=>∀env,isTrue e env (eval e env)=(do let v←eval e env;standAt e.pos;holding [v] (truthy v))) e (jJ q) λY Y Y Y Y=>rfl)
  λH=>dD H (λq=>Cp (motive_1:=λe=>∀env,isTrue e env (eval e env)=(do let v←eval e env;standAt e.pos;holding [v] (truthy v))) e (jJ q) λY Y Y Y=>rfl)
  λq=>Cq (motive_1:=λe=>∀env,isTrue e env (eval e env)=(do let v←eval e env;standAt e.pos;holding [v] (truthy v))) e (jJ q) λY Y Y Y=>rfl)
theorem aev{g:XE->aG->Bool}(F:∀{x e},g x e=true->fY φ d S nm x e)(h:NY g c l=true):pg φ d S nm c l:=match c,h with
 |none,h=>jW h .none
 |some _,h=>sR h λY h=>.one (F h)
theorem Fp(F:Good φ d nm f)(h:Bt nm f S bH Y it c e=true){M:aG->Prop}
  (k:∀{U x J iter O Sc pos},kB S Sc nm x->nm[bH]?=some x->aP φ d (iV Sc S) nm Y U->lT φ d S nm it iter->ri iter=true->pg φ d (iV Sc S) nm c O->rz it (.Name x J)=true->M (.ListComp U [⟨.Name x J,iter,O,0⟩] Sc pos)):M e:=
 air h λU H Sc p h=>aip (M:=λH=>M (.ListComp U H Sc p)) h λx J iter O h=>aw h λV h=>aw h λZ h=>aw h λh3 h=>aw h λh4 h=>aw h λh5 h=>aw h λh6 h=>
  k (W2 V) (aW h3) (F (t:=false) h4) (NX (F (t:=false)) h5) Z (aev (F (t:=true)) h) h6
theorem aet(h:NU S v e=true):aP φ d S nm (.const v) e:=by
 cases v with
 |none=>
  exact yQ h λc k p h=>aW h▸agV
 |bool b=>
  exact yQ h λc k p h=>aW h▸agE
 |int i=>
  exact dD h (λh=>yQ h λc k p h=>aW h▸agO) λh=>kc h λx p h=>aw h λH h=>aw h λJ h=>jg h λv O h=>Qc (M:=λv=>jv x=some v->_) h (λj t h O=>agM (aW J) (aW h▸O) (eI H)) O
 |str s=>
  exact yQ h λc k p h=>aW h▸ag1
 |bytes _=>
  exact ff h
 |tup l=>
  exact aw h λH h=>kc h λx p h=>aw h λJ h=>Qh H▸aW J▸agQ (aW (aW J▸h))
 |ref _=>
  exact ff h
 |st _=>
  exact ff h
theorem aew(F:∀{x e},f false x S e=true->aP φ d S nm x e)(h:N2 (λx e=>f false x S e) S p l x es=true):aP φ d S nm (.prim p l) (.Call (.Name x q) es [] pos):=
 aw h λO h=>dD h
  (λh=>jg h λb V h=>aw h λH h=>aw h λJ h=>aW H▸agX V (nK F h) (aW (aW H▸O)) J) λh=>dD h
  (λh=>aw h λH h=>EY (M:=λes=>aP φ d S nm (.prim p l) (.Call (.Name x q) es [] pos)) h λe n h=>aw h λJ h=>kc (M:=λn=>aP φ d S nm (.prim p l) (.Call (.Name x q) [e,n] [] pos)) h λn q' h=>aw h λY h=>jg h λc Z h=>aw h λU h=>
   abk (M:=λl=>aP φ d S nm (.prim p l) _) h λa h=>aW H▸aW U▸agP Z (F h) (aW (aW H▸O)) (aW (aW U▸Y)) J) λh=>dD h
  (λh=>aw h λhp h=>aw h λH h=>aw h λJ h=>aW hp▸aW H▸ag3 (nK F h) (aW (aW H▸O)) J) λh=>dD h
  (λh=>aw h λhp h=>aw h λH h=>aw h λJ h=>aW hp▸aW H▸agF (nK F h) (aW (aW H▸O)) J)
  λh=>aw h λhp h=>aw h λH h=>aw h λJ h=>jW (M:=λes=>aP φ d S nm _ (.Call (.Name x q) es [] pos)) J (ML (M:=λl=>aP φ d S nm (.prim _ l) _) h (aW hp▸aW H▸agU (aW (aW H▸O))))
theorem yo{α:Type}{M:Option α->Prop}{o:Option α}(h:decide (o.isNone=true)=true)(k:M none):M o:=by
 cases o with
 |none=>
  exact k
 |some _=>
  exact ff h
theorem aey(Φ:i4 φ d')(hd:d'+3<=d)(fO:nm.Nodup)(F:Good φ d nm f){t x S e}(h:N5 nm f t x S e=true):sd φ d S nm t x e:=by
 have O:∀{S x e},f false x S e=true->aP φ d S nm x e:=F (t:=false)
 cases x with
 |var i=>
  exact iD h λh=>kc h λx p h=>aw h λH h=>aw h λJ h=>ag6 (aW h) (qY J) (eI H)
 |const v=>
  exact iD h aet
 |bin op a b=>
  exact iD h λh=>ain h λl o r p h=>aw h λH h=>aw h λJ h=>aW H▸agD (O J) (O h)
 |neg a=>
  exact iD h λh=>Qi h λo x p h=>aw h λH h=>aW H▸agT (O h)
 |eI a=>
  exact Qi h λo x p h=>aw h λH h=>aW H▸match t,h with
   |false,h=>agW (O h)
   |true,h=>agy (F (t:=true) h)
 |aw a b=>
  exact P5 (o:=.And) (k:=λl r=>f t a S l&&f t b S r) h (λl r p h=>aw h λH J=>match t,H,J with
   |false,H,J=>O9 (O H) (Pa (O J))
   |true,H,J=>O7 (F (t:=true) H) (agz (F (t:=true) J))) λl r r' Y p h=>aw h λH J=>match t,H,J with
   |false,H,J=>O9 (O H) (O J)
   |true,H,J=>O7 (F (t:=true) H) (F (t:=true) J)
 |dD a b=>
  exact P5 (o:=.Or) (k:=λl r=>f t a S l&&f t b S r) h (λl r p h=>aw h λH J=>match t,H,J with
   |false,H,J=>Pb (O H) (Pa (O J))
   |true,H,J=>O8 (F (t:=true) H) (agA (F (t:=true) J))) λl r r' Y p h=>aw h λH J=>match t,H,J with
   |false,H,J=>Pb (O H) (O J)
   |true,H,J=>O8 (F (t:=true) H) (F (t:=true) J)
 |bj c a b=>
  exact aiq h λx y z p h=>aw h λh0 h=>aw h λH J=>match t,H,J with
   |false,H,J=>agN (F (t:=true) h0) (O H) (O J)
   |true,H,J=>agx (F (t:=true) h0) (F (t:=true) H) (F (t:=true) J)
 |cmp op a b=>
  exact P7 h λl os Y p h=>sR (M:=λos=>sd φ d S nm t _ (.Compare l os Y p)) h λo h=>sR (M:=λY=>sd φ d S nm t _ (.Compare l [o] Y p)) h λr h=>aw h λH h=>aw h λJ h=>aw h λU V=>aW H▸match t with
   |false=>agH Al (O U) (O V) (eI J)
   |true=>agv Al (O U) (O V) (eI J)
 |k8 op rj a b c=>
  exact P7 h λl os Y p h=>EY (M:=λos=>sd φ d S nm t _ (.Compare l os Y p)) h λo o' h=>EY (M:=λY=>sd φ d S nm t _ (.Compare l [o,o'] Y p)) h λr r' h=>aw h λH h=>aw h λZl h=>aw h λJ h=>aw h λU h=>aw h λV Z=>aW H▸aW Zl▸match t with
   |false=>agI Al (O U) (O V) (O Z) (eI J)
   |true=>agw Al (O U) (O V) (O Z) (eI J)
 |tup l=>
  exact iD h λh=>GI h λes n p h=>aw h λH h=>ag5 (nK O h) H
 |list l=>
  exact iD h λh=>ais h λes p h=>aw h λH h=>agR (nK O h) H
 |oA=>
  exact iD h λh=>P8 h λa b p h=>aw h λH h=>jW (M:=λa=>aP φ d S nm _ (.Dict a b p)) H (jW (M:=λb=>aP φ d S nm _ (.Dict [] b p)) h agK)
 |dict ks l=>
  exact iD h λh=>P8 h λa b p h=>aw h λh0 h=>aw h λH h=>aw h λJ h=>aw h λU h=>aw h λV h=>agJ (N1 O h0) H (aW J) (eI U) (aW V) (aW h)
 |attr a x=>
  exact iD h λh=>v4 h λa y p h=>aw h λH h=>aw h λJ h=>aW J▸agC (O h) H
 |sub a i=>
  exact iD h λh=>yR h λa y p h=>aw h λH h=>aw h λJ h=>ag2 Φ hd (O J) (O h) H
 |rows i=>
  exact iD h λh=>yR h λa y p h=>v4 (M:=λa=>aP φ d S nm _ (.Subscript a y p)) h λs r p2 h=>aw h λH h=>kc (M:=λs=>aP φ d S nm _ (.Subscript (.Attribute s r p2) y p)) h λs p3 h=>aw h λJ h=>aw h λU h=>aw h λV h=>
   aW H▸aW J▸agY (O h) (aW (aW J▸U)) V
 |sliceTo a k=>
  exact iD h λh=>yR h λa j p h=>Qg (M:=λj=>aP φ d S nm _ (.Subscript a j p)) h λx y z p2 h=>aw h λH h=>aw h λJ h=>jg h λy' U h=>aw h λV h=>
   yo (M:=λx=>aP φ d S nm _ (.Subscript a (.Slice x y z p2) p)) H (yo (M:=λz=>aP φ d S nm _ (.Subscript a (.Slice none y z p2) p)) J (U▸ag0 (O V) (O h)))
 |sliceFrom a k=>
  exact iD h λh=>yR h λa j p h=>Qg (M:=λj=>aP φ d S nm _ (.Subscript a j p)) h λx y z p2 h=>aw h λH h=>aw h λJ h=>jg h λy' U h=>aw h λV h=>
   yo (M:=λy=>aP φ d S nm _ (.Subscript a (.Slice x y z p2) p)) H (yo (M:=λz=>aP φ d S nm _ (.Subscript a (.Slice x none z p2) p)) J (U▸agZ (O V) (O h)))
 |fn a l=>
  exact iD h λh=>v5 h λg es p h=>aw h λH h=>aw h λJ h=>dD h
   (λh=>kc (M:=λg=>aP φ d S nm _ (.Call g es [] p)) h λx q h=>aw h λU h=>aw h λV h=>aw h λZ h=>agL Φ hd (nK O H) (aW U) (aW Z) (eI V) J (Y9 h))
   λh=>aw h λU h=>v4 (M:=λg=>aP φ d S nm _ (.Call g es [] p)) h λo m ap h=>aw h λV h=>aw h λZ h=>aw h λh6 h=>kc (M:=λo=>aP φ d S nm _ (.Call (.Attribute o m ap) es [] p)) h λc q h=>aw h λh7 h=>
    jJ U▸aW V▸aW h7▸ag4 Φ (bo (ki _ _) hd) (nK O H) J (aW Z) (aW h6) (aW (aW h7▸h))
 |cls a l=>
  exact iD h λh=>v5 h λg es p h=>kc (M:=λg=>aP φ d S nm _ (.Call g es [] p)) h λx q h=>aw h λH h=>aw h λJ h=>aw h λU h=>aw h λV h=>agG Φ hd (nK O H) (aW U) (aW h) (eI V) J
 |prim p l=>
  exact iD h λh=>v5 h λg es p h=>kc (M:=λg=>aP φ d S nm _ (.Call g es [] p)) h λx q h=>aew O h
 |aZ o m l=>
  exact iD h λh=>v5 h λg es p h=>v4 (M:=λg=>aP φ d S nm _ (.Call g es [] p)) h λb y ap h=>aw h λH h=>aw h λJ h=>aw h λU h=>aw h λV h=>aw h λZ h=>aw h λh6 h=>
   aW U▸agS Φ hd (O h) (nK O H) J (aW V) (aW Z) h6
 |comp i el it=>
  exact iD h λh=>Fp F h λa b c d e f g=>Gn (c:=none) a b fO c d e f g
 |nt i el it c=>
  exact iD h λh=>Fp F h λa b c' d e f g=>Gn (c:=some c) a b fO c' d e f g
theorem NV(J:i4 φ d')(O:d'+3<=d)(H:nm.Nodup):∀n,Good φ d nm (Fq nm n)
 |0=>λh=>ff h
 |n+1=>λh=>aey J O H (NV J O H n) h
theorem NZ{xs:List Str}(h:Fv S nm is xs=true){G:Prop}(k:∀L:List (Nat×Str),L.map (·.1)=is->L.map (·.2)=xs->(∀p∈L,nm[p.1]?=some p.2/\kH S p.2=true)->G):G:=
 aw h λH h=>aw h λJ h=>k (is.zip xs) (aW H) (aW J) λp hp=>aw (jM.mp h p hp) λH J=>⟨aW H,J⟩
theorem aeu(H:nm.Nodup)(h:NW S nm t e=true):zL S nm t e:=by
 cases t with
 |var i=>
  exact kc h λy p h=>aw h λJ O=>ahR H (aW O) J
 |tup is=>
  exact GI h λY n p h=>jg h λxs J h=>NZ h λL O U V=>O▸ahQ H (U▸J) V
 |attr _ _=>
  exact ff h
 |sub _ _=>
  exact ff h
theorem vN{g:XS->cy->Bool}(G:∀{x s},g x s=true->eG φ d S nm x s):∀{b:XB} {l:List cy},tD g b l=true->om φ d S nm b l
 |.nil,_,h=>jW h af'
 |.cons _ _,[],h=>ff h
 |.cons _ _,_::_,h=>aw h λH J=>af9 (G H) (vN G J)
theorem aer(Φ:i4 φ d')(hd:d'+3<=d)(O:nm.Nodup)(F:Good φ d nm f)(h:NT nm S f t x a e=true):eG φ d S nm (.assign t x) (.Assign [a] e p):=by
 have U:∀{S x e},f false x S e=true->aP φ d S nm x e:=F (t:=false)
 cases t with
 |var i=>
  exact kc (M:=λa=>eG φ d S nm _ (.Assign [a] e p)) h λy q h=>aw h λH h=>aw h λJ h=>dD h (λh=>aw h λV h=>agk O (U h) V (aW J) (qY H)) λh=>aiH (M:=λx=>eG φ d S nm (.assign _ x) _) h λsl el it co h=>
   Fp (M:=λe=>eG φ d S nm _ (.Assign [.Name y q] e p)) F h λa b c d e f g=>agh O (aW J) H a b c d e f g
 |attr o k=>
  exact v4 (M:=λa=>eG φ d S nm _ (.Assign [a] e p)) h λb y q h=>aw h λH h=>aw h λJ h=>aw h λV Y=>aW J▸agg (U Y) (U V) H
 |sub o i=>
  exact yR (M:=λa=>eG φ d S nm _ (.Assign [a] e p)) h λb j q h=>aw h λH h=>aw h λJ h=>aw h λV h=>aw h λY Z=>agi Φ (bo (ki d' 3) hd) (U Z) (U V) (U Y) J H
 |tup is=>
  exact GI (M:=λa=>eG φ d S nm _ (.Assign [a] e p)) h λts n q h=>aw h λH h=>aw h λJ h=>aw h λhn h=>jg h λxs V h=>aw h λY h8=>NZ Y λL Z h6 h7=>
   Z▸agj O (U J) H (h6▸V) h7 (Z▸aW hn) (dD (h6▸h8) (λh=>.inl (Ol h)) λh=>.inr (Ol h))
theorem aex(Y:i4 φ d')(Z:d'+3<=d)(U:nm.Nodup)(F:Good φ d nm f){g:XS->cy->Bool}(G:∀{x s},g x s=true->eG φ d S nm x s){x:XS}{st:cy}(h:N3 nm S f g x st=true):eG φ d S nm x st:=by
 have V:∀{S x e},f false x S e=true->aP φ d S nm x e:=F (t:=false)
 cases x with
 |expr x=>
  exact afP h λe p h=>aw h λH h=>agp (V h) H
 |assign t x=>
  exact afN h λl e p h=>sR (M:=λl=>eG φ d S nm _ (.Assign l e p)) h λa h=>aer Y Z U F h
 |sj i op x=>
  exact OL h λa o e p h=>aw h λH h=>aw h λJ h=>kc (M:=λa=>eG φ d S nm _ (.AugAssign a o e p)) h λy q h=>aw h λO h=>aW H▸agm U (V J) (aW O) (qY h)
 |g9 b k op x=>
  exact OL h λa o e p h=>aw h λH h=>aw h λJ h=>v4 (M:=λa=>eG φ d S nm _ (.AugAssign a o e p)) h λc y q h=>aw h λO h=>aW H▸aW O▸agl (V h) (V J)
 |bj c a b=>
  exact afR h λe x y p h=>aw h λH h=>aw h λJ O=>agq (F (t:=true) H) (vN G J) (vN G O)
 |loop t it b=>
  exact afQ h λa e x y p h=>aw h λH h=>aw h λJ h=>aw h λO h=>aw h λh4 h=>aw h λh5 h6=>jW (M:=λy=>eG φ d S nm _ (.For a e x y p)) H (agr (NX V O) (vN G h4) (aeu U h5) h6 J)
 |«while» c b=>
  exact afS h λe x y p h=>aw h λH h=>aw h λJ O=>jW (M:=λy=>eG φ d S nm _ (.While e x y p)) H (agu (F (t:=true) J) (vN G O))
 |ret x=>
  exact OR h λe p h=>jg h λe' H h=>H▸ags (V h)
 |lu=>
  exact OR h λe p h=>yo (M:=λe=>eG φ d S nm _ (.Return e p)) h agt
 |cont=>
  exact afO h λp=>ago
 |bad=>
  exact agn
theorem N4(J:i4 φ d')(O:d'+3<=d)(H:nm.Nodup)(m:Nat):∀(n:Nat) {x:XS} {s:cy},Fw S nm m n x s=true->eG φ d S nm x s
 |0,_,_,h=>ff h
 |n+1,_,_,h=>aex J O H (NV J O H m) (N4 J O H m n) h
theorem aes(J:i4 φ d')(O:d'+3<=d)(H:nm.Nodup){st:cy}(h:Fj nm st y=true):om φ d (gg st) nm y (iF st):=
 vN (N4 J O H 30 30) h
end
end
section
local macro_rules | `(#[$x]) => `(.cons $x .nil) | `(#[$x, $y,*]) => `(.cons $x #[$y,*])
local macro_rules | `(#[$x:str]) => `(.cons (sl $x) .nil) | `(#[$x:str, $y,*]) => `(.cons (sl $x) #[$y,*])
local macro_rules | `(!$x) => `(.const (.int $x))
noncomputable def acu:List Str:=#["self","count"]
noncomputable def Qq:XB:=#[.assign (.attr (.var 0) 0) (.var 1),.assign (.attr (.var 0) 1) .oA]
noncomputable def acs:List Str:=#["self","index"]
noncomputable def Qp:XB:=#[.bj (.eI (.k8 .LtE .Lt (!0) (.var 1) (.attr (.var 0) 0))) #[.bad] .nil,.ret (.aZ (.attr (.var 0) 1) 3 #[.var 1,!1024])]
noncomputable def acv:List Str:=#["self","index","model"]
noncomputable def Qs:XB:=#[.bj (.eI (.k8 .LtE .Lt (!0) (.var 1) (.attr (.var 0) 0))) #[.bad] .nil,.assign (.sub (.attr (.var 0) 1) (.var 1)) (.var 2)]
noncomputable def adt:List Str:=#["count"]
noncomputable def Ri:XB:=#[.ret (.bj (.cmp .LtE (.var 0) (!64)) (.bin .Mult (.list #[!1024]) (.var 0)) (.cls 104 #[.var 0]))]
noncomputable def acR:List Str:=#["self","lc","lp","pb","number","most"]
noncomputable def GR:XB:=#[.loop (.tup [4,5]) (.val (.tup #[.tup #[.var 1,!8],.tup #[.var 2,!4],.tup #[.var 3,!4]])) #[.bj (.dD (.eI (.prim .isInt #[.var 4])) (.eI (.k8 .LtE .LtE (!0) (.var 4) (.var 5)))) #[.bad] .nil],.assign (.attr (.var 0) 2) (.var 1),.assign (.attr (.var 0) 3) (.var 2),.assign (.attr (.var 0) 4) (.var 3)]
noncomputable def acS:List Str:=#["self"]
noncomputable def QM:XB:=#[.ret (.bin .LShift (!768) (.bin .Add (.attr (.var 0) 2) (.attr (.var 0) 3)))]
noncomputable def acT:List Str:=#["self","place"]
noncomputable def QN:XB:=#[.ret (.bin .BitAnd (.var 1) (.bin .Sub (.bin .LShift (!1) (.attr (.var 0) 4)) (!1)))]
noncomputable def adm:List Str:=#["state"]
noncomputable def Rc:XB:=#[.bj (.cmp .Lt (.var 0) (!4)) #[.ret (!0)] .nil,.ret (.bj (.cmp .Lt (.var 0) (!10)) (.bin .Sub (.var 0) (!3)) (.bin .Sub (.var 0) (!6)))]
noncomputable def adn:List Str:=#["state"]
noncomputable def Rd:XB:=#[.ret (.bj (.cmp .Lt (.var 0) (!7)) (!7) (!10))]
noncomputable def ado:List Str:=#["state"]
noncomputable def Re:XB:=#[.ret (.bj (.cmp .Lt (.var 0) (!7)) (!8) (!11))]
noncomputable def adp:List Str:=#["state"]
noncomputable def Rg:XB:=#[.ret (.bj (.cmp .Lt (.var 0) (!7)) (!9) (!11))]
noncomputable def adu:List Str:=#["state"]
noncomputable def Rj:XB:=#[.ret (.cmp .Lt (.var 0) (!7))]
noncomputable def adN:List Str:=#["length"]
noncomputable def Rx:XB:=#[.ret (.prim .min2 #[.bin .Sub (.var 0) (!2),.bin .Sub (!4) (!1)])]
noncomputable def adW:List Str:=#["slot","extra"]
noncomputable def RH:XB:=#[.bj (.cmp .Lt (.var 0) (!4)) #[.ret (.tup #[!0,.var 0])] .nil,.assign (.var 1) (.bin .Sub (.bin .RShift (.var 0) (!1)) (!1)),.ret (.tup #[.var 1,.bin .LShift (.bin .BitOr (!2) (.bin .BitAnd (.var 0) (!1))) (.var 1)])]
noncomputable def adX:List Str:=#["distance","number","high","slot","extra","base"]
noncomputable def RJ:XB:=#[.assign (.var 1) (.bin .Sub (.var 0) (!1)),.bj (.cmp .Lt (.var 1) (!4)) #[.ret (.tup #[.var 1,!0,.var 1])] .nil,.assign (.var 2) (.bin .Sub (.aZ (.var 1) 4 .nil) (!1)),.assign (.var 3) (.bin .Add (.bin .Mult (!2) (.var 2)) (.bin .BitAnd (.bin .RShift (.var 1) (.bin .Sub (.var 2) (!1))) (!1))),.assign (.tup [4,5]) (.fn 207 #[.var 3]),.ret (.tup #[.var 3,.var 4,.var 5])]
noncomputable def acw:List Str:=#["self","positions"]
noncomputable def Qt:XB:=#[.assign (.attr (.var 0) 5) (.var 1),.assign (.attr (.var 0) 6) (.list .nil),.assign (.attr (.var 0) 7) (.list .nil),.assign (.attr (.var 0) 8) (.list .nil),.assign (.attr (.var 0) 9) (.list .nil),.expr (.aZ (.var 0) 8 .nil)]
noncomputable def acy:List Str:=#["self"]
noncomputable def Qu:XB:=#[.assign (.attr (.var 0) 6) (.fn 115 #[!2]),.assign (.attr (.var 0) 7) (.fn 115 #[.bin .Mult (!8) (.attr (.var 0) 5)]),.assign (.attr (.var 0) 8) (.fn 115 #[.bin .Mult (!8) (.attr (.var 0) 5)]),.assign (.attr (.var 0) 9) (.fn 115 #[!256])]
noncomputable def acM:List Str:=#["self","props"]
noncomputable def QH:XB:=#[.assign (.attr (.var 0) 10) (.var 1),.assign (.attr (.var 0) 11) (.list .nil),.assign (.attr (.var 0) 12) (.list .nil),.assign (.attr (.var 0) 13) (.list .nil),.assign (.attr (.var 0) 14) (.list .nil),.assign (.attr (.var 0) 15) (.list .nil),.assign (.attr (.var 0) 16) (.list .nil),.assign (.attr (.var 0) 17) (.list .nil),.assign (.attr (.var 0) 18) (.list .nil),.assign (.attr (.var 0) 19) (.list .nil),.assign (.attr (.var 0) 20) (.list .nil),.assign (.attr (.var 0) 21) (.cls 238 #[.bin .LShift (!1) (.attr (.var 1) 4)]),.assign (.attr (.var 0) 22) (.cls 238 #[.bin .LShift (!1) (.attr (.var 1) 4)]),.expr (.aZ (.var 0) 8 .nil)]
noncomputable def acO:List Str:=#["self"]
noncomputable def QJ:XB:=#[.assign (.attr (.var 0) 11) (.fn 115 #[.bin .Mult (!12) (!16)]),.assign (.attr (.var 0) 12) (.fn 115 #[!12]),.assign (.attr (.var 0) 13) (.fn 115 #[!12]),.assign (.attr (.var 0) 14) (.fn 115 #[!12]),.assign (.attr (.var 0) 15) (.fn 115 #[!12]),.assign (.attr (.var 0) 16) (.fn 115 #[.bin .Mult (!12) (!16)]),.assign (.attr (.var 0) 17) (.fn 115 #[.bin .Mult (!4) (!64)]),.assign (.attr (.var 0) 18) (.fn 115 #[.bin .Sub (.bin .Add (!1) (!128)) (!14)]),.assign (.attr (.var 0) 19) (.fn 115 #[.bin .LShift (!1) (!4)]),.assign (.attr (.var 0) 20) (.fn 115 #[.aZ (.attr (.var 0) 10) 6 .nil]),.expr (.aZ (.attr (.var 0) 21) 8 .nil),.expr (.aZ (.attr (.var 0) 22) 8 .nil)]
noncomputable def acL:List Str:=#["self","state","place"]
noncomputable def QG:XB:=#[.ret (.bin .Add (.bin .Mult (.var 1) (!16)) (.aZ (.attr (.var 0) 10) 7 #[.var 2]))]
noncomputable def acP:List Str:=#["self","length"]
noncomputable def QK:XB:=#[.ret (.bin .Mult (!64) (.fn 200 #[.var 1]))]
noncomputable def acQ:List Str:=#["self","slot","extra","base"]
noncomputable def QL:XB:=#[.assign (.tup [2,3]) (.fn 207 #[.var 1]),.ret (.bin .Sub (.var 3) (.var 1))]
noncomputable def acN:List Str:=#["self","place","before","high"]
noncomputable def QI:XB:=#[.assign (.var 3) (.bin .LShift (.bin .BitAnd (.var 1) (.bin .Sub (.bin .LShift (!1) (.attr (.attr (.var 0) 10) 3)) (!1))) (.attr (.attr (.var 0) 10) 2)),.ret (.bin .Mult (!768) (.bin .Add (.var 3) (.bin .RShift (.var 2) (.bin .Sub (!8) (.attr (.attr (.var 0) 10) 2)))))]
noncomputable def Nv:List Str:=#["self","row"]
noncomputable def B8:XB:=#[.assign (.attr (.var 0) 23) (.prim .listOf #[.var 1])]
noncomputable def ac4:List Str:=#["self"]
noncomputable def QW:XB:=#[.ret (.sub (.attr (.var 0) 23) (!0))]
noncomputable def ac6:List Str:=#["self","index","distance"]
noncomputable def QY:XB:=#[.assign (.var 2) (.sub (.attr (.var 0) 23) (.var 1)),.assign (.attr (.var 0) 23) (.bin .Add (.bin .Add (.list #[.var 2]) (.sliceTo (.attr (.var 0) 23) (.var 1))) (.sliceFrom (.attr (.var 0) 23) (.bin .Add (.var 1) (!1)))),.ret (.var 2)]
noncomputable def ac5:List Str:=#["self","distance"]
noncomputable def QX:XB:=#[.assign (.attr (.var 0) 23) (.bin .Add (.list #[.var 1]) (.sliceTo (.attr (.var 0) 23) (!3)))]
noncomputable def ac3:List Str:=#["self"]
noncomputable def QU:XB:=#[.ret (.cls 352 #[.attr (.var 0) 23])]
noncomputable def adS:List Str:=#["model","bit"]
noncomputable def RD:XB:=#[.bj (.cmp .Eq (.var 1) (!0)) #[.ret (.bin .Add (.var 0) (.bin .RShift (.bin .Sub (!2048) (.var 0)) (!5)))] .nil,.ret (.bin .Sub (.var 0) (.bin .RShift (.var 0) (!5)))]
noncomputable def adO:List Str:=#["bit"]
noncomputable def Ry:XB:=#[.bj (.cmp .NotIn (.var 0) (.tup #[!0,!1])) #[.bad] .nil]
noncomputable def adQ:List Str:=#["value","count"]
noncomputable def RB:XB:=#[.bj (.dD (.cmp .Lt (.var 1) (!0)) (.eI (.k8 .LtE .Lt (!0) (.var 0) (.bin .LShift (!1) (.var 1))))) #[.bad] .nil]
noncomputable def ad1:List Str:=#["value","count","found","place"]
noncomputable def G6:XB:=#[.assign (.var 2) (!0),.loop (.var 3) (.range #[.var 1]) #[.assign (.var 2) (.bin .BitOr (.bin .LShift (.var 2) (!1)) (.bin .BitAnd (.bin .RShift (.var 0) (.var 3)) (!1)))],.ret (.var 2)]
noncomputable def acY:List Str:=#["self"]
noncomputable def QR:XB:=#[.assign (.attr (.var 0) 24) (.prim .q8 .nil),.assign (.attr (.var 0) 7) (!0),.assign (.attr (.var 0) 25) (!4294967295),.assign (.attr (.var 0) 26) (!0),.assign (.attr (.var 0) 27) (!1),.assign (.attr (.var 0) 28) (.const (.bool false))]
noncomputable def ac1:List Str:=#["self","carry"]
noncomputable def QT:XB:=#[.bj (.dD (.cmp .Lt (.attr (.var 0) 7) (!4278190080)) (.cmp .GtE (.attr (.var 0) 7) (!4294967296))) #[.assign (.var 1) (.bin .RShift (.attr (.var 0) 7) (!32)),.expr (.aZ (.attr (.var 0) 24) 0 #[.bin .BitAnd (.bin .Add (.attr (.var 0) 26) (.var 1)) (!255)]),.expr (.aZ (.attr (.var 0) 24) 2 #[.bin .Mult (.prim .bytesOf #[.list #[.bin .BitAnd (.bin .Add (!255) (.var 1)) (!255)]]) (.bin .Sub (.attr (.var 0) 27) (!1))]),.assign (.attr (.var 0) 26) (.bin .BitAnd (.bin .RShift (.attr (.var 0) 7) (!24)) (!255)),.assign (.attr (.var 0) 27) (!0)] .nil,.g9 (.var 0) 27 .Add (!1),.assign (.attr (.var 0) 7) (.bin .LShift (.bin .BitAnd (.attr (.var 0) 7) (.bin .Sub (!16777216) (!1))) (!8))]
noncomputable def acX:List Str:=#["self"]
noncomputable def QQ:XB:=#[.bj (.cmp .Lt (.attr (.var 0) 25) (!16777216)) #[.g9 (.var 0) 25 .LShift (!8),.expr (.aZ (.var 0) 17 .nil)] .nil]
noncomputable def acZ:List Str:=#["self"]
noncomputable def QS:XB:=#[.bj (.attr (.var 0) 28) #[.bad] .nil]
noncomputable def acU:List Str:=#["self","models","index","bit","model","bound"]
noncomputable def QO:XB:=#[.expr (.fn 370 #[.var 3]),.expr (.aZ (.var 0) 19 .nil),.assign (.var 4) (.sub (.var 1) (.var 2)),.assign (.var 5) (.bin .Mult (.bin .RShift (.attr (.var 0) 25) (!11)) (.var 4)),.bj (.cmp .Eq (.var 3) (!0)) #[.assign (.attr (.var 0) 25) (.var 5)] #[.g9 (.var 0) 7 .Add (.var 5),.g9 (.var 0) 25 .Sub (.var 5)],.assign (.sub (.var 1) (.var 2)) (.fn 363 #[.var 4,.var 3]),.expr (.aZ (.var 0) 18 .nil)]
noncomputable def acV:List Str:=#["self","count","value","place"]
noncomputable def aiI:XB:=#[.expr (.fn 377 #[.var 2,.var 1]),.expr (.aZ (.var 0) 19 .nil),.loop (.var 3) (.range #[.bin .Sub (.var 1) (!1),.neg (!1),.neg (!1)]) #[.g9 (.var 0) 25 .RShift (!1),.bj (.cmp .Eq (.bin .BitAnd (.bin .RShift (.var 2) (.var 3)) (!1)) (!1)) #[.g9 (.var 0) 7 .Add (.attr (.var 0) 25)] .nil,.expr (.aZ (.var 0) 18 .nil)]]
noncomputable def ac2:List Str:=#["self","models","start","count","value","node","place","bit"]
noncomputable def GU:XB:=#[.expr (.fn 377 #[.var 4,.var 3]),.assign (.var 5) (!1),.loop (.var 6) (.range #[.bin .Sub (.var 3) (!1),.neg (!1),.neg (!1)]) #[.assign (.var 7) (.bin .BitAnd (.bin .RShift (.var 4) (.var 6)) (!1)),.expr (.aZ (.var 0) 20 #[.var 1,.bin .Add (.var 2) (.var 5),.var 7]),.assign (.var 5) (.bin .BitOr (.bin .LShift (.var 5) (!1)) (.var 7))]]
noncomputable def ac0:List Str:=#["self","models","start","count","value","node","place","bit"]
noncomputable def GT:XB:=#[.expr (.fn 377 #[.var 4,.var 3]),.assign (.var 5) (!1),.loop (.var 6) (.range #[.var 3]) #[.assign (.var 7) (.bin .BitAnd (.bin .RShift (.var 4) (.var 6)) (!1)),.expr (.aZ (.var 0) 20 #[.var 1,.bin .Add (.var 2) (.var 5),.var 7]),.assign (.var 5) (.bin .BitOr (.bin .LShift (.var 5) (!1)) (.var 7))]]
noncomputable def acW:List Str:=#["self","turn"]
noncomputable def QP:XB:=#[.bj (.eI (.attr (.var 0) 28)) #[.loop (.var 1) (.range #[!5]) #[.expr (.aZ (.var 0) 17 .nil)],.assign (.attr (.var 0) 28) (.const (.bool true))] .nil,.ret (.prim .bytesOf #[.attr (.var 0) 24])]
noncomputable def adq:List Str:=#["model","bit","chance"]
noncomputable def Rh:XB:=#[.assign (.var 2) (.bj (.cmp .Eq (.var 1) (!0)) (.var 0) (.bin .Sub (!2048) (.var 0))),.ret (.rows (.bin .RShift (.var 2) (!4)))]
noncomputable def ads:List Str:=#["count"]
noncomputable def aiK:XB:=#[.ret (.bin .Mult (!16) (.var 0))]
noncomputable def ad0:List Str:=#["models","start","count","value","node","price","place","bit"]
noncomputable def G5:XB:=#[.expr (.fn 377 #[.var 3,.var 2]),.assign (.tup [4,5]) (.tup #[!1,!0]),.loop (.var 6) (.range #[.bin .Sub (.var 2) (!1),.neg (!1),.neg (!1)]) #[.assign (.var 7) (.bin .BitAnd (.bin .RShift (.var 3) (.var 6)) (!1)),.sj 5 .Add (.fn 3709 #[.sub (.var 0) (.bin .Add (.var 1) (.var 4)),.var 7]),.assign (.var 4) (.bin .BitOr (.bin .LShift (.var 4) (!1)) (.var 7))],.ret (.var 5)]
noncomputable def adV:List Str:=#["models","start","count","value"]
noncomputable def RG:XB:=#[.expr (.fn 377 #[.var 3,.var 2]),.ret (.fn 3723 #[.var 0,.var 1,.var 2,.fn 384 #[.var 3,.var 2]])]
noncomputable def adR:List Str:=#["number","word"]
noncomputable def RC:XB:=#[.bj (.dD (.eI (.prim .isInt #[.var 0])) (.prim .isBool #[.var 0])) #[.bad] .nil]
noncomputable def adP:List Str:=#["number","least","most","word"]
noncomputable def Rz:XB:=#[.expr (.fn 3738 #[.var 0,.var 3]),.bj (.dD (.cmp .Lt (.var 0) (.var 1)) (.aw (.cmp .IsNot (.var 2) (.const .none)) (.cmp .Gt (.var 0) (.var 2)))) #[.bad] .nil]
noncomputable def adY:List Str:=#["step"]
noncomputable def RK:XB:=#[.bj (.dD (.eI (.prim .vA #[.var 0])) (.dD (.cmp .Eq (.prim .len #[.var 0]) (!0)) (.cmp .NotIn (.sub (.var 0) (!0)) (.const (.tup [(.str 35),(.str 36),(.str 37),(.str 38)]))))) #[.bad] .nil,.bj (.cmp .In (.sub (.var 0) (!0)) (.tup #[.const (.str 35),.const (.str 38)])) #[.bj (.cmp .NotEq (.prim .len #[.var 0]) (!1)) #[.bad] .nil,.ret (!1)] .nil,.bj (.cmp .NotEq (.prim .len #[.var 0]) (!3)) #[.bad] .nil,.expr (.fn 3738 #[.sub (.var 0) (!1),.const (.str 48)]),.expr (.fn 3745 #[.sub (.var 0) (!2),!2,!273,.const (.str 48)]),.ret (.sub (.var 0) (!2))]
noncomputable def adU:List Str:=#["octets","at","distance","length","here"]
noncomputable def G4:XB:=#[.bj (.dD (.eI (.k8 .LtE .LtE (!1) (.var 2) (.var 1))) (.cmp .Gt (.bin .Add (.var 1) (.var 3)) (.prim .len #[.var 0]))) #[.ret (.const (.bool false))] .nil,.loop (.var 4) (.range #[.var 1,.bin .Add (.var 1) (.var 3)]) #[.bj (.cmp .NotEq (.sub (.var 0) (.var 4)) (.sub (.var 0) (.bin .Sub (.var 4) (.var 2)))) #[.ret (.const (.bool false))] .nil],.ret (.const (.bool true))]
noncomputable def adT:List Str:=#["octets","at","distance"]
noncomputable def RE:XB:=#[.bj (.cmp .Gt (.var 2) (.var 1)) #[.bad] .nil,.ret (.sub (.var 0) (.bin .Sub (.var 1) (.var 2)))]
noncomputable def ac7:List Str:=#["self","models","writer"]
noncomputable def QZ:XB:=#[.assign (.attr (.var 0) 29) (.var 1),.assign (.attr (.var 0) 30) (.var 2)]
noncomputable def adb:List Str:=#["self","state","place","before","octet","matched","start"]
noncomputable def Q4:XB:=#[.expr (.aZ (.attr (.var 0) 30) 20 #[.attr (.attr (.var 0) 29) 11,.aZ (.attr (.var 0) 29) 9 #[.var 1,.var 2],!0]),.assign (.var 6) (.aZ (.attr (.var 0) 29) 12 #[.var 2,.var 3]),.bj (.fn 193 #[.var 1]) #[.expr (.aZ (.var 0) 26 #[.var 6,!1,.var 4,!8])] #[.expr (.aZ (.var 0) 27 #[.var 6,.var 4,.var 5])]]
noncomputable def ade:List Str:=#["self","start","node","octet","count","shift","bit"]
noncomputable def GW:XB:=#[.loop (.var 5) (.range #[.bin .Sub (.var 4) (!1),.neg (!1),.neg (!1)]) #[.assign (.var 6) (.bin .BitAnd (.bin .RShift (.var 3) (.var 5)) (!1)),.expr (.aZ (.attr (.var 0) 30) 20 #[.attr (.attr (.var 0) 29) 20,.bin .Add (.var 1) (.var 2),.var 6]),.assign (.var 2) (.bin .Add (.bin .Mult (!2) (.var 2)) (.var 6))]]
noncomputable def ac8:List Str:=#["self","start","octet","matched","node","shift","foretold","bit"]
noncomputable def GV:XB:=#[.assign (.var 4) (!1),.loop (.var 5) (.range #[!7,.neg (!1),.neg (!1)]) #[.assign (.var 6) (.bin .BitAnd (.bin .RShift (.var 3) (.var 5)) (!1)),.assign (.var 7) (.bin .BitAnd (.bin .RShift (.var 2) (.var 5)) (!1)),.expr (.aZ (.attr (.var 0) 30) 20 #[.attr (.attr (.var 0) 29) 20,.bin .Add (.bin .Add (.var 1) (.bin .LShift (.bin .Add (!1) (.var 6)) (!8))) (.var 4),.var 7]),.assign (.var 4) (.bin .Add (.bin .Mult (!2) (.var 4)) (.var 7)),.bj (.cmp .NotEq (.var 7) (.var 6)) #[.expr (.aZ (.var 0) 26 #[.var 1,.var 4,.var 2,.var 5]),.lu] .nil]]
noncomputable def ada:List Str:=#["self","lengths","place","length","number","row"]
noncomputable def Q3:XB:=#[.assign (.var 4) (.bin .Sub (.var 3) (!2)),.assign (.var 5) (.bin .Mult (!8) (.aZ (.attr (.attr (.var 0) 29) 10) 7 #[.var 2])),.bj (.cmp .Lt (.var 4) (!8)) #[.expr (.aZ (.attr (.var 0) 30) 20 #[.attr (.var 1) 6,!0,!0]),.expr (.aZ (.attr (.var 0) 30) 22 #[.attr (.var 1) 7,.var 5,!3,.var 4]),.lu] .nil,.expr (.aZ (.attr (.var 0) 30) 20 #[.attr (.var 1) 6,!0,!1]),.bj (.cmp .Lt (.var 4) (!16)) #[.expr (.aZ (.attr (.var 0) 30) 20 #[.attr (.var 1) 6,!1,!0]),.expr (.aZ (.attr (.var 0) 30) 22 #[.attr (.var 1) 8,.var 5,!3,.bin .Sub (.var 4) (!8)]),.lu] .nil,.expr (.aZ (.attr (.var 0) 30) 20 #[.attr (.var 1) 6,!1,!1]),.expr (.aZ (.attr (.var 0) 30) 22 #[.attr (.var 1) 9,!0,!8,.bin .Sub (.var 4) (!16)])]
noncomputable def ac9:List Str:=#["self","distance","length","slot","extra","base","rest"]
noncomputable def Q0:XB:=#[.assign (.tup [3,4,5]) (.fn 214 #[.var 1]),.expr (.aZ (.attr (.var 0) 30) 22 #[.attr (.attr (.var 0) 29) 17,.aZ (.attr (.var 0) 29) 10 #[.var 2],!6,.var 3]),.bj (.cmp .Eq (.var 4) (!0)) #[.lu] .nil,.assign (.var 6) (.bin .Sub (.bin .Sub (.var 1) (!1)) (.var 5)),.bj (.cmp .Lt (.var 3) (!14)) #[.expr (.aZ (.attr (.var 0) 30) 23 #[.attr (.attr (.var 0) 29) 18,.aZ (.attr (.var 0) 29) 11 #[.var 3],.var 4,.var 6]),.lu] .nil,.expr (.aZ (.attr (.var 0) 30) 21 #[.bin .Sub (.var 4) (!4),.bin .RShift (.var 6) (!4)]),.expr (.aZ (.attr (.var 0) 30) 23 #[.attr (.attr (.var 0) 29) 19,!0,!4,.bin .BitAnd (.var 6) (.bin .Sub (.bin .LShift (!1) (!4)) (!1))])]
noncomputable def adc:List Str:=#["self","state","place","distance","length"]
noncomputable def Q5:XB:=#[.expr (.aZ (.attr (.var 0) 30) 20 #[.attr (.attr (.var 0) 29) 11,.aZ (.attr (.var 0) 29) 9 #[.var 1,.var 2],!1]),.expr (.aZ (.attr (.var 0) 30) 20 #[.attr (.attr (.var 0) 29) 12,.var 1,!0]),.expr (.aZ (.var 0) 28 #[.attr (.attr (.var 0) 29) 21,.var 2,.var 4]),.expr (.aZ (.var 0) 29 #[.var 3,.var 4])]
noncomputable def ac':List Str:=#["self","state","place","index"]
noncomputable def Q2:XB:=#[.bj (.cmp .Eq (.var 3) (!0)) #[.expr (.aZ (.attr (.var 0) 30) 20 #[.attr (.attr (.var 0) 29) 13,.var 1,!0]),.expr (.aZ (.attr (.var 0) 30) 20 #[.attr (.attr (.var 0) 29) 16,.aZ (.attr (.var 0) 29) 9 #[.var 1,.var 2],!1]),.lu] .nil,.expr (.aZ (.attr (.var 0) 30) 20 #[.attr (.attr (.var 0) 29) 13,.var 1,!1]),.bj (.cmp .Eq (.var 3) (!1)) #[.expr (.aZ (.attr (.var 0) 30) 20 #[.attr (.attr (.var 0) 29) 14,.var 1,!0]),.lu] .nil,.expr (.aZ (.attr (.var 0) 30) 20 #[.attr (.attr (.var 0) 29) 14,.var 1,!1]),.expr (.aZ (.attr (.var 0) 30) 20 #[.attr (.attr (.var 0) 29) 15,.var 1,.bin .Sub (.var 3) (!2)])]
noncomputable def adf:List Str:=#["self","state","place","index","length"]
noncomputable def Q6:XB:=#[.expr (.fn 3745 #[.var 3,!0,!3,.const (.str 47)]),.expr (.aZ (.attr (.var 0) 30) 20 #[.attr (.attr (.var 0) 29) 11,.aZ (.attr (.var 0) 29) 9 #[.var 1,.var 2],!1]),.expr (.aZ (.attr (.var 0) 30) 20 #[.attr (.attr (.var 0) 29) 12,.var 1,!1]),.expr (.aZ (.var 0) 31 #[.var 1,.var 2,.var 3]),.expr (.aZ (.var 0) 28 #[.attr (.attr (.var 0) 29) 22,.var 2,.var 4])]
noncomputable def adg:List Str:=#["self","state","place"]
noncomputable def Q7:XB:=#[.expr (.aZ (.attr (.var 0) 30) 20 #[.attr (.attr (.var 0) 29) 11,.aZ (.attr (.var 0) 29) 9 #[.var 1,.var 2],!1]),.expr (.aZ (.attr (.var 0) 30) 20 #[.attr (.attr (.var 0) 29) 12,.var 1,!1]),.expr (.aZ (.attr (.var 0) 30) 20 #[.attr (.attr (.var 0) 29) 13,.var 1,!0]),.expr (.aZ (.attr (.var 0) 30) 20 #[.attr (.attr (.var 0) 29) 16,.aZ (.attr (.var 0) 29) 9 #[.var 1,.var 2],!0])]
noncomputable def adj:List Str:=#["self"]
noncomputable def Q9:XB:=#[.assign (.attr (.var 0) 31) (!0)]
noncomputable def adh:List Str:=#["self","models","index","bit"]
noncomputable def Q8:XB:=#[.g9 (.var 0) 31 .Add (.fn 3709 #[.sub (.var 1) (.var 2),.var 3])]
noncomputable def adi:List Str:=#["self","count","value"]
noncomputable def aiJ:XB:=#[.g9 (.var 0) 31 .Add (.fn 3716 #[.var 1])]
noncomputable def adl:List Str:=#["self","models","start","count","value"]
noncomputable def Rb:XB:=#[.g9 (.var 0) 31 .Add (.fn 3723 #[.var 1,.var 2,.var 3,.var 4])]
noncomputable def adk:List Str:=#["self","models","start","count","value"]
noncomputable def Ra:XB:=#[.g9 (.var 0) 31 .Add (.fn 3730 #[.var 1,.var 2,.var 3,.var 4])]
noncomputable def acC:List Str:=#["self","models","writer"]
noncomputable def Qy:XB:=#[.expr (.fn 3780 #[.var 0,.var 1,.var 2]),.assign (.attr (.var 0) 32) (!0),.assign (.attr (.var 0) 33) (!0),.assign (.attr (.var 0) 34) (.cls 352 .nil)]
noncomputable def acG:List Str:=#["self","count"]
noncomputable def QC:XB:=#[.expr (.fn 3745 #[.var 1,!0,.const .none,.const (.str 0)]),.g9 (.var 0) 32 .Add (.var 1)]
noncomputable def acz:List Str:=#["self","distance"]
noncomputable def Qv:XB:=#[.expr (.fn 3738 #[.var 1,.const (.str 44)]),.bj (.eI (.k8 .LtE .LtE (!1) (.var 1) (.attr (.var 0) 32))) #[.bad] .nil]
noncomputable def acA:List Str:=#["self","length"]
noncomputable def Qw:XB:=#[.expr (.fn 3745 #[.var 1,!2,!273,.const (.str 45)])]
noncomputable def acD:List Str:=#["self","octet","before","matched","number"]
noncomputable def GP:XB:=#[.loop (.var 4) (.val (.tup #[.var 1,.var 2,.var 3])) #[.expr (.fn 3745 #[.var 4,!0,!255,.const (.str 46)])],.expr (.aZ (.var 0) 25 #[.attr (.var 0) 33,.attr (.var 0) 32,.var 2,.var 1,.var 3]),.assign (.attr (.var 0) 33) (.fn 165 #[.attr (.var 0) 33]),.g9 (.var 0) 32 .Add (!1)]
noncomputable def acE:List Str:=#["self","distance","length"]
noncomputable def Qz:XB:=#[.expr (.aZ (.var 0) 35 #[.var 1]),.expr (.aZ (.var 0) 36 #[.var 2]),.expr (.aZ (.var 0) 30 #[.attr (.var 0) 33,.attr (.var 0) 32,.var 1,.var 2]),.expr (.aZ (.attr (.var 0) 34) 15 #[.var 1]),.assign (.attr (.var 0) 33) (.fn 172 #[.attr (.var 0) 33]),.g9 (.var 0) 32 .Add (.var 2)]
noncomputable def acH:List Str:=#["self","index","length"]
noncomputable def QD:XB:=#[.expr (.fn 3745 #[.var 1,!0,!3,.const (.str 47)]),.expr (.aZ (.var 0) 35 #[.sub (.attr (.attr (.var 0) 34) 23) (.var 1)]),.expr (.aZ (.var 0) 36 #[.var 2]),.expr (.aZ (.var 0) 32 #[.attr (.var 0) 33,.attr (.var 0) 32,.var 1,.var 2]),.expr (.aZ (.attr (.var 0) 34) 14 #[.var 1]),.assign (.attr (.var 0) 33) (.fn 179 #[.attr (.var 0) 33]),.g9 (.var 0) 32 .Add (.var 2)]
noncomputable def acI:List Str:=#["self"]
noncomputable def QE:XB:=#[.expr (.aZ (.var 0) 35 #[.aZ (.attr (.var 0) 34) 13 .nil]),.expr (.aZ (.var 0) 33 #[.attr (.var 0) 33,.attr (.var 0) 32]),.assign (.attr (.var 0) 33) (.fn 186 #[.attr (.var 0) 33]),.g9 (.var 0) 32 .Add (!1)]
noncomputable def acF:List Str:=#["self","octets","at"]
noncomputable def QA:XB:=#[.ret (.bj (.fn 193 #[.attr (.var 0) 33]) (!0) (.fn 3766 #[.var 1,.var 2,.aZ (.attr (.var 0) 34) 13 .nil]))]
noncomputable def acB:List Str:=#["self","step"]
noncomputable def Qx:XB:=#[.bj (.cmp .Eq (.sub (.var 1) (!0)) (.const (.str 36))) #[.ret (.sub (.var 1) (!1))] .nil,.bj (.cmp .Eq (.sub (.var 1) (!0)) (.const (.str 37))) #[.expr (.fn 3745 #[.sub (.var 1) (!1),!0,!3,.const (.str 47)]),.ret (.sub (.attr (.attr (.var 0) 34) 23) (.sub (.var 1) (!1)))] .nil,.ret (.aZ (.attr (.var 0) 34) 13 .nil)]
noncomputable def acJ:List Str:=#["self","step","octets","at","length","before","distance"]
noncomputable def QF:XB:=#[.assign (.var 4) (.fn 3752 #[.var 1]),.bj (.cmp .Gt (.bin .Add (.var 3) (.var 4)) (.prim .len #[.var 2])) #[.bad] .nil,.bj (.cmp .Eq (.sub (.var 1) (!0)) (.const (.str 35))) #[.assign (.var 5) (.bj (.cmp .Gt (.attr (.var 0) 32) (!0)) (.fn 3766 #[.var 2,.var 3,!1]) (!0)),.expr (.aZ (.var 0) 37 #[.sub (.var 2) (.var 3),.var 5,.aZ (.var 0) 41 #[.var 2,.var 3]]),.ret (.bin .Add (.var 3) (!1))] .nil,.assign (.var 6) (.aZ (.var 0) 42 #[.var 1]),.expr (.aZ (.var 0) 35 #[.var 6]),.bj (.eI (.fn 3759 #[.var 2,.var 3,.var 6,.var 4])) #[.bad] .nil,.bj (.cmp .Eq (.sub (.var 1) (!0)) (.const (.str 36))) #[.expr (.aZ (.var 0) 38 #[.var 6,.var 4])] #[.bj (.cmp .Eq (.sub (.var 1) (!0)) (.const (.str 37))) #[.expr (.aZ (.var 0) 39 #[.sub (.var 1) (!1),.var 4])] #[.expr (.aZ (.var 0) 40 .nil)]],.ret (.bin .Add (.var 3) (.var 4))]
noncomputable def acK:List Str:=#["self","steps","octets","start","at","step"]
noncomputable def GQ:XB:=#[.assign (.var 4) (.var 3),.loop (.var 5) (.val (.var 1)) #[.assign (.var 4) (.aZ (.var 0) 43 #[.var 5,.var 2,.var 4])],.ret (.var 4)]
noncomputable def adZ:List Str:=#["models","state","reps","place","steps","octets","start","writer"]
noncomputable def RM:XB:=#[.assign (.var 7) (.cls 4021 #[.var 0,.cls 3895 .nil]),.assign (.attr (.var 7) 33) (.var 1),.assign (.attr (.var 7) 34) (.aZ (.var 2) 16 .nil),.assign (.attr (.var 7) 32) (.var 3),.expr (.aZ (.var 7) 44 #[.var 4,.var 5,.var 6]),.ret (.attr (.attr (.var 7) 30) 31)]
noncomputable def adB:List Str:=#["script","great","mixed","cell"]
noncomputable def GZ:XB:=#[.assign (.tup [1,2]) (.tup #[!0,!25]),.loop (.var 3) (.val (.sliceTo (.var 0) (!24))) #[.bj (.cmp .GtE (.prim .abs #[.var 3]) (.bin .Pow (!10) (!18))) #[.assign (.var 1) (.bin .Add (.bin .Mult (.var 1) (.bin .Pow (!10) (!40))) (.bin .Mod (.bin .Sub (.prim .abs #[.var 3]) (.bin .Pow (!10) (!18))) (.bin .Pow (!10) (!40))))] #[.assign (.var 2) (.bin .Mod (.bin .Add (.bin .Add (.bin .Mult (.var 2) (!31)) (.bin .Mult (!2) (.prim .abs #[.var 3]))) (.prim .jU #[.cmp .Lt (.var 3) (!0)])) (!9973))]],.ret (.list #[.var 1,.var 2,!0])]
noncomputable def adG:List Str:=#["jar","many","digit"]
noncomputable def Rr:XB:=#[.assign (.sub (.var 0) (!2)) (.bin .Add (.sub (.var 0) (!2)) (!1)),.bj (.cmp .Gt (.sub (.var 0) (!0)) (!0)) #[.assign (.var 2) (.bin .Mod (.sub (.var 0) (!0)) (.var 1)),.assign (.sub (.var 0) (!0)) (.bin .FloorDiv (.sub (.var 0) (!0)) (.var 1)),.ret (.var 2)] .nil,.ret (.bin .Mod (.bin .FloorDiv (.bin .Mod (.bin .Add (.bin .Add (.bin .Mult (.sub (.var 0) (!1)) (.bin .Add (.bin .Mult (!2) (.sub (.var 0) (!2))) (!5))) (.bin .Mult (.bin .Mult (!13) (.sub (.var 0) (!2))) (.sub (.var 0) (!2)))) (!4)) (!9949)) (!3)) (.var 1))]
noncomputable def adL:List Str:=#["jar","many","text","four","place","ahead","steps","back","turn","kind","far","spot","begin","room","size","copy"]
noncomputable def Ca:XB:=#[.assign (.tup [5,6,7]) (.tup #[.prim .len #[.var 2],.list .nil,.var 3]),.loop (.var 8) (.range #[.var 1]) #[.assign (.tup [9,10,11]) (.tup #[.sub (.list #[.const (.str 35),.const (.str 36),.const (.str 37),.const (.str 38),.const (.str 35)]) (.fn 4044 #[.var 0,!5]),.sub (.var 7) (!0),!0]),.bj (.cmp .Eq (.var 9) (.const (.str 36))) #[.assign (.var 10) (.bin .Add (!1) (.fn 4044 #[.var 0,.prim .len #[.var 2]]))] .nil,.bj (.cmp .Eq (.var 9) (.const (.str 37))) #[.assign (.var 11) (.fn 4044 #[.var 0,!4]),.assign (.var 10) (.sub (.var 7) (.var 11))] .nil,.assign (.var 12) (.bin .Sub (.prim .len #[.var 2]) (.var 10)),.assign (.var 13) (.bj (.cmp .GtE (.var 12) (.var 5)) (!25) (.bin .Sub (.bin .Sub (.var 5) (!2)) (.var 12))),.bj (.dD (.cmp .Eq (.var 9) (.const (.str 35))) (.dD (.cmp .Gt (.var 10) (.bin .Sub (.bin .Add (.var 4) (.prim .len #[.var 2])) (.var 5))) (.cmp .Lt (.var 13) (.bin .Sub (!2) (.prim .jU #[.cmp .Eq (.var 9) (.const (.str 38))]))))) #[.expr (.aZ (.var 6) 0 #[.tup #[.const (.str 35)]]),.expr (.aZ (.var 2) 0 #[.bj (.cmp .Gt (.fn 4044 #[.var 0,!3]) (!0)) (.bin .Add (!96) (.fn 4044 #[.var 0,!8])) (.fn 4044 #[.var 0,!256])]),.cont] .nil,.assign (.var 14) (.bj (.cmp .Eq (.var 9) (.const (.str 38))) (!1) (.bin .Add (!2) (.fn 4044 #[.var 0,.bin .Sub (.var 13) (!1)]))),.loop (.var 15) (.range #[.var 14]) #[.expr (.aZ (.var 2) 0 #[.sub (.var 2) (.neg (.var 10))])],.bj (.cmp .Eq (.var 9) (.const (.str 36))) #[.assign (.var 7) (.bin .Add (.list #[.var 10]) (.sliceTo (.var 7) (!3)))] .nil,.bj (.cmp .Eq (.var 9) (.const (.str 37))) #[.assign (.var 7) (.bin .Add (.bin .Add (.list #[.var 10]) (.sliceTo (.var 7) (.var 11))) (.sliceFrom (.var 7) (.bin .Add (.var 11) (!1))))] .nil,.expr (.aZ (.var 6) 0 #[.sub (.dict [36,37,38] #[.tup #[.const (.str 36),.var 10,.var 14],.tup #[.const (.str 37),.var 11,.var 14],.tup #[.const (.str 38)]]) (.var 9)])],.ret (.var 6)]
noncomputable def adJ:List Str:=#["jar","wide","props","state","ahead","text","back","place","steps","turn"]
noncomputable def Rv:XB:=#[.assign (.var 2) (.tup #[.fn 4044 #[.var 0,!9],.fn 4044 #[.var 0,!5],.fn 4044 #[.var 0,!5]]),.assign (.tup [3,4]) (.tup #[.fn 4044 #[.var 0,!12],.bin .Add (!4) (.fn 4044 #[.var 0,!6])]),.assign (.var 5) (.bin .Add (.comp 9 (.bin .Add (!96) (.fn 4044 #[.var 0,!8])) (.range #[.bin .Sub (.var 4) (!1)])) (.list #[.fn 4044 #[.var 0,!256]])),.assign (.var 6) (.comp 9 (.bin .Add (!4) (.fn 4044 #[.var 0,.bin .Sub (.var 4) (!3)])) (.range #[!4])),.assign (.var 7) (.fn 4044 #[.var 0,.sub (.list #[!70,!1,!9,.bin .Pow (!2) (!20),.bin .Pow (!10) (!9)]) (.fn 4044 #[.var 0,!5])]),.assign (.var 8) (.fn 4051 #[.var 0,.bj (.var 1) (.bin .Add (!1) (.fn 4044 #[.var 0,!4])) (!1),.var 5,.var 6,.var 7]),.ret (.dict [10,33,39,40,41,32,42] #[.var 2,.var 3,.var 4,.var 5,.var 6,.var 7,.var 8])]
noncomputable def adF:List Str:=#["row","begin","many","value","nodes","turn"]
noncomputable def Rq:XB:=#[.assign (.var 4) (.comp 5 (.bin .Add (.bin .Pow (!2) (.var 5)) (.bin .FloorDiv (.var 3) (.bin .Pow (!2) (.bin .Sub (.var 2) (.var 5))))) (.range #[.var 2])),.ret (.comp 5 (.tup #[.var 0,.bin .Add (.var 1) (.sub (.var 4) (.var 5)),.bin .Mod (.bin .FloorDiv (.var 3) (.bin .Pow (!2) (.bin .Sub (.bin .Sub (.var 2) (!1)) (.var 5)))) (!2)]) (.range #[.var 2]))]
noncomputable def adC:List Str:=#["begin","octet","beside","found","alike","more","turn"]
noncomputable def Rl:XB:=#[.assign (.var 3) (.fn 4061 #[!9,.var 0,!8,.var 1]),.bj (.cmp .Is (.var 2) (.const .none)) #[.ret (.var 3)] .nil,.assign (.var 4) (.comp 6 (.cmp .Eq (.bin .FloorDiv (.var 1) (.bin .Pow (!2) (.bin .Sub (!8) (.var 6)))) (.bin .FloorDiv (.var 2) (.bin .Pow (!2) (.bin .Sub (!8) (.var 6))))) (.range #[!8])),.assign (.var 5) (.comp 6 (.bin .Mult (.bin .Mult (!256) (.bin .Add (!1) (.bin .Mod (.bin .FloorDiv (.var 2) (.bin .Pow (!2) (.bin .Sub (!7) (.var 6)))) (!2)))) (.prim .jU #[.sub (.var 4) (.var 6)])) (.range #[!8])),.ret (.comp 6 (.tup #[!9,.bin .Add (.sub (.sub (.var 3) (.var 6)) (!1)) (.sub (.var 5) (.var 6)),.sub (.sub (.var 3) (.var 6)) (!2)]) (.range #[!8]))]
noncomputable def adD:List Str:=#["row","spot","size"]
noncomputable def Rn:XB:=#[.bj (.cmp .Lt (.var 2) (!10)) #[.ret (.bin .Add (.list #[.tup #[.var 0,!0,!0]]) (.fn 4061 #[.bin .Add (.var 0) (!1),.bin .Mult (!8) (.var 1),!3,.bin .Sub (.var 2) (!2)]))] .nil,.bj (.cmp .Lt (.var 2) (!18)) #[.ret (.bin .Add (.list #[.tup #[.var 0,!0,!1],.tup #[.var 0,!1,!0]]) (.fn 4061 #[.bin .Add (.var 0) (!2),.bin .Mult (!8) (.var 1),!3,.bin .Sub (.var 2) (!10)]))] .nil,.ret (.bin .Add (.list #[.tup #[.var 0,!0,!1],.tup #[.var 0,!1,!1]]) (.fn 4061 #[.bin .Add (.var 0) (!3),!0,!8,.bin .Sub (.var 2) (!18)]))]
noncomputable def adA:List Str:=#["far","size","slot","low","wide","mirror","turn"]
noncomputable def GY:XB:=#[.assign (.tup [2,3,4]) (.tup #[!0,!0,!0]),.while (.cmp .GtE (.bin .Sub (.var 0) (!1)) (.bin .Add (.var 3) (.bin .Pow (!2) (.var 4)))) #[.assign (.tup [3,2]) (.tup #[.bin .Add (.var 3) (.bin .Pow (!2) (.var 4)),.bin .Add (.var 2) (!1)]),.assign (.var 4) (.prim .max2 #[!0,.bin .Sub (.bin .FloorDiv (.var 2) (!2)) (!1)])],.assign (.var 5) (.prim .sum #[.comp 6 (.bin .Mult (.bin .Mod (.bin .FloorDiv (.bin .Sub (.bin .Sub (.var 0) (!1)) (.var 3)) (.bin .Pow (!2) (.var 6))) (!2)) (.bin .Pow (!2) (.bin .Sub (.bin .Sub (.var 4) (!1)) (.var 6)))) (.range #[.var 4])]),.ret (.bin .Add (.fn 4061 #[!6,.bin .Mult (!64) (.prim .min2 #[.bin .Sub (.var 1) (!2),!3]),!6,.var 2]) (.fn 4061 #[!7,.bin .Sub (.var 3) (.var 2),.var 4,.var 5]))]
noncomputable def adx:List Str:=#["step","state","spot","found"]
noncomputable def Rk:XB:=#[.bj (.dD (.cmp .Eq (.var 0) (.tup #[.const (.str 38)])) (.cmp .Eq (.sub (.var 0) (!1)) (!0))) #[.ret (.list #[.tup #[!1,.var 1,!1],.tup #[!2,.var 1,!0],.tup #[!5,.bin .Add (.bin .Mult (!16) (.var 1)) (.var 2),.prim .jU #[.cmp .NotEq (.var 0) (.tup #[.const (.str 38)])]]])] .nil,.assign (.var 3) (.list #[.tup #[!1,.var 1,!1],.tup #[!2,.var 1,!1],.tup #[!3,.var 1,.prim .jU #[.cmp .Gt (.sub (.var 0) (!1)) (!1)]]]),.ret (.bin .Add (.var 3) (.bin .Mult (.list #[.tup #[!4,.var 1,.bin .Sub (.sub (.var 0) (!1)) (!2)]]) (.prim .jU #[.cmp .Gt (.sub (.var 0) (!1)) (!1)])))]
noncomputable def ady:List Str:=#["scene","place","octets","lc","lp","pb","state","back","at","found","step","late","spot","size","before","begin"]
noncomputable def B9:XB:=#[.assign (.tup [3,4,5]) (.sub (.var 0) (.const (.str 10))),.assign (.tup [6,7,8,9]) (.tup #[.sub (.var 0) (.const (.str 33)),.sub (.var 0) (.const (.str 41)),.sub (.var 0) (.const (.str 39)),.list .nil]),.loop (.var 10) (.val (.sub (.var 0) (.const (.str 42)))) #[.assign (.tup [11,12,13]) (.tup #[.prim .jU #[.cmp .Gt (.var 6) (!6)],.bin .Mod (.var 1) (.bin .Pow (!2) (.var 5)),.bj (.cmp .Eq (.prim .len #[.var 10]) (!3)) (.sub (.var 10) (!2)) (!1)]),.expr (.aZ (.var 9) 0 #[.tup #[!0,.bin .Add (.bin .Mult (!16) (.var 6)) (.var 12),.prim .jU #[.cmp .NotEq (.var 10) (.tup #[.const (.str 35)])]]]),.bj (.cmp .Eq (.var 10) (.tup #[.const (.str 35)])) #[.assign (.var 14) (.bj (.cmp .Gt (.var 1) (!0)) (.sub (.var 2) (.bin .Sub (.var 8) (!1))) (!0)),.assign (.var 15) (.bin .Mult (!768) (.bin .Add (.bin .Mult (.bin .Mod (.var 1) (.bin .Pow (!2) (.var 4))) (.bin .Pow (!2) (.var 3))) (.bin .FloorDiv (.var 14) (.bin .Pow (!2) (.bin .Sub (!8) (.var 3)))))),.assign (.var 9) (.bin .Add (.var 9) (.fn 4066 #[.var 15,.sub (.var 2) (.var 8),.bj (.cmp .Eq (.var 11) (!1)) (.sub (.var 2) (.bin .Sub (.var 8) (.sub (.var 7) (!0)))) (.const .none)])),.assign (.var 6) (.sub (.list #[!0,!0,!0,!0,!1,!2,!3,!4,!5,!6,!4,!5]) (.var 6))] #[.bj (.cmp .Eq (.sub (.var 10) (!0)) (.const (.str 36))) #[.assign (.var 9) (.bin .Add (.bin .Add (.bin .Add (.var 9) (.list #[.tup #[!1,.var 6,!0]])) (.fn 4073 #[!10,.var 12,.var 13])) (.fn 4078 #[.sub (.var 10) (!1),.var 13])),.assign (.tup [6,7]) (.tup #[.bin .Add (!7) (.bin .Mult (!3) (.var 11)),.bin .Add (.list #[.sub (.var 10) (!1)]) (.sliceTo (.var 7) (!3))])] #[.bj (.cmp .Eq (.sub (.var 10) (!0)) (.const (.str 37))) #[.assign (.var 9) (.bin .Add (.bin .Add (.var 9) (.fn 4085 #[.var 10,.var 6,.var 12])) (.fn 4073 #[!14,.var 12,.var 13])),.assign (.tup [6,7]) (.tup #[.bin .Add (!8) (.bin .Mult (!3) (.var 11)),.bin .Add (.bin .Add (.list #[.sub (.var 7) (.sub (.var 10) (!1))]) (.sliceTo (.var 7) (.sub (.var 10) (!1)))) (.sliceFrom (.var 7) (.bin .Add (.sub (.var 10) (!1)) (!1)))])] #[.assign (.var 9) (.bin .Add (.var 9) (.fn 4085 #[.var 10,.var 6,.var 12])),.assign (.var 6) (.bin .Add (!9) (.bin .Mult (!2) (.var 11)))]]],.assign (.tup [1,8]) (.tup #[.bin .Add (.var 1) (.var 13),.bin .Add (.var 8) (.var 13)])],.ret (.tup #[.var 9,.list #[.var 1,.var 6,.var 7]])]
noncomputable def adz:List Str:=#["bits","row","found","spot","one","model"]
noncomputable def GX:XB:=#[.assign (.var 2) (.comp 1 .oA (.range #[!18])),.loop (.tup [1,3,4]) (.val (.var 0)) #[.assign (.var 5) (.aZ (.sub (.var 2) (.var 1)) 3 #[.var 3,!1024]),.assign (.sub (.sub (.var 2) (.var 1)) (.var 3)) (.bj (.cmp .Eq (.var 4) (!1)) (.bin .Sub (.var 5) (.bin .FloorDiv (.var 5) (!32))) (.bin .Add (.var 5) (.bin .FloorDiv (.bin .Sub (!2048) (.var 5)) (!32))))],.ret (.var 2)]
noncomputable def adH:List Str:=#["models","found","part"]
noncomputable def G0:XB:=#[.assign (.var 1) (.list #[.attr (.var 0) 11,.attr (.var 0) 12,.attr (.var 0) 13,.attr (.var 0) 14,.attr (.var 0) 15,.attr (.var 0) 16]),.assign (.var 1) (.bin .Add (.var 1) (.list #[.attr (.var 0) 17,.attr (.var 0) 18,.attr (.var 0) 19,.attr (.var 0) 20])),.loop (.var 2) (.val (.tup #[.attr (.var 0) 21,.attr (.var 0) 22])) #[.assign (.var 1) (.bin .Add (.var 1) (.list #[.attr (.var 2) 6,.attr (.var 2) 7,.attr (.var 2) 8,.attr (.var 2) 9]))],.ret (.var 1)]
noncomputable def adM:List Str:=#["models","found","row","learnt","spot","model"]
noncomputable def yS:XB:=#[.assign (.var 1) (.list .nil),.loop (.var 2) (.val (.fn 4104 #[.var 0])) #[.assign (.var 3) .oA,.bj (.prim .qV #[.var 2]) #[.loop (.var 4) (.val (.attr (.var 2) 1)) #[.assign (.sub (.var 3) (.var 4)) (.sub (.var 2) (.var 4))]] #[.bj (.cmp .NotEq (.var 2) (.bin .Mult (.list #[!1024]) (.prim .len #[.var 2]))) #[.loop (.tup [4,5]) (.gv (.var 2)) #[.bj (.cmp .NotEq (.var 5) (!1024)) #[.assign (.sub (.var 3) (.var 4)) (.var 5)] .nil]] .nil],.expr (.aZ (.var 1) 0 #[.var 3])],.ret (.var 1)]
noncomputable def adE:List Str:=#["scene","octet"]
noncomputable def Ro:XB:=#[.ret (.prim .bytesOf #[.bin .Add (.bin .Add (.sliceTo (.sub (.var 0) (.const (.str 40))) (.bin .Sub (.sub (.var 0) (.const (.str 39))) (!1))) (.list #[.var 1])) (.sliceFrom (.sub (.var 0) (.const (.str 40))) (.sub (.var 0) (.const (.str 39))))])]
noncomputable def adK:List Str:=#["scene","models","place","octet","octets","reps"]
noncomputable def Rw:XB:=#[.assign (.tup [4,5]) (.tup #[.fn 4118 #[.var 0,.var 3],.cls 352 #[.sub (.var 0) (.const (.str 41))]]),.ret (.fn 4030 #[.var 1,.sub (.var 0) (.const (.str 33)),.var 5,.var 2,.sub (.var 0) (.const (.str 42)),.var 4,.sub (.var 0) (.const (.str 39))])]
noncomputable def adI:List Str:=#["scene","place","octet","lc","lp","pb","octets","models","maker","spent","told","bits","behind"]
noncomputable def Rt:XB:=#[.assign (.tup [3,4,5]) (.sub (.var 0) (.const (.str 10))),.assign (.tup [6,7]) (.tup #[.fn 4118 #[.var 0,.var 2],.cls 294 #[.cls 154 #[.var 3,.var 4,.var 5]]]),.assign (.var 8) (.cls 4021 #[.var 7,.cls 464 .nil]),.expr (.aZ (.var 8) 34 #[.var 1]),.assign (.attr (.var 8) 33) (.sub (.var 0) (.const (.str 33))),.assign (.attr (.var 8) 34) (.cls 352 #[.sub (.var 0) (.const (.str 41))]),.bj (.cmp .NotEq (.aZ (.var 8) 44 #[.sub (.var 0) (.const (.str 42)),.var 6,.sub (.var 0) (.const (.str 39))]) (.prim .len #[.var 6])) #[.ret (.const .none)] .nil,.assign (.tup [9,10]) (.tup #[.fn 4125 #[.var 0,.var 7,.var 1,.var 2],.fn 4111 #[.var 7]]),.assign (.tup [11,12]) (.fn 4092 #[.var 0,.var 1,.var 6]),.bj (.dD (.cmp .NotEq (.var 10) (.fn 4097 #[.var 11])) (.cmp .NotEq (.list #[.attr (.var 8) 32,.attr (.var 8) 33,.attr (.attr (.var 8) 34) 23]) (.var 12))) #[.ret (.const .none)] .nil,.ret (.dict [43,29] #[.list #[.aZ (.attr (.var 8) 30) 24 .nil,.var 10,.var 9],.var 7])]
noncomputable def adw:List Str:=#["script","jar","scene","lc","lp","pb","whole","cut","place","octet","high","other","later","strange","unit","more","runs","kept","still","cell","run"]
noncomputable def qc:XB:=#[.assign (.var 1) (.fn 4037 #[.var 0]),.assign (.var 2) (.fn 4056 #[.var 1,.cmp .NotEq (.nt 19 (.var 19) (.val (.var 0)) (.cmp .NotEq (.var 19) (!0))) (.list .nil)]),.assign (.tup [3,4,5]) (.sub (.var 2) (.const (.str 10))),.assign (.tup [6,7,8,9]) (.tup #[.bin .Pow (!2) (.prim .max2 #[.var 4,.var 5]),.bin .Pow (!2) (.bin .Sub (!8) (.var 3)),.sub (.var 2) (.const (.str 32)),.sub (.sub (.var 2) (.const (.str 40))) (.bin .Sub (.sub (.var 2) (.const (.str 39))) (!1))]),.assign (.var 10) (.bj (.cmp .Gt (.var 8) (!0)) (.bin .FloorDiv (.var 9) (.var 7)) (!0)),.assign (.var 11) (.bin .Add (.bin .Mult (.var 10) (.var 7)) (.bin .Mod (.bin .Add (.bin .Add (.var 9) (!1)) (.fn 4044 #[.var 1,.prim .max2 #[!1,.bin .Sub (.var 7) (!1)]])) (.var 7))),.assign (.var 12) (.bin .Add (.var 8) (.bin .Mult (.var 6) (.bin .Add (!1) (.fn 4044 #[.var 1,.bin .Pow (!10) (!6)])))),.assign (.var 13) (.bin .Add (.bin .Mult (.bin .Mod (.bin .Add (.bin .Add (.var 10) (!1)) (.fn 4044 #[.var 1,.prim .max2 #[!1,.bin .Sub (.bin .Pow (!2) (.var 3)) (!1)]])) (.bin .Pow (!2) (.var 3))) (.var 7)) (.bin .Mod (.var 11) (.var 7))),.assign (.var 14) (.sub (.list #[.bin .Pow (!2) (.var 5),!1,.bin .Pow (!2) (.prim .min2 #[.var 4,.var 5])]) (.fn 4044 #[.var 1,!3])),.assign (.var 15) (.bin .Add (.bin .Mult (.var 14) (.bin .Add (!1) (.fn 4044 #[.var 1,.prim .max2 #[!1,.bin .Sub (.bin .FloorDiv (.var 6) (.var 14)) (!1)]]))) (.bin .Mult (.var 6) (.fn 4044 #[.var 1,!50]))),.assign (.var 16) (.list #[.fn 4132 #[.var 2,.var 8,.var 9],.fn 4132 #[.var 2,.var 12,.var 11]]),.assign (.var 16) (.bin .Add (.var 16) (.list #[.fn 4132 #[.var 2,.var 12,.var 13],.fn 4132 #[.var 2,.bin .Add (.var 8) (.var 15),.var 11]])),.bj (.cmp .NotEq (.nt 20 (.var 20) (.val (.var 16)) (.cmp .Is (.var 20) (.const .none))) (.list .nil)) #[.ret (.const (.bool false))] .nil,.assign (.var 17) (.sub (.sub (.var 16) (!0)) (.const (.str 43))),.bj (.dD (.cmp .NotEq (.sub (.sub (.var 16) (!1)) (.const (.str 43))) (.var 17)) (.cmp .NotEq (.fn 4125 #[.var 2,.sub (.sub (.var 16) (!0)) (.const (.str 29)),.var 12,.var 11]) (.sub (.var 17) (!2)))) #[.ret (.const (.bool false))] .nil,.bj (.aw (.dD (.cmp .NotEq (.sub (.sub (.var 2) (.const (.str 42))) (!0)) (.tup #[.const (.str 35)])) (.cmp .Eq (.var 3) (!0))) (.cmp .NotEq (.sub (.sub (.var 16) (!2)) (.const (.str 43))) (.var 17))) #[.ret (.const (.bool false))] .nil,.assign (.var 18) (.aw (.cmp .Eq (.bin .Mod (.var 15) (.bin .Pow (!2) (.var 5))) (!0)) (.dD (.cmp .Eq (.bin .Mod (.var 15) (.bin .Pow (!2) (.var 4))) (!0)) (.cmp .NotIn (.tup #[.const (.str 35)]) (.sub (.var 2) (.const (.str 42)))))),.ret (.dD (.eI (.var 18)) (.cmp .Eq (.sub (.sub (.var 16) (!3)) (.const (.str 43))) (.var 17)))]
end
section
structure Row where
 a:Nat
 cd:Nat
 st:cy
 q:Str
 nm:List Str
 np:Nat
 m:Nat
 dV:af
 pm:Str
 rk:Nat
 df:Bool
 x:XB
noncomputable def Row.ds(r:Row):List af:=if r.df then[.ref (306:Nat)] else[]
noncomputable def Row.dv(r:Row):List V:=if r.df then[.tup [.int 1,.int 1,.int 1,.int 1]] else[]
noncomputable def Row.ps(r:Row):List Str:=r.nm.take r.np
noncomputable def fc:Str:=sl "threepress.lzmastate"
noncomputable def jd:Str:=sl "threepress.rangecoder"
noncomputable def eH:Str:=sl "threepress.lzmaencode"
noncomputable def je:Str:=sl "law_tg0046_01"
noncomputable def PA:List Row:=[⟨80,79,aQ 17 0,sl "Cells.__init__",acu,2,2,.none,fc,256,false,Qq⟩,⟨94,93,aQ 17 2,sl "Cells.__getitem__",acs,2,2,.none,fc,256,false,Qp⟩,⟨101,100,aQ 17 3,sl "Cells.__setitem__",acv,3,3,.none,fc,256,false,Qs⟩,⟨115,114,aY 18,sl "fresh",adt,1,1,.none,fc,256,false,Ri⟩,⟨130,129,aQ 19 0,sl "Props.__init__",acR,4,4,.ref 123,fc,256,false,GR⟩,⟨144,143,aQ 19 2,sl "Props.literals",acS,1,1,.none,fc,256,false,QM⟩,⟨151,150,aQ 19 3,sl "Props.position",acT,2,2,.none,fc,256,false,QN⟩,⟨165,164,aY 20,sl "after_literal",adm,1,1,.none,fc,256,false,Rc⟩,⟨172,171,aY 21,sl "after_match",adn,1,1,.none,fc,256,false,Rd⟩,⟨179,178,aY 22,sl "after_rep",ado,1,1,.none,fc,256,false,Re⟩,⟨186,185,aY 23,sl "after_short",adp,1,1,.none,fc,256,false,Rg⟩,⟨193,192,aY 24,sl "is_after_literal",adu,1,1,.none,fc,256,false,Rj⟩]
noncomputable def PB:List Row:=[⟨200,199,aY 25,sl "length_state",adN,1,1,.none,fc,256,false,Rx⟩,⟨207,206,aY 26,sl "slot_base",adW,1,1,.none,fc,256,false,RH⟩,⟨214,213,aY 27,sl "slot_of",adX,1,1,.none,fc,256,false,RJ⟩,⟨228,227,aQ 28 0,sl "LengthModels.__init__",acw,2,2,.none,fc,256,false,Qt⟩,⟨235,234,aQ 28 1,sl "LengthModels.reset",acy,1,1,.none,fc,256,false,Qu⟩,⟨256,255,aQ 29 0,sl "Models.__init__",acM,2,2,.none,fc,256,false,QH⟩,⟨263,262,aQ 29 1,sl "Models.reset",acO,1,1,.none,fc,256,false,QJ⟩,⟨270,269,aQ 29 2,sl "Models.cell",acL,3,3,.none,fc,256,false,QG⟩,⟨277,276,aQ 29 3,sl "Models.slot_start",acP,2,2,.none,fc,256,false,QK⟩,⟨284,283,aQ 29 4,sl "Models.special_start",acQ,2,2,.none,fc,256,false,QL⟩,⟨291,290,aQ 29 5,sl "Models.literal_start",acN,3,3,.none,fc,256,false,QI⟩,⟨314,313,aQ 30 0,sl "Reps.__init__",Nv,2,2,.ref 307,fc,256,false,B8⟩]
noncomputable def PC:List Row:=[⟨314,313,aQ 30 0,sl "Reps.__init__",Nv,2,1,.ref 307,fc,256,true,B8⟩,⟨328,327,aQ 30 2,sl "Reps.first",ac4,1,1,.none,fc,256,false,QW⟩,⟨335,334,aQ 30 3,sl "Reps.use",ac6,2,2,.none,fc,256,false,QY⟩,⟨342,341,aQ 30 4,sl "Reps.put",ac5,2,2,.none,fc,256,false,QX⟩,⟨349,348,aQ 30 5,sl "Reps.copy",ac3,1,1,.none,fc,256,false,QU⟩,⟨363,362,aY 43,sl "next_model",adS,2,2,.none,jd,659,false,RD⟩,⟨370,369,aY 44,sl "need_bit",adO,1,1,.none,jd,659,false,Ry⟩,⟨377,376,aY 45,sl "need_value",adQ,2,2,.none,jd,659,false,RB⟩,⟨384,383,aY 46,sl "turned",ad1,2,2,.none,jd,659,false,G6⟩,⟨398,397,aQ 47 0,sl "RangeWriter.__init__",acY,1,1,.none,jd,659,false,QR⟩,⟨405,404,aQ 47 1,sl "RangeWriter.shift",ac1,1,1,.none,jd,659,false,QT⟩,⟨412,411,aQ 47 2,sl "RangeWriter.fill",acX,1,1,.none,jd,659,false,QQ⟩]
noncomputable def PE:List Row:=[⟨419,418,aQ 47 3,sl "RangeWriter.need_open",acZ,1,1,.none,jd,659,false,QS⟩,⟨426,425,aQ 47 4,sl "RangeWriter.bit",acU,4,4,.none,jd,659,false,QO⟩,⟨433,432,aQ 47 5,sl "RangeWriter.direct",acV,3,3,.none,jd,659,false,aiI⟩,⟨440,439,aQ 47 6,sl "RangeWriter.tree",ac2,5,5,.none,jd,659,false,GU⟩,⟨447,446,aQ 47 7,sl "RangeWriter.reverse",ac0,5,5,.none,jd,659,false,GT⟩,⟨461,460,aQ 47 9,sl "RangeWriter.done",acW,1,1,.none,jd,659,false,QP⟩,⟨3709,3708,aY 51,sl "bit_price",adq,2,2,.none,jd,659,false,Rh⟩,⟨3716,3715,aY 52,sl "direct_price",ads,1,1,.none,jd,659,false,aiK⟩,⟨3723,3722,aY 53,sl "tree_price",ad0,4,4,.none,jd,659,false,G5⟩,⟨3730,3729,aY 54,sl "reverse_price",adV,4,4,.none,jd,659,false,RG⟩,⟨3738,3737,aY 57,sl "need_whole",adR,2,2,.none,eH,10148,false,RC⟩,⟨3745,3744,aY 58,sl "need_number",adP,4,4,.none,eH,10148,false,Rz⟩]
noncomputable def PF:List Row:=[⟨3752,3751,aY 59,sl "step_length",adY,1,1,.none,eH,10148,false,RK⟩,⟨3759,3758,aY 60,sl "repeats",adU,4,4,.none,eH,10148,false,G4⟩,⟨3766,3765,aY 61,sl "octet_behind",adT,3,3,.none,eH,10148,false,RE⟩,⟨3780,3779,aQ 62 0,sl "StepCoder.__init__",ac7,3,3,.none,eH,10148,false,QZ⟩,⟨3787,3786,aQ 62 1,sl "StepCoder.put_literal",adb,6,6,.none,eH,10148,false,Q4⟩,⟨3794,3793,aQ 62 2,sl "StepCoder.put_plain",ade,5,5,.none,eH,10148,false,GW⟩,⟨3801,3800,aQ 62 3,sl "StepCoder.put_beside",ac8,4,4,.none,eH,10148,false,GV⟩,⟨3808,3807,aQ 62 4,sl "StepCoder.put_length",ada,4,4,.none,eH,10148,false,Q3⟩,⟨3815,3814,aQ 62 5,sl "StepCoder.put_distance",ac9,3,3,.none,eH,10148,false,Q0⟩,⟨3822,3821,aQ 62 6,sl "StepCoder.put_match",adc,5,5,.none,eH,10148,false,Q5⟩,⟨3829,3828,aQ 62 7,sl "StepCoder.put_index",ac',4,4,.none,eH,10148,false,Q2⟩,⟨3836,3835,aQ 62 8,sl "StepCoder.put_rep",adf,5,5,.none,eH,10148,false,Q6⟩]
noncomputable def PG:List Row:=[⟨3843,3842,aQ 62 9,sl "StepCoder.put_short",adg,3,3,.none,eH,10148,false,Q7⟩,⟨3864,3863,aQ 63 0,sl "StepMeter.__init__",adj,1,1,.none,eH,10148,false,Q9⟩,⟨3871,3870,aQ 63 1,sl "StepMeter.bit",adh,4,4,.none,eH,10148,false,Q8⟩,⟨3878,3877,aQ 63 2,sl "StepMeter.direct",adi,3,3,.none,eH,10148,false,aiJ⟩,⟨3885,3884,aQ 63 3,sl "StepMeter.tree",adl,5,5,.none,eH,10148,false,Rb⟩,⟨3892,3891,aQ 63 4,sl "StepMeter.reverse",adk,5,5,.none,eH,10148,false,Ra⟩,⟨3913,3912,aQ 64 0,sl "LzmaWriter.__init__",acC,3,3,.none,eH,10148,false,Qy⟩,⟨3934,3933,aQ 64 3,sl "LzmaWriter.passed",acG,2,2,.none,eH,10148,false,QC⟩,⟨3941,3940,aQ 64 4,sl "LzmaWriter.check_back",acz,2,2,.none,eH,10148,false,Qv⟩,⟨3948,3947,aQ 64 5,sl "LzmaWriter.check_length",acA,2,2,.none,eH,10148,false,Qw⟩,⟨3955,3954,aQ 64 6,sl "LzmaWriter.literal",acD,4,4,.none,eH,10148,false,GP⟩,⟨3962,3961,aQ 64 7,sl "LzmaWriter.match",acE,3,3,.none,eH,10148,false,Qz⟩]
noncomputable def PH:List Row:=[⟨3969,3968,aQ 64 8,sl "LzmaWriter.rep",acH,3,3,.none,eH,10148,false,QD⟩,⟨3976,3975,aQ 64 9,sl "LzmaWriter.short",acI,1,1,.none,eH,10148,false,QE⟩,⟨3990,3989,aQ 64 11,sl "LzmaWriter.matched_octet",acF,3,3,.none,eH,10148,false,QA⟩,⟨3997,3996,aQ 64 12,sl "LzmaWriter.distance_of",acB,2,2,.none,eH,10148,false,Qx⟩,⟨4004,4003,aQ 64 13,sl "LzmaWriter.write_step",acJ,4,4,.none,eH,10148,false,QF⟩,⟨4011,4010,aQ 64 14,sl "LzmaWriter.write_steps",acK,4,4,.none,eH,10148,false,GQ⟩,⟨4030,4029,aY 65,sl "steps_price",adZ,7,7,.none,eH,10148,false,RM⟩,⟨4037,4036,aY 67,sl "_law_jar",adB,1,1,.none,je,10583,false,GZ⟩,⟨4044,4043,aY 68,sl "_law_pick",adG,2,2,.none,je,10583,false,Rr⟩,⟨4051,4050,aY 69,sl "_law_steps",adL,5,5,.none,je,10583,false,Ca⟩,⟨4056,4055,aY 70,sl "_law_scene",adJ,2,2,.none,je,10583,false,Rv⟩,⟨4061,4060,aY 71,sl "_law_path",adF,4,4,.none,je,10583,false,Rq⟩]
noncomputable def PI:List Row:=[⟨4066,4065,aY 72,sl "_law_letter",adC,3,3,.none,je,10583,false,Rl⟩,⟨4073,4072,aY 73,sl "_law_many",adD,3,3,.none,je,10583,false,Rn⟩,⟨4078,4077,aY 74,sl "_law_far",adA,2,2,.none,je,10583,false,GY⟩,⟨4085,4084,aY 75,sl "_law_again",adx,3,3,.none,je,10583,false,Rk⟩,⟨4092,4091,aY 76,sl "_law_bits",ady,3,3,.none,je,10583,false,B9⟩,⟨4097,4096,aY 77,sl "_law_due",adz,1,1,.none,je,10583,false,GX⟩,⟨4104,4103,aY 78,sl "_law_rows",adH,1,1,.none,je,10583,false,G0⟩,⟨4111,4110,aY 79,sl "_law_told",adM,1,1,.none,je,10583,false,yS⟩,⟨4118,4117,aY 80,sl "_law_octets",adE,2,2,.none,je,10583,false,Ro⟩,⟨4125,4124,aY 81,sl "_law_spent",adK,4,4,.none,je,10583,false,Rw⟩,⟨4132,4131,aY 82,sl "_law_run",adI,3,3,.none,je,10583,false,Rt⟩,⟨4137,4136,aY 83,sl "law",adw,1,1,.none,je,10583,false,qc⟩]
noncomputable def Gy:List Row:=PA++(PB++(PC++(PE++(PF++(PG++(PH++(PI)))))))
noncomputable def strAt(o:Option af)(q:Str):Bool:=oB o λv=>if h:v.ctorIdx=6 then CL (motive:=λY=>Bool) v h λs Y=>decide (s=q) else false
theorem aht(h:strAt o q=true):∃t,o=some (.str q t):=jg h λv e h=>fg h λi h=>
 CL (motive:=λv=>∀i,CL (motive:=λY=>Bool) v i (λs Y=>decide (s=q))=true->o=some v->∃t,o=some (.str q t)) v i (λs t Y h e=>⟨t,aW h▸e⟩) i h e
noncomputable def Mx(q:Str)(o:Obj):Bool:=if h:o.data.ctorIdx=9 then HT (motive:=λY=>Bool) o.data h λvs=>strAt vs[1]? q else false
theorem aaX(h:Mx q o=true):∃vs t,o.data=.fields vs/\vs[1]?=some (.str q t):=fg h λi h=>
 HT (motive:=λd=>∀i,HT (motive:=λY=>Bool) d i (λvs=>strAt vs[1]? q)=true->∃vs t,d=.fields vs/\vs[1]?=some (.str q t)) o.data i (λvs Y h=>by obtain⟨t,e⟩:=aht h;exact⟨vs,t,rfl,e⟩) i h
noncomputable def ck(r:Row):Bool:=dP (r.m+r.dv.length) r.ps.length&&(decide ((gg r.st).kind=.function)&&(!(gg r.st).isCoroutine&&(!(gg r.st).isGenerator&&(decide r.nm.Nodup&&(decide r.ps.Nodup&&(r.ps.all (kH (gg r.st))&&decide ((cellsFrom 0 (gg r.st).names []).map (·.1)).Nodup))))))
structure oi(L:List Row):Prop where
 o:∀P,L.map (λr=>(K P).lookup r.a)=L.map λr=>some (D5 r.st r.q r.dV r.cd r.pm r.rk)
 b:∀P u S,L.map (λr=>peek (K P) S (bindArgs (fdOf r.st r.q r.dV (.ref r.cd) (.str r.pm r.rk) .none) ⟨(bV r.m).map u,[]⟩))=L.map λr=>some (r.ps.zip ((bV r.m).map u++r.ds))
 c:L.all ck=true
 d:∀P,L.all (λr=>oB ((K P).lookup r.cd) (Mx r.q))=true
 t:L.all (λr=>Fj r.nm r.st r.x)=true
theorem tk0:oi PA:=⟨λP=>by rfl',λP u S=>by rfl',by rfl',λP=>by rfl',by rfl'⟩
theorem tk1:oi PB:=⟨λP=>by rfl',λP u S=>by rfl',by rfl',λP=>by rfl',by rfl'⟩
theorem tk2:oi PC:=⟨λP=>by rfl',λP u S=>by rfl',by rfl',λP=>by rfl',by rfl'⟩
theorem tk3:oi PE:=⟨λP=>by rfl',λP u S=>by rfl',by rfl',λP=>by rfl',by rfl'⟩
theorem tk4:oi PF:=⟨λP=>by rfl',λP u S=>by rfl',by rfl',λP=>by rfl',by rfl'⟩
theorem tk5:oi PG:=⟨λP=>by rfl',λP u S=>by rfl',by rfl',λP=>by rfl',by rfl'⟩
theorem tk6:oi PH:=⟨λP=>by rfl',λP u S=>by rfl',by rfl',λP=>by rfl',by rfl'⟩
theorem tk7:oi PI:=⟨λP=>by rfl',λP u S=>by rfl',by rfl',λP=>by rfl',by rfl'⟩
theorem afn(P:cE){W:Wd}(X:(K P).In h):RL h W N [.tup [.int 1,.int 1,.int 1,.int 1]] [.ref (306:Nat)]:=
 ⟨_,_,rfl,⟨_,_,rfl,⟨_,X _ NH (by rfl'),rfl,_,rfl⟩,_,_,rfl,⟨_,rfl⟩,_,_,rfl,⟨_,rfl⟩,_,_,rfl,⟨_,rfl⟩,_,_,rfl,⟨_,rfl⟩,rfl⟩,rfl⟩
theorem Row.Xd(r:Row)(P:cE){W:Wd}(X:(K P).In h):RL h W N r.dv r.ds:=by
 unfold Row.dv Row.ds
 cases r.df with
 |false=>exact rfl
 |true=>exact afn P X
def IZ(r:Row):Prop:=IT r.a r.cd r.st r.q r.ps r.nm r.m r.dv/\Fj r.nm r.st r.x=true
theorem P3:∀us:List af,us=(bV us.length).map λi=>us.getD i .none
 |[]=>rfl
 |u::r=>by rw [fJ,Sw,jk,qj];exact congrArg (u:: ·) (P3 r)
theorem ahH{l:List Str}{n i:Nat}{x:Str}(e:(l.take n)[i]?=some x):l[i]?=some x:=by
 rw [Ti] at e
 by_cases q:i<n
 ·exact(if_pos q▸e:)
 ·exact nomatch (if_neg q▸e:)
theorem oi.row{L:List Row}(h:oi L)(r:Row)(V:r∈L):IZ r:=by
 refine⟨?_,jM.mp h.t r V⟩
 refine aw (jM.mp h.c r V) λZ c=>aw c λH c=>aw c λJ c=>aw c λO c=>aw c λU c=>aw c λY c=>aw c λc7 c8=>?_
 exact{
  obj:=λP=>⟨r.dV,r.pm,r.rk,r.ds,Tt.mp (h.o P) r V,λus e S=>(P3 us).symm▸e▸Tt.mp (h.b P (λi=>us.getD i .none) S) r V,λh W N X=>r.Xd P X⟩
  len:=jJ Z
  J6:=λP=>jg (jM.mp (h.d P) r V) λo e c=>by obtain⟨vs,t,e1,e2⟩:=aaX c;exact⟨o,vs,t,e,e1,e2⟩
  kind:=aW H
  co:=eI J
  gen:=eI O
  nd:=aW U
  pd:=aW Y
  pre:=λi x e=>ahH e
  bound:=λx hx=>qY (jM.mp c7 x hx)
  cells:=aW c8}
theorem ahG(r:Row)(h:r∈Gy):IZ r:=
 (kj.mp h).elim (tk0.row r) λh=>(kj.mp h).elim (tk1.row r) λh=>(kj.mp h).elim (tk2.row r) λh=>(kj.mp h).elim (tk3.row r) λh=>(kj.mp h).elim (tk4.row r) λh=>(kj.mp h).elim (tk5.row r) λh=>(kj.mp h).elim (tk6.row r) λh=>tk7.row r h
noncomputable def ae:Nat->bK
 |0=>λY=>none
 |k+1=>λa=>if Gy.any (λr=>dP r.a a)=true then some (λvs σ=>(Gy.find? λr=>dP r.a a&&dP r.m vs.length).bind λr=>bq (ae k) r.nm.length r.x (vs++r.dv) σ) else none
theorem Od:∀k,i4 (ae k) (4*k)
 |0=>λa f h=>nomatch h
 |k+1=>λa f h=>cf h λY h=>bT h▸λV T H h q=>dz h λr e h=>aw (HW (p:=λr:Row=>dP r.a a&&dP r.m _) e) λJ O=>let⟨F,t⟩:=ahG r (G9 e)
  jJ J▸Wv F (aes (Od k) (cY _) F.nd t) (V.le (cY _)) T H (jJ O).symm h q
end
def IW:Prop:=∀(xs:List Int) (o:Obj),xs.length<=63->∃σ',am (ae 20) 4137 [.ref 0] [.jT (xs.map .int) o]=some (.bool true,σ')/\σ'[0]?=some (.jT (xs.map .int) o)
theorem Mw{W:Wd}:∀{vs:List af} {xs:List Int},wE vs xs->RL h W N (xs.map .int) vs
 |_,_,.nil=>rfl
 |_,_,.cons i t r=>⟨_,_,rfl,⟨t,rfl⟩,Mw r⟩
theorem WB(L:IW):C4:=by
 intro w s l vs n xs hK hg O J hx V Z jx
 obtain⟨σ',hL,h0⟩:=L xs {cls:=.type "list",data:=.seq vs n} V
 have T:St w s ⟨λY=>l,λY=>l⟩ [.jT (xs.map .int) {cls:=.type "list",data:=.seq vs n}] s:=
  ⟨⟨s.heap,s.toks,rfl⟩,hK,λm c e=>by
    obtain rfl:m=0:=H9.mp (gC.mp e).1
    cases e
    exact⟨J,vs.toList,n,rfl,Mw hx⟩,
   λm hm=>⟨O,O⟩,λm m' h1 h2 H=>absurd ((H9.mp h1).trans (H9.mp h2).symm) H,λm hm=>⟨⟨_,J⟩,⟨_,J⟩⟩⟩
 refine uT (Od 20) (A:=callerA) ⟨rfl,rfl,by decide,by decide⟩ T (us:=[.ref l]) (vs:=[.ref 0]) ⟨_,_,rfl,⟨TY,rfl⟩,rfl⟩ hL λv s' W' T' U R'=>?_
 cases R'
 obtain⟨h',k,e⟩:=T'.same
 refine⟨rfl,?_,by rw [e],by rw [e,hg];exact .empty⟩
 refine .of_keep λb o' eb=>?_
 by_cases q:b=l
 ·subst q
  have c:=(T'.cell 0 _ h0).1
  rw [U.grow.pi 0 TY] at c
  exact c.trans (J.symm.trans eb)
 ·exact U.keep b o' eb (λn hn=>⟨q,q⟩) (λh=>nomatch h)
section
variable {k:Nat}{a0 a1 a2 a3 a4 a5 a6 a7:V}
theorem Xk:am (ae (k+1)) 80 [a0,a1]=bq (ae k) 2 Qq [a0,a1]:=by rfl'
theorem Xj:am (ae (k+1)) 94 [a0,a1]=bq (ae k) 2 Qp [a0,a1]:=by rfl'
theorem Xl:am (ae (k+1)) 101 [a0,a1,a2]=bq (ae k) 3 Qs [a0,a1,a2]:=by rfl'
theorem Ky:am (ae (k+1)) 115 [a0]=bq (ae k) 1 Ri [a0]:=by rfl'
theorem XH:am (ae (k+1)) 130 [a0,a1,a2,a3]=bq (ae k) 6 GR [a0,a1,a2,a3]:=by rfl'
theorem XJ:am (ae (k+1)) 144 [a0]=bq (ae k) 1 QM [a0]:=by rfl'
theorem XK:am (ae (k+1)) 151 [a0,a1]=bq (ae k) 2 QN [a0,a1]:=by rfl'
theorem DT:am (ae (k+1)) 165 [a0]=bq (ae k) 1 Rc [a0]:=by rfl'
theorem Ku:am (ae (k+1)) 172 [a0]=bq (ae k) 1 Rd [a0]:=by rfl'
theorem Kv:am (ae (k+1)) 179 [a0]=bq (ae k) 1 Re [a0]:=by rfl'
theorem Kw:am (ae (k+1)) 186 [a0]=bq (ae k) 1 Rg [a0]:=by rfl'
theorem Ym:am (ae (k+1)) 193 [a0]=bq (ae k) 1 Rj [a0]:=by rfl'
theorem Yz:am (ae (k+1)) 200 [a0]=bq (ae k) 1 Rx [a0]:=by rfl'
theorem KJ:am (ae (k+1)) 207 [a0]=bq (ae k) 2 RH [a0]:=by rfl'
theorem KM:am (ae (k+1)) 214 [a0]=bq (ae k) 6 RJ [a0]:=by rfl'
theorem Xm:am (ae (k+1)) 228 [a0,a1]=bq (ae k) 2 Qt [a0,a1]:=by rfl'
theorem Xn:am (ae (k+1)) 235 [a0]=bq (ae k) 1 Qu [a0]:=by rfl'
theorem Xz:am (ae (k+1)) 256 [a0,a1]=bq (ae k) 2 QH [a0,a1]:=by rfl'
theorem XD:am (ae (k+1)) 263 [a0]=bq (ae k) 1 QJ [a0]:=by rfl'
theorem Xy:am (ae (k+1)) 270 [a0,a1,a2]=bq (ae k) 3 QG [a0,a1,a2]:=by rfl'
theorem XF:am (ae (k+1)) 277 [a0,a1]=bq (ae k) 2 QK [a0,a1]:=by rfl'
theorem XG:am (ae (k+1)) 284 [a0,a1]=bq (ae k) 4 QL [a0,a1]:=by rfl'
theorem XA:am (ae (k+1)) 291 [a0,a1,a2]=bq (ae k) 4 QI [a0,a1,a2]:=by rfl'
theorem XW:am (ae (k+1)) 314 [a0,a1]=bq (ae k) 2 B8 [a0,a1]:=by rfl'
theorem XX:am (ae (k+1)) 314 [a0]=bq (ae k) 2 B8 [a0,.tup [.int 1,.int 1,.int 1,.int 1]]:=by rfl'
theorem XV:am (ae (k+1)) 328 [a0]=bq (ae k) 1 QW [a0]:=by rfl'
theorem XZ:am (ae (k+1)) 335 [a0,a1]=bq (ae k) 3 QY [a0,a1]:=by rfl'
theorem XY:am (ae (k+1)) 342 [a0,a1]=bq (ae k) 2 QX [a0,a1]:=by rfl'
theorem XU:am (ae (k+1)) 349 [a0]=bq (ae k) 1 QU [a0]:=by rfl'
theorem KH:am (ae (k+1)) 363 [a0,a1]=bq (ae k) 2 RD [a0,a1]:=by rfl'
theorem KD:am (ae (k+1)) 370 [a0]=bq (ae k) 1 Ry [a0]:=by rfl'
theorem YA:am (ae (k+1)) 377 [a0,a1]=bq (ae k) 2 RB [a0,a1]:=by rfl'
theorem YH:am (ae (k+1)) 384 [a0,a1]=bq (ae k) 4 G6 [a0,a1]:=by rfl'
theorem XN:am (ae (k+1)) 398 [a0]=bq (ae k) 1 QR [a0]:=by rfl'
theorem DQ:am (ae (k+1)) 405 [a0]=bq (ae k) 2 QT [a0]:=by rfl'
theorem Kp:am (ae (k+1)) 412 [a0]=bq (ae k) 1 QQ [a0]:=by rfl'
theorem XO:am (ae (k+1)) 419 [a0]=bq (ae k) 1 QS [a0]:=by rfl'
theorem Ko:am (ae (k+1)) 426 [a0,a1,a2,a3]=bq (ae k) 6 QO [a0,a1,a2,a3]:=by rfl'
theorem XR:am (ae (k+1)) 440 [a0,a1,a2,a3,a4]=bq (ae k) 8 GU [a0,a1,a2,a3,a4]:=by rfl'
theorem XQ:am (ae (k+1)) 447 [a0,a1,a2,a3,a4]=bq (ae k) 8 GT [a0,a1,a2,a3,a4]:=by rfl'
theorem XM:am (ae (k+1)) 461 [a0]=bq (ae k) 2 QP [a0]:=by rfl'
theorem Kx:am (ae (k+1)) 3709 [a0,a1]=bq (ae k) 3 Rh [a0,a1]:=by rfl'
theorem YG:am (ae (k+1)) 3723 [a0,a1,a2,a3]=bq (ae k) 8 G5 [a0,a1,a2,a3]:=by rfl'
theorem YE:am (ae (k+1)) 3730 [a0,a1,a2,a3]=bq (ae k) 4 RG [a0,a1,a2,a3]:=by rfl'
theorem YB:am (ae (k+1)) 3738 [a0,a1]=bq (ae k) 2 RC [a0,a1]:=by rfl'
theorem KG:am (ae (k+1)) 3745 [a0,a1,a2,a3]=bq (ae k) 4 Rz [a0,a1,a2,a3]:=by rfl'
theorem Ar:am (ae (k+1)) 3752 [a0]=bq (ae k) 1 RK [a0]:=by rfl'
theorem YD:am (ae (k+1)) 3759 [a0,a1,a2,a3]=bq (ae k) 5 G4 [a0,a1,a2,a3]:=by rfl'
theorem YC:am (ae (k+1)) 3766 [a0,a1,a2]=bq (ae k) 3 RE [a0,a1,a2]:=by rfl'
theorem Yc:am (ae (k+1)) 3780 [a0,a1,a2]=bq (ae k) 3 QZ [a0,a1,a2]:=by rfl'
theorem Ks:am (ae (k+1)) 3787 [a0,a1,a2,a3,a4,a5]=bq (ae k) 7 Q4 [a0,a1,a2,a3,a4,a5]:=by rfl'
theorem Ye:am (ae (k+1)) 3794 [a0,a1,a2,a3,a4]=bq (ae k) 7 GW [a0,a1,a2,a3,a4]:=by rfl'
theorem Kq:am (ae (k+1)) 3801 [a0,a1,a2,a3]=bq (ae k) 8 GV [a0,a1,a2,a3]:=by rfl'
theorem DS:am (ae (k+1)) 3808 [a0,a1,a2,a3]=bq (ae k) 6 Q3 [a0,a1,a2,a3]:=by rfl'
theorem Kr:am (ae (k+1)) 3815 [a0,a1,a2]=bq (ae k) 7 Q0 [a0,a1,a2]:=by rfl'
theorem Yd:am (ae (k+1)) 3822 [a0,a1,a2,a3,a4]=bq (ae k) 5 Q5 [a0,a1,a2,a3,a4]:=by rfl'
theorem DR:am (ae (k+1)) 3829 [a0,a1,a2,a3]=bq (ae k) 4 Q2 [a0,a1,a2,a3]:=by rfl'
theorem Yg:am (ae (k+1)) 3836 [a0,a1,a2,a3,a4]=bq (ae k) 5 Q6 [a0,a1,a2,a3,a4]:=by rfl'
theorem Yh:am (ae (k+1)) 3843 [a0,a1,a2]=bq (ae k) 3 Q7 [a0,a1,a2]:=by rfl'
theorem Yj:am (ae (k+1)) 3864 [a0]=bq (ae k) 1 Q9 [a0]:=by rfl'
theorem Yi:am (ae (k+1)) 3871 [a0,a1,a2,a3]=bq (ae k) 4 Q8 [a0,a1,a2,a3]:=by rfl'
theorem Yl:am (ae (k+1)) 3885 [a0,a1,a2,a3,a4]=bq (ae k) 5 Rb [a0,a1,a2,a3,a4]:=by rfl'
theorem Yk:am (ae (k+1)) 3892 [a0,a1,a2,a3,a4]=bq (ae k) 5 Ra [a0,a1,a2,a3,a4]:=by rfl'
theorem Xq:am (ae (k+1)) 3913 [a0,a1,a2]=bq (ae k) 3 Qy [a0,a1,a2]:=by rfl'
theorem Xu:am (ae (k+1)) 3934 [a0,a1]=bq (ae k) 2 QC [a0,a1]:=by rfl'
theorem Xo:am (ae (k+1)) 3941 [a0,a1]=bq (ae k) 2 Qv [a0,a1]:=by rfl'
theorem Xp:am (ae (k+1)) 3948 [a0,a1]=bq (ae k) 2 Qw [a0,a1]:=by rfl'
theorem Xr:am (ae (k+1)) 3955 [a0,a1,a2,a3]=bq (ae k) 5 GP [a0,a1,a2,a3]:=by rfl'
theorem Xs:am (ae (k+1)) 3962 [a0,a1,a2]=bq (ae k) 3 Qz [a0,a1,a2]:=by rfl'
theorem Xv:am (ae (k+1)) 3969 [a0,a1,a2]=bq (ae k) 3 QD [a0,a1,a2]:=by rfl'
theorem Xw:am (ae (k+1)) 3976 [a0]=bq (ae k) 1 QE [a0]:=by rfl'
theorem Kn:am (ae (k+1)) 3990 [a0,a1,a2]=bq (ae k) 3 QA [a0,a1,a2]:=by rfl'
theorem DP:am (ae (k+1)) 3997 [a0,a1]=bq (ae k) 2 Qx [a0,a1]:=by rfl'
theorem xo:am (ae (k+1)) 4004 [a0,a1,a2,a3]=bq (ae k) 7 QF [a0,a1,a2,a3]:=by rfl'
theorem Xx:am (ae (k+1)) 4011 [a0,a1,a2,a3]=bq (ae k) 6 GQ [a0,a1,a2,a3]:=by rfl'
theorem YF:am (ae (k+1)) 4030 [a0,a1,a2,a3,a4,a5,a6]=bq (ae k) 8 RM [a0,a1,a2,a3,a4,a5,a6]:=by rfl'
theorem Yr:am (ae (k+1)) 4037 [a0]=bq (ae k) 4 GZ [a0]:=by rfl'
theorem KA:am (ae (k+1)) 4044 [a0,a1]=bq (ae k) 3 Rr [a0,a1]:=by rfl'
theorem Yx:am (ae (k+1)) 4051 [a0,a1,a2,a3,a4]=bq (ae k) 16 Ca [a0,a1,a2,a3,a4]:=by rfl'
theorem KB:am (ae (k+1)) 4056 [a0,a1]=bq (ae k) 10 Rv [a0,a1]:=by rfl'
theorem Yt:am (ae (k+1)) 4061 [a0,a1,a2,a3]=bq (ae k) 6 Rq [a0,a1,a2,a3]:=by rfl'
theorem Kz:am (ae (k+1)) 4066 [a0,a1,a2]=bq (ae k) 7 Rl [a0,a1,a2]:=by rfl'
theorem DU:am (ae (k+1)) 4073 [a0,a1,a2]=bq (ae k) 3 Rn [a0,a1,a2]:=by rfl'
theorem Yq:am (ae (k+1)) 4078 [a0,a1]=bq (ae k) 7 GY [a0,a1]:=by rfl'
theorem Aq:am (ae (k+1)) 4085 [a0,a1,a2]=bq (ae k) 4 Rk [a0,a1,a2]:=by rfl'
theorem Yo:am (ae (k+1)) 4092 [a0,a1,a2]=bq (ae k) 16 B9 [a0,a1,a2]:=by rfl'
theorem Yp:am (ae (k+1)) 4097 [a0]=bq (ae k) 6 GX [a0]:=by rfl'
theorem Yu:am (ae (k+1)) 4104 [a0]=bq (ae k) 3 G0 [a0]:=by rfl'
theorem Yy:am (ae (k+1)) 4111 [a0]=bq (ae k) 6 yS [a0]:=by rfl'
theorem Ys:am (ae (k+1)) 4118 [a0,a1]=bq (ae k) 2 Ro [a0,a1]:=by rfl'
theorem Yw:am (ae (k+1)) 4125 [a0,a1,a2,a3]=bq (ae k) 6 Rw [a0,a1,a2,a3]:=by rfl'
theorem Yv:am (ae (k+1)) 4132 [a0,a1,a2]=bq (ae k) 13 Rt [a0,a1,a2]:=by rfl'
theorem Yn:am (ae (k+1)) 4137 [a0]=bq (ae k) 21 qc [a0]:=by rfl'
end
section
section
variable {φ:bK}{σ σ':AH}{x y:Int}
theorem intBits_le(h:x.natAbs<2^n):eF x<=n:=by
 unfold eF
 split
 ·exact uy _
 ·rename_i q
  exact(Nat.log2_lt (λe=>q (beq_iff_eq.mpr (Int.natAbs_eq_zero.mp e)))).mpr h
theorem nJ(h:x.natAbs<18446744073709551616\/y.natAbs<18446744073709551616):intOp .Mult x y=some (x*y):=if_pos (by
  unfold yi
  rw [HE,Hs,Hs]
  exact .inl (h.imp (λh=>decide_eq_false (gQ.mpr (intBits_le (n:=64) h))) λh=>decide_eq_false (gQ.mpr (intBits_le (n:=64) h))))
theorem fi(h:lI x.natAbs 18446744073709551616=true):intOp .Mult x y=some (x*y):=nJ (.inl (Nat.blt_eq.mp h))
theorem Nu(h:lI y.natAbs 18446744073709551616=true):intOp .Mult x y=some (x*y):=nJ (.inr (Nat.blt_eq.mp h))
theorem qM(h:0<y/\y<1073741824):intOp .FloorDiv x y=some (x/y):=(if_pos h).trans (congrArg some (G8 _ (iA h.1)))
theorem li(h:0<y):intOp .Mod x y=some (x%y):=(if_pos h).trans (congrArg some (Int.fmod_eq_emod_of_nonneg _ (iA h)))
theorem tH(h:0<=y/\y<=1000/\x.natAbs<2^64):intOp .Pow x y=some (x^y.toNat):=if_pos h
theorem lw(h:0<=y/\y<=1000/\x.natAbs<2^64):intOp .LShift x y=some (x*2^y.toNat):=if_pos h
theorem jG(h:0<=y):intOp .RShift x y=some (x/2^y.toNat):=(if_pos h).trans (congrArg some (G8 _ (iA (g7 ∅))))
theorem fQ{α:Type}{a b:Option α}{x:α}(h:a=some x):eA a b=some x:=by rw [h];rfl
theorem gV{α:Type}{a b x:Option α}(h:a=none)(J:b=x):eA a b=x:=by rw [h];exact J
theorem N9{α:Type}(a:Option α):eA a none=a:=by cases a<;>rfl
theorem pN(H:oQ C 5=some a)(h:am φ a (.ref σ.length::l) (σ++[.obj C []])=some (.none,σ')):mu φ C l σ=some (.ref σ.length,σ'):=bI H (by unfold B5;rw [h];rfl)
theorem VQ(h:0<b.size/\b.size<=16/\ -1000<=k/\k<=1000):kZ .Mult (.bytes b) (.int k) σ=some (.bytes (dO k.toNat b.toList).flatten.toArray,σ):=if_pos (c:=Operator.Mult=.Mult/\_) ⟨rfl,h⟩
theorem iR(h:x<y):dX .Lt (.int x) (.int y) σ=some true:=congrArg some (decide_eq_true h)
theorem gJ(h:¬x<y):dX .Lt (.int x) (.int y) σ=some false:=congrArg some (decide_eq_false h)
theorem oN(h:x<=y):dX .LtE (.int x) (.int y) σ=some true:=congrArg some (decide_eq_true h)
theorem leF(h:¬x<=y):dX .LtE (.int x) (.int y) σ=some false:=congrArg some (decide_eq_false h)
theorem nE(h:x>y):dX .Gt (.int x) (.int y) σ=some true:=congrArg some (decide_eq_true h)
theorem gU(h:¬x>y):dX .Gt (.int x) (.int y) σ=some false:=congrArg some (decide_eq_false h)
theorem AD(h:x>=y):dX .GtE (.int x) (.int y) σ=some true:=congrArg some (decide_eq_true h)
theorem AB(h:¬x>=y):dX .GtE (.int x) (.int y) σ=some false:=congrArg some (decide_eq_false h)
theorem JS(x y:Int):dX .Eq (.int x) (.int y) σ=some (decide (x=y)):=congrArg some (show(x==y)=decide (x=y) from rfl)
theorem eqT(h:x=y):dX .Eq (.int x) (.int y) σ=some true:=congrArg some (beq_iff_eq.mpr h)
theorem gy(h:¬x=y):dX .Eq (.int x) (.int y) σ=some false:=congrArg some (beq_eq_false_iff_ne.mpr h)
theorem neT(h:¬x=y):dX .NotEq (.int x) (.int y) σ=some true:=congrArg (fu not) (gy (σ:=σ) h)
theorem tn(h:x=y):dX .NotEq (.int x) (.int y) σ=some false:=congrArg (fu not) (eqT (σ:=σ) h)
end
theorem Bx{v n:Int}(h:0<=v/\v<n+1):v=n\/(0<=v/\v<n):=(Int.lt_or_eq_of_le (wi.mp h.2)).elim (λq=>.inr ⟨h.1,q⟩) .inl
theorem or1{v:Int}(h:0<=v/\v<1):v=0:=TP (wi.mp h.2) h.1
theorem N6{v:Int}(h:0<=v/\v<2):v=0\/v=1:=(Bx (n:=1) h).elim .inr λh=>.inl (or1 h)
theorem N7{v:Int}(h:0<=v/\v<3):v=0\/v=1\/v=2:=(Bx (n:=2) h).elim (λe=>.inr (.inr e)) λh=>(N6 h).imp id .inl
theorem N8{v:Int}(h:0<=v/\v<4):v=0\/v=1\/v=2\/v=3:=(Bx (n:=3) h).elim (λe=>.inr (.inr (.inr e))) λh=>(N7 h).imp id (Or.imp id .inl)
theorem Fx{v:Int}(h:0<=v/\v<5):v=0\/v=1\/v=2\/v=3\/v=4:=(Bx (n:=4) h).elim (λe=>.inr (.inr (.inr (.inr e)))) λh=>(N8 h).imp id (Or.imp id (Or.imp id .inl))
theorem Fd{a b:Int}(q:¬a=b)(h:b<=a):b<a:=Int.lt_iff_le_and_ne.mpr ⟨h,eN q⟩
theorem GB{a i:Nat}(h:i<a):((a:Int) - 1- i).toNat=a- 1- i:=by omega
theorem PO{i:Nat}:(0+(i:Int)).toNat=i:=by rw [nU];rfl
theorem Pf{x:Int}(h:0<=x):0<=64*min x 3/\64*min x 3+2^6<=256:=by
 have a:=Int.min_le_right x 3
 have b:=Int.le_min.mpr ⟨h,show(0:Int)<=3 by decide⟩
 omega
abbrev QV:=V->AH->Prop
def iP(O:nW)(x y:Int)(Q:Int->Prop):Prop:=match O with
 |.Add=>Q (x+y)
 |.Sub=>Q (x- y)
 |_=>∀{z},intOp O x y=some z->Q z
def kF(v:V)(Q:Int->Prop):Prop:=match v with
 |.int x=>Q x
 |_=>True
def uQ(v:V)(Q:Bool->Prop):Prop:=match v with
 |.bool x=>Q x
 |_=>True
def rH(b:Bool)(Q:Prop):Prop:=match b with
 |true=>Q
 |false=>True
def sL(b:Bool)(P Q:Prop):Prop:=match b with
 |true=>P
 |false=>Q
def yq{α:Type}(o:Option α)(Q:α->Prop):Prop:=match o with
 |some a=>Q a
 |none=>True
def bP(O:nW)(x y:V)(σ:AH)(Q:QV):Prop:=match x with
 |.int i=>kF y λj=>iP O i j λz=>Q (.int z) σ
 |_=>∀{v σ'},kZ O x y σ=some (v,σ')->Q v σ'
def gP(o:V)(x:bu)(σ:AH)(Q:V->Prop):Prop:=match o with
 |.ref n=>∀{C l},σ[n]?=some (.obj C l)->yq (pY l x) λv=>rH (ny C x&&vL v) (Q v)
 |_=>True
def sP(o:V)(x:bu)(v:V)(σ:AH)(Q:AH->Prop):Prop:=match o with
 |.ref n=>∀{C l},σ[n]?=some (.obj C l)->rH (ny C x&&vL v&&lI l.length 1000) (∀{σ'},σ.set n (.obj C (jZ l x v))=σ'->Q σ')
 |_=>True
noncomputable def We(m:lR):Bool:=lI m.val 5
mutual
def qE(φ:bK)(ρ:bc):XE->AH->QV->Prop
 |.var i,σ,Q=>yq (ρ[i]?).join λv=>Q v σ
 |.const v,σ,Q=>Q v σ
 |.bin O a b,σ,Q=>qE φ ρ a σ λx σ=>qE φ ρ b σ λy σ=>bP O x y σ Q
 |.neg a,σ,Q=>qE φ ρ a σ λx σ=>kF x λk=>Q (.int (-k)) σ
 |.eI a,σ,Q=>qE φ ρ a σ λx σ=>uQ x λb=>Q (.bool (!b)) σ
 |.aw a b,σ,Q=>qE φ ρ a σ λx σ=>uQ x λc=>sL c (qE φ ρ b σ Q) (Q (.bool false) σ)
 |.dD a b,σ,Q=>qE φ ρ a σ λx σ=>uQ x λc=>sL c (Q (.bool true) σ) (qE φ ρ b σ Q)
 |.bj t a b,σ,Q=>qE φ ρ t σ λx σ=>uQ x λc=>sL c (qE φ ρ a σ Q) (qE φ ρ b σ Q)
 |.cmp O a b,σ,Q=>qE φ ρ a σ λx σ=>qE φ ρ b σ λy σ=>∀{r},dX O x y σ=some r->Q (.bool r) σ
 |.k8 O H a b c,σ,Q=>qE φ ρ a σ λx σ=>qE φ ρ b σ λy σ=>∀{r},dX O x y σ=some r->sL r (qE φ ρ c σ λz σ=>∀{r},dX H y z σ=some r->Q (.bool r) σ) (Q (.bool false) σ)
 |.tup l,σ,Q=>qL φ ρ l σ λvs σ=>rH (Nat.ble vs.length 1000) (Q (.tup vs) σ)
 |.list l,σ,Q=>qL φ ρ l σ λvs σ=>rH (Nat.ble vs.length 1000) (∀{σ'},σ++[.list vs]=σ'->Q (.ref σ.length) σ')
 |.oA,σ,Q=>∀{σ'},σ++[.bQ []]=σ'->Q (.ref σ.length) σ'
 |.dict J l,σ,Q=>qL φ ρ l σ λvs σ=>rH (dP J.length vs.length) (∀{σ'},σ++[.gX (J.zip vs)]=σ'->Q (.ref σ.length) σ')
 |.attr e x,σ,Q=>qE φ ρ e σ λo σ=>gP o x σ λv=>Q v σ
 |.sub a i,σ,Q=>qE φ ρ a σ λx σ=>qE φ ρ i σ λy σ=>∀{v σ'},cP φ x y σ=some (v,σ')->Q v σ'
 |.rows i,σ,Q=>qE φ ρ i σ λx σ=>kF x λk=>0<=k/\k<128->Q (OB k) σ
 |.sliceTo a k,σ,Q=>qE φ ρ a σ λx σ=>qE φ ρ k σ λy σ=>∀{v σ'},ly true x y σ=some (v,σ')->Q v σ'
 |.sliceFrom a k,σ,Q=>qE φ ρ a σ λx σ=>qE φ ρ k σ λy σ=>∀{v σ'},ly false x y σ=some (v,σ')->Q v σ'
 |.fn a l,σ,Q=>qL φ ρ l σ λvs σ=>∀{v σ'},am φ a vs σ=some (v,σ')->Q v σ'
 |.cls C l,σ,Q=>qL φ ρ l σ λvs σ=>∀{v σ'},mu φ C vs σ=some (v,σ')->Q v σ'
 |.prim p l,σ,Q=>qL φ ρ l σ λvs σ=>∀{v σ'},fk p vs σ=some (v,σ')->Q v σ'
 |.aZ o m l,σ,Q=>qE φ ρ o σ λx σ=>sL (We m) (qL φ ρ l σ λvs aD=>∀{v σ'},iS φ x m (λY=>some (vs,aD)) σ=some (v,σ')->Q v σ')
  (∀{a},(∀args,iS φ x m args σ=(args.bw λvs=>am φ a (x::vs)) σ)->qL φ ρ l σ λvs σ=>∀{v σ'},am φ a (x::vs) σ=some (v,σ')->Q v σ')
 |.comp i e it,σ,Q=>∀{v σ'},xe φ ρ (.comp i e it) σ=some (v,σ')->Q v σ'
 |.nt i e it c,σ,Q=>∀{v σ'},xe φ ρ (.nt i e it c) σ=some (v,σ')->Q v σ'
def qL(φ:bK)(ρ:bc):XL->AH->(List V->AH->Prop)->Prop
 |.nil,σ,Q=>Q [] σ
 |.cons e l,σ,Q=>qE φ ρ e σ λv σ=>qL φ ρ l σ λvs σ=>Q (v::vs) σ
end
abbrev QB:=Fl->bc->AH->Prop
def qT(φ:bK)(ρ:bc)(t:XT)(v:V)(σ:AH)(Q:bc->AH->Prop):Prop:=match t with
 |.var i=>Q (ρ.set i (some v)) σ
 |.tup l=>match v with
  |.tup vs=>rH (dP vs.length l.length) (Q (jF l vs ρ) σ)
  |_=>True
 |.attr o x=>qE φ ρ o σ λH σ=>sP H x v σ λσ=>Q ρ σ
 |.sub o i=>qE φ ρ o σ λH σ=>qE φ ρ i σ λJ σ=>∀{σ'},pU φ H J v σ=some ((),σ')->Q ρ σ'
def Pv(v:V)(Q:Prop):Prop:=match v with
 |.none=>Q
 |.int _=>Q
 |_=>True
def Nz(H:Fl)(P Q:Prop):Prop:=match H with
 |.next=>P
 |.cont=>Q
 |.ret _=>Q
mutual
def qS(φ:bK):XS->bc->AH->QB->Prop
 |.expr e,ρ,σ,Q=>qE φ ρ e σ λv σ=>Pv v (Q .next ρ σ)
 |.assign t e,ρ,σ,Q=>qE φ ρ e σ λv σ=>qT φ ρ t v σ λρ σ=>Q .next ρ σ
 |.sj i O e,ρ,σ,Q=>yq (ρ[i]?).join λx=>qE φ ρ e σ λy σ=>kF x λx=>kF y λy=>iP O x y λz=>Q .next (ρ.set i (some (.int z))) σ
 |.g9 o x O e,ρ,σ,Q=>qE φ ρ o σ λJ σ=>gP J x σ λa=>qE φ ρ e σ λb σ=>kF a λa=>kF b λb=>iP O a b λz=>sP J x (.int z) σ λσ=>Q .next ρ σ
 |.bj c a b,ρ,σ,Q=>qE φ ρ c σ λv σ=>uQ v λt=>sL t (qB φ a ρ σ Q) (qB φ b ρ σ Q)
 |.loop t it b,ρ,σ,Q=>∀{H aV σ'},xs φ (.loop t it b) ρ σ=some ((H,aV),σ')->Q H aV σ'
 |.while c b,ρ,σ,Q=>∀{H aV σ'},xs φ (.while c b) ρ σ=some ((H,aV),σ')->Q H aV σ'
 |.ret e,ρ,σ,Q=>qE φ ρ e σ λv σ=>Q (.ret v) ρ σ
 |.lu,ρ,σ,Q=>Q (.ret .none) ρ σ
 |.cont,ρ,σ,Q=>Q .cont ρ σ
 |.bad,ρ,σ,Q=>True
def qB(φ:bK):XB->bc->AH->QB->Prop
 |.nil,ρ,σ,Q=>Q .next ρ σ
 |.cons s b,ρ,σ,Q=>qS φ s ρ σ λH ρ σ=>Nz H (qB φ b ρ σ Q) (Q H ρ σ)
end
section
variable {φ:bK}{ρ aV:bc}{σ σ':AH}{α β:Type}
theorem bC{m:M α}{f:α->M β}{a:α}{r:Option (β×AH)}(h:m σ=some (a,σ'))(J:f a σ'=r):m.bw f σ=r:=by
 unfold M.bw;rw [h];exact J
theorem ue{Q:Prop}(k:b=true->Q):rH b Q:=by cases b<;>first|trivial|exact k rfl
theorem Bw{Q:α->Prop}(k:∀a,o=some a->Q a):yq o Q:=by cases o<;>first|trivial|exact k _ rfl
theorem k9{Q:Int->Prop}(k:∀i,v=.int i->Q i):kF v Q:=by cases v<;>first|trivial|exact k _ rfl
theorem wX{Q:Bool->Prop}(k:∀i,v=.bool i->Q i):uQ v Q:=by cases v<;>first|trivial|exact k _ rfl
theorem vy{P Q:Prop}(k:b=true->P)(H:b=false->Q):sL b P Q:=by cases b<;>first|exact k rfl|exact H rfl
theorem EM{Q:Int->Prop}(k:∀z,intOp O x y=some z->Q z):iP O x y Q:=by
 cases O<;>first|exact k _ rfl|exactλh=>k _ h
theorem Dm(h:intOp O x y=some z):ou O x y σ=some (.int z,σ):=congrArg (fu λz=>(V.int z,σ)) h
theorem Vk{O:nW}{x y:V}{Q:QV}(k:∀v σ',kZ O x y σ=some (v,σ')->Q v σ'):bP O x y σ Q:=by
 cases x with
 |int i=>exact k9 λj e=>EM λz h=>k _ _ (e▸fQ (a:=ou O i j σ) (Dm h))
 |_=>exactλh=>k _ _ h
theorem Lk{Q:V->Prop}(k:∀v,AE o x σ=some (v,σ)->Q v):gP o x σ Q:=by
 cases o with
 |ref n=>exactλ{C l} e=>Bw λv h=>ue λq=>k v (bI e (bI (f:=λv=>if(ny C x&&vL v)=true then some (v,σ) else none) h (if_pos q)))
 |_=>trivial
theorem OQ{Q:AH->Prop}(k:∀σ',BJ o x v σ=some ((),σ')->Q σ'):sP o x v σ Q:=by
 cases o with
 |ref n=>exactλ{C l} e=>ue λq=>λ{σ'} H=>k σ' (H▸bI e (if_pos q))
 |_=>trivial
theorem Js(h:Nat.ble n 1000=true):n<=most:=lK h
theorem Qk(h:(ρ[i]?).join=some v):xe φ ρ (.var i) σ=some (v,σ):=congrArg (fu λv=>(v,σ)) h
theorem JQ(h:dX O x y σ=some r):(dX O x y σ).map (λr=>(V.bool r,σ))=some (.bool r,σ):=congrArg (fu λr=>(V.bool r,σ)) h
theorem acd{r}(h:a σ=some (vs,σ'))(J:iS φ x m (λY=>some (vs,σ')) σ=r):iS φ x m a σ=r:=by
 have e:iS φ x m a σ=iS φ x m (λY=>a σ) σ:=rfl
 rw [e,h];exact J
mutual
theorem dM:∀(e:XE) {σ:AH} {Q:QV},(∀v σ',xe φ ρ e σ=some (v,σ')->Q v σ')->qE φ ρ e σ Q
 |.var i,σ,Q,k=>Bw λv h=>k v σ (Qk h)
 |.const v,σ,Q,k=>k v σ rfl
 |.bin Z a b,σ,Q,k=>dM a λx av H=>dM b λy aC J=>Vk λv U O=>k v U (bC H (bC J O))
 |.neg a,σ,Q,k=>dM a λx av H=>k9 λi e=>k _ _ (bC H (e▸rfl))
 |.eI a,σ,Q,k=>dM a λx av H=>wX λi e=>k _ _ (bC H (e▸rfl))
 |.aw a b,σ,Q,k=>dM a λx av H=>wX λc e=>vy (λq=>dM b λv aC J=>k v aC (bC H (by subst e q;exact J))) λq=>k _ _ (bC H (by subst e q;rfl))
 |.dD a b,σ,Q,k=>dM a λx av H=>wX λc e=>vy (λq=>k _ _ (bC H (by subst e q;rfl))) λq=>dM b λv aC J=>k v aC (bC H (by subst e q;exact J))
 |.bj t a b,σ,Q,k=>dM t λx av H=>wX λc e=>vy (λq=>dM a λv aC J=>k v aC (bC H (by subst e q;exact J))) λq=>dM b λv aC J=>k v aC (bC H (by subst e q;exact J))
 |.cmp Z a b,σ,Q,k=>dM a λx av H=>dM b λy aC J=>λO=>k _ _ (bC H (bC J (JQ O)))
 |.k8 Z rj a b c,σ,Q,k=>dM a λx av H=>dM b λy aC J=>λO=>vy (λq=>dM c λz U V=>λh5=>k _ _ (bC H (bC J (bI O (q▸bC V (JQ h5)))))) λq=>k _ _ (bC H (bC J (bI O (by subst q;rfl))))
 |.tup l,σ,Q,k=>oS l λvs av H=>ue λq=>k _ _ (bC H (if_pos (Js q)))
 |.list l,σ,Q,k=>oS l λvs av H=>ue λq=>λe=>k _ _ (e▸bC H (if_pos (Js q)))
 |.oA,σ,Q,k=>λe=>k _ _ (e▸rfl)
 |.dict ks l,σ,Q,k=>oS l λvs av H=>ue λq=>λe=>k _ _ (e▸bC H (if_pos (jJ q)))
 |.attr e x,σ,Q,k=>dM e λo av H=>Lk λv J=>k _ _ (bC H J)
 |.sub a i,σ,Q,k=>dM a λx av H=>dM i λy aC J=>λO=>k _ _ (bC H (bC J O))
 |.rows i,σ,Q,k=>dM i λx av H=>k9 λz e q=>k _ _ (bC H (e▸if_pos q))
 |.sliceTo a i,σ,Q,k=>dM a λx av H=>dM i λy aC J=>λO=>k _ _ (bC H (bC J O))
 |.sliceFrom a i,σ,Q,k=>dM a λx av H=>dM i λy aC J=>λO=>k _ _ (bC H (bC J O))
 |.fn a l,σ,Q,k=>oS l λvs av H=>λJ=>k _ _ (bC H J)
 |.cls a l,σ,Q,k=>oS l λvs av H=>λJ=>k _ _ (bC H J)
 |.prim a l,σ,Q,k=>oS l λvs av H=>λJ=>k _ _ (bC H J)
 |.aZ o m l,σ,Q,k=>dM o λx av H=>vy (λY=>oS l λvs aC J=>λO=>k _ _ (bC H (acd J O))) λY=>λJ=>oS l λvs aC O=>λV=>k _ _ (bC H ((J _).trans (bC O V)))
 |.comp i e it,σ,Q,k=>λh=>k _ _ h
 |.nt i e it c,σ,Q,k=>λh=>k _ _ h
theorem oS:∀(l:XL) {σ:AH} {Q:List V->AH->Prop},(∀v σ',xl φ ρ l σ=some (v,σ')->Q v σ')->qL φ ρ l σ Q
 |.nil,σ,Q,k=>k _ _ rfl
 |.cons e l,σ,Q,k=>dM e λv av H=>oS l λvs aC J=>k _ _ (bC H (bC J rfl))
end
theorem afb{Q:bc->AH->Prop}(k:∀aV σ',xt φ t v ρ σ=some (aV,σ')->Q aV σ'):qT φ ρ t v σ Q:=by
 cases t with
 |var i=>exact k _ _ rfl
 |tup l=>
  cases v with
  |tup vs=>exact ue λq=>k _ _ (bC (m:=PY (.tup vs) l.length) (if_pos (jJ q)) rfl)
  |_=>trivial
 |attr o x=>exact dM o λO av H=>OQ λaC J=>k _ _ (bC H (bC J rfl))
 |sub o i=>exact dM o λO av H=>dM i λV aC J=>λU=>k _ _ (bC H (bC J (bC U rfl)))
theorem ahr{Q:Prop}(k:(∀ρ:bc,Pu v ρ σ=some ((.next,ρ),σ))->Q):Pv v Q:=by
 cases v with
 |none=>exact k λY=>rfl
 |int i=>exact k λY=>rfl
 |_=>trivial
theorem ad9{P Q:Prop}(k:J=.next->P)(H:J.ctorIdx≠0->Q):Nz J P Q:=by
 cases J with
 |next=>exact k rfl
 |cont=>exact H ∅
 |ret v=>exact H (Nat.succ_ne_zero 1)
mutual
theorem afa:∀(s:XS) {ρ:bc} {σ:AH} {Q:QB},(∀O aV σ',xs φ s ρ σ=some ((O,aV),σ')->Q O aV σ')->qS φ s ρ σ Q
 |.expr e,ρ,σ,Q,k=>dM e λv av H=>ahr λq=>k _ _ _ (bC H (q ρ))
 |.assign t e,ρ,σ,Q,k=>dM e λv av H=>afb λaV aC J=>k _ _ _ (bC H (bC J rfl))
 |.sj i Y e,ρ,σ,Q,k=>Bw λx h0=>dM e λy aC J=>k9 λZ U=>k9 λy' V=>EM λz hz=>k _ _ _ (bC (Qk h0) (bC J (by subst U V;exact bI (Dm hz) rfl)))
 |.g9 o x Y e,ρ,σ,Q,k=>dM o λov av H=>Lk λa J=>dM e λb aC h3=>k9 λZ U=>k9 λy' V=>EM λz hz=>OQ λdH h4=>k _ _ _ (bC H (bC J (bC h3 (by subst U V;exact bC (m:=ou Y Z y') (Dm hz) (bC h4 rfl)))))
 |.bj c a b,ρ,σ,Q,k=>dM c λx av H=>wX λt e=>vy (λq=>yt a λO mX aC J=>k _ _ _ (bC H (by subst e q;exact J))) λq=>yt b λO mX aC J=>k _ _ _ (bC H (by subst e q;exact J))
 |.loop t it b,ρ,σ,Q,k=>λh=>k _ _ _ h
 |.while c b,ρ,σ,Q,k=>λh=>k _ _ _ h
 |.ret e,ρ,σ,Q,k=>dM e λv av H=>k _ _ _ (bC H rfl)
 |.lu,ρ,σ,Q,k=>k _ _ _ rfl
 |.cont,ρ,σ,Q,k=>k _ _ _ rfl
 |.bad,ρ,σ,Q,k=>trivial
theorem yt:∀(b:XB) {ρ:bc} {σ:AH} {Q:QB},(∀H aV σ',xb φ b ρ σ=some ((H,aV),σ')->Q H aV σ')->qB φ b ρ σ Q
 |.nil,ρ,σ,Q,k=>k _ _ _ rfl
 |.cons s b,ρ,σ,Q,k=>afa s λH O av J=>ad9 (λq=>yt b λH mX aC U=>k _ _ _ (bC J (by subst q;exact U))) λq=>k _ _ _ (bC J (by cases H with
  |next=>exact absurd rfl q
  |cont=>rfl
  |ret v=>rfl))
end
def OA(vs:List V)(Q:Src->Prop):Prop:=match vs with
 |[a]=>kF a λa=>iE a=true->Q (.lst (eV 0 a))
 |[a,b]=>kF a λa=>kF b λb=>(iE a&&iE b)=true->Q (.lst (eV a b))
 |[a,b,c]=>kF a λa=>kF b λb=>kF c λc=>rH (c== -1) ((iE a&&iE b)=true->Q (.lst (lr a b)))
 |_=>True
def FT(v:V)(Q:Nat->Prop)(P:List V->Prop):Prop:=match v with
 |.ref n=>Q n
 |.tup l=>P l
 |_=>True
theorem Ot{Q:Nat->Prop}{P:List V->Prop}(k:∀n,v=.ref n->Q n)(H:∀n,v=.tup n->P n):FT v Q P:=by
 cases v with
 |ref n=>exact k _ rfl
 |tup n=>exact H _ rfl
 |_=>trivial
def qI(φ:bK)(ρ:bc)(it:XI)(σ:AH)(Q:Src->AH->Prop):Prop:=match it with
 |.range l=>qL φ ρ l σ λvs σ=>OA vs λs=>Q s σ
 |.gv e=>qE φ ρ e σ λv σ=>FT v (λn=>∀{l},σ[n]?=some (.list l)->Q (.gv n) σ) λY=>True
 |.val e=>qE φ ρ e σ λv σ=>FT v (λn=>∀{c},σ[n]?=some c->yq (Pn n c) λs=>Q s σ) λl=>Q (.lst l) σ
theorem afu{Q:Src->Prop}(k:∀s,FY vs=some s->Q s):OA vs Q:=by
 match vs,k with
 |[],_=>trivial
 |[a],k=>exact k9 λa e q=>k _ (e▸if_pos q)
 |[a,b],k=>exact k9 λa e=>k9 λb H q=>k _ (e▸H▸if_pos q)
 |[a,b,c],k=>exact k9 λa e=>k9 λb H=>k9 λc J=>ue λO q=>k _ (e▸H▸J▸if_pos (by rw [O];exact q))
 |_::_::_::_::_,_=>trivial
theorem ae'{it:XI}{Q:Src->AH->Prop}(k:∀s σ',xi φ ρ it σ=some (s,σ')->Q s σ'):qI φ ρ it σ Q:=by
 cases it with
 |range l=>exact oS l λvs av H=>afu λs O=>k _ _ (bC H (congrArg (fu λs=>(s,av)) O))
 |gv e=>exact dM e λv av H=>Ot (λn e=>λJ=>k _ _ (bC H (e▸bI J rfl))) λY Y=>trivial
 |val e=>exact dM e λv av H=>Ot (λn e=>λ{c} J=>Bw λs U=>k _ _ (bC H (e▸fQ (bI J (congrArg (fu λs=>(s,av)) U))))) λl e=>k _ _ (bC H (e▸rfl))
theorem iter{r}(K:qI φ ρ it σ (λs σ'=>xi φ ρ it σ=some (s,σ'))->xi φ ρ it σ=r):xi φ ρ it σ=r:=K (ae' λY Y h=>h)
theorem expr{r}(K:qE φ ρ e σ (λs σ'=>xe φ ρ e σ=some (s,σ'))->xe φ ρ e σ=r):xe φ ρ e σ=r:=K (dM e λY Y h=>h)
def afr(φ:bK)(a:Nat)(args:List V)(σ:AH)(H:Fl)(σ':AH):Prop:=match H with
 |.ret v=>am φ a args σ=some (v,σ')
 |.next=>am φ a args σ=some (.none,σ')
 |.cont=>True
theorem call{args:List V}{r}(e:am O a args=bq φ n b J)
  (K:qB φ b (J.map some++dO (n- J.length) none) σ (λH Y σ'=>afr O a args σ H σ')->am O a args σ=r):am O a args σ=r:=
 K (yt b λH Y Y h=>by
  cases H with
  |cont=>trivial
  |next=>exact(congrFun e σ).trans (bC h rfl)
  |ret v=>exact(congrFun e σ).trans (bC h rfl))
end
theorem body{r}(K:qB φ b ρ σ (λH aV σ'=>xb φ b ρ σ=some ((H,aV),σ'))->xb φ b ρ σ=r):xb φ b ρ σ=r:=K (yt b λY Y Y h=>h)
section
variable {φ:bK}{σ σ':AH}{n:Nat}
theorem abZ{b:Array UInt8}{c:Int}(h:σ[n]?=some (.ba b))(h':σ'[n]?=some (.ba b))(J:0<=c/\c<=255/\b.size<=10000):iS φ (.ref n) 0 (λY=>some ([.int c],σ')) σ=some (.none,σ'.set n (.ba (b.push (qq c.toNat)))):=
 fQ (bI h (fQ (a:=I9 n [.int c] σ') (bI h' (if_pos J))))
theorem ab0{b x:Array UInt8}(h:σ[n]?=some (.ba b))(h':σ'[n]?=some (.ba b))(J:b.size+x.size<=10000):iS φ (.ref n) 2 (λY=>some ([.bytes x],σ')) σ=some (.none,σ'.set n (.ba (b++x))):=
 fQ (bI h (show K2 n [.bytes x] σ'=_ from bI h' (if_pos J)))
theorem Bj{l l':List V}{v:V}(h:σ[n]?=some (.list l))(h':σ'[n]?=some (.list l'))(J:l'.length<=1000):iS φ (.ref n) 0 (λY=>some ([v],σ')) σ=some (.none,σ'.set n (.list (l'++[v]))):=
 fQ (bI h (fQ (a:=Ja n [v] σ') (bI h' (if_pos J))))
theorem Nh{l l':List (Int×V)}{k:Int}{d:V}(h:σ[n]?=some (.bQ l))(h':σ'[n]?=some (.bQ l')):iS φ (.ref n) 3 (λY=>some ([.int k,d],σ')) σ=some ((jy l' k).getD d,σ'):=
 fQ (bI h (fQ (a:=getD n [.int k,d] σ') (bI h' rfl)))
theorem bM(e:σ[n]?=some (.obj C J))(H:J.all (λp=>ny C p.1)=true)(O:oQ C m=some a)(args:M (List V)):iS φ (.ref n) m args σ=(args.bw λvs=>am φ a (.ref n::vs)) σ:=by
 show eA ((σ[n]?).bind _) none=_
 rw [N9]
 refine bI e ?_
 show eA (if(J.all λp=>ny C p.1)=true then(oQ C m).bind λa=>(args.bw λvs=>am φ a (.ref n::vs)) σ else none) none=_
 rw [N9,if_pos H,O]
 rfl
theorem gH(e:σ[n]?=some d):(σ.set n c)[n]?=some c:=Ch (gC.mp e).1
theorem iN(h:n≠m)(e:σ[m]?=some d):(σ.set n c)[m]?=some d:=(qw h).trans e
end
end
section
variable {k:Nat}{σ:AH}
noncomputable def iT(m b:Int):Int:=if b=0 then m+(2048- m)/32 else m- m/32
theorem ahj(m b:Int):am (ae (k+1)) 363 [.int m,.int b] σ=some (.int (iT m b),σ):=by
 unfold iT
 by_cases h:b=0
 ·rw [if_pos h]
  exists call KH λt=>t (eqT h) (jG ∅)
 ·rw [if_neg h]
  exists call KH λt=>t (gy h) (jG ∅)
theorem ahi(h:b=0\/b=1):am (ae (k+1)) 370 [.int b] σ=some (.none,σ):=by
 rcases h with rfl|rfl
 ·exists call KD λt=>t rfl
 ·exists call KD λt=>t rfl
theorem BS(h:0<=c/\c<=1000/\0<=v/\v<2^c.toNat):am (ae (k+1)) 377 [.int v,.int c] σ=some (.none,σ):=by
 have H:intOp .LShift 1 c=some (1*2^c.toNat):=lw ⟨h.1,h.2.1,by decide⟩
 rw [lO] at H
 exists call YA λt=>t (gJ (aa cF 0x1100100162010110001073e803100070000107 h rfl)) (oN h.2.2.1) H (iR h.2.2.2)
theorem ahd(s:Int):am (ae (k+1)) 165 [.int s] σ=some (.int (if s<4 then 0 else if s<10 then s- 3 else s- 6),σ):=by
 by_cases h:s<4
 ·rw [if_pos h]
  exists call DT λt=>t (iR h)
 ·by_cases J:s<10
  ·rw [if_neg h,if_pos J]
   exists call DT λt=>t (gJ h) (iR J)
  ·rw [if_neg h,if_neg J]
   exists call DT λt=>t (gJ h) (gJ J)
theorem ahe(s:Int):am (ae (k+1)) 172 [.int s] σ=some (.int (if s<7 then 7 else 10),σ):=by
 by_cases h:s<7
 ·rw [if_pos h]
  exists call Ku λt=>t (iR h)
 ·rw [if_neg h]
  exists call Ku λt=>t (gJ h)
theorem ahf(s:Int):am (ae (k+1)) 179 [.int s] σ=some (.int (if s<7 then 8 else 11),σ):=by
 by_cases h:s<7
 ·rw [if_pos h]
  exists call Kv λt=>t (iR h)
 ·rw [if_neg h]
  exists call Kv λt=>t (gJ h)
theorem ahg(s:Int):am (ae (k+1)) 186 [.int s] σ=some (.int (if s<7 then 9 else 11),σ):=by
 by_cases h:s<7
 ·rw [if_pos h]
  exists call Kw λt=>t (iR h)
 ·rw [if_neg h]
  exists call Kw λt=>t (gJ h)
theorem Ph(s:Int):am (ae (k+1)) 193 [.int s] σ=some (.bool (decide (s<7)),σ):=by
 exists call Ym λt=>t rfl
theorem ahh(l:Int):am (ae (k+1)) 200 [.int l] σ=some (.int (min (l- 2) 3),σ):=by
 have h:min (l- 2) 3=if 3<l- 2 then 3 else l- 2:=by split<;>first|exact TM (iA ‹_›)|exact TZ (ky.mp ‹_›)
 rw [h]
 exists call Yz λt=>t rfl
end
noncomputable abbrev DD:=List (Int×Int)
noncomputable def gG(D:DD)(k:Int):Option Int:=(D.find? λp=>p.1==k).map (·.2)
noncomputable def getm(D:DD)(k:Int):Int:=(gG D k).getD 1024
noncomputable def fT(D:DD)(k v:Int):DD:=match D with
 |[]=>[(k,v)]
 |(H,v')::r=>if H=k then(H,v)::r else(H,v')::fT r k v
noncomputable def dV(D:DD):List (Int×V):=D.map λp=>(p.1,.int p.2)
theorem A0(k:Int):∀D:DD,jy (dV D) k=(gG D k).map .int
 |[]=>rfl
 |(H,v)::r=>by
  unfold jy dV gG
  simp only [jk,T8]
  by_cases h:(H==k)=true
  ·simp [h]
  ·simp only [h]
   exact A0 k r
theorem xU(k v:Int):∀D:DD,iQ (dV D) k (.int v)=dV (fT D k v)
 |[]=>rfl
 |(H,v')::r=>by
  show iQ ((H,V.int v')::dV r) k (.int v)=_
  unfold iQ fT
  split
  ·rfl
  ·rw [xU k v r];rfl
theorem Y6(D:DD)(k v j:Int):gG (fT D k v) j=if j=k then some v else gG D j:=by
 induction D with
 |nil=>
  unfold fT gG
  by_cases h:j=k
  ·subst h;simp
  ·simp [h,eN h]
 |cons p r O=>
  obtain⟨H,v'⟩:=p
  unfold fT
  by_cases h:H=k
  ·subst h
   rw [if_pos rfl]
   unfold gG
   by_cases q:j=H
   ·subst q;simp
   ·simp [q,show¬H=j fromλz=>q z.symm]
  ·rw [if_neg h]
   by_cases q:H=j
   ·subst q
    have:¬H=k:=h
    unfold gG;simp [this]
   ·have J:∀w l,gG ((H,w)::l) j=gG l j:=λw l=>by unfold gG;simp [q]
    rw [J,J,O]
theorem AG(D:DD)(k v j:Int):getm (fT D k v) j=if j=k then v else getm D j:=by
 unfold getm;rw [Y6];split<;>rfl
theorem Gj(k v:Int):∀D:DD,(fT D k v).length<=D.length+1
 |[]=>by simp [fT]
 |(H,v')::r=>by
  unfold fT
  split
  ·simp
  ·have:=Gj k v r;simp;exact(aa aJ 0x1110111040031011104003 this rfl)
noncomputable def jh(c:Int)(D:DD):List V:=(bV c.toNat).map λ(j:Nat)=>V.int (getm D (j:Int))
def cD(σ:AH)(r d:Nat)(c:Int)(D:DD):Prop:=
 if c<=64 then σ[r]?=some (.list (jh c D))
 else σ[r]?=some (.obj 104 [(0,.int c),(1,.ref d)])/\σ[d]?=some (.bQ (dV D))/\r≠d
theorem afx(H:0<=i)(J:i<c):(jh c D)[i.toNat]?=some (.int (getm D i)):=by
 unfold jh
 rw [eT,mS (by exact(bB pq 0x110112030400302220210010001 J (jj _) (be (aa az 0x11000010000010 H rfl)) rfl))]
 simp [be H]
theorem afz(H:0<=i)(J:i<c):(jh c D).set i.toNat (.int v)=jh c (fT D i v):=by
 apply Tu
 intro j
 unfold jh
 rw [List.getElem?_set]
 simp only [eT,bf,gO]
 by_cases q:i.toNat=j
 ·subst q
  rw [if_pos rfl,if_pos (by exact(bB pq 0x110112030400302220210010001 J (jj _) (be (aa az 0x11000010000010 H rfl)) rfl)),mS (by exact(bB pq 0x110112030400302220210010001 J (jj _) (be (aa az 0x11000010000010 H rfl)) rfl))]
  simp [AG,be H]
 ·rw [if_neg q]
  rcases ux j c.toNat with z|z
  ·rw [mS z]
   have:¬(j:Int)=i:=by(first|lia|omega)
   simp [AG,this]
  ·rw [qv (by simpa using z)];rfl
theorem yG(c:Int)(D:DD):(jh c D).length=c.toNat:=by simp [jh]
section
variable {k:Nat}{σ:AH}
theorem BK{k:Int}(h:σ[m]?=some (.bQ l))(V:l.length<=1000):pU φ (.ref m) (.int k) v σ=some ((),σ.set m (.bQ (iQ l k v))):=gV (bI h rfl) (fQ (bI h (if_pos V)))
theorem Gg{k:Int}(h:σ[m]?=some (.list l))(V:l.length<=1000)(H:idx k l.length=some j):pU φ (.ref m) (.int k) v σ=some ((),σ.set m (.list (l.set j v))):=fQ (bI h ((if_pos V).trans (congrArg (fu λj=>((),σ.set m (.list (l.set j v)))) H)))
theorem lz{k:Int}(h:σ[m]?=some (.list l))(V:l.length<=1000)(H:idx k l.length=some j)(J:l[j]?=some v):cP φ (.ref m) (.int k) σ=some (v,σ):=fQ (fQ (fQ (bI h (congrArg (fu λv=>(v,σ)) ((if_pos V).trans (bI H J))))))
theorem Ur(H:σ[r]?=some (.obj 104 [(0,.int c),(1,.ref d)]))(J:σ[d]?=some (.bQ (dV D)))(O:0<=i/\i<c):
  am (ae (k+1)) 94 [.ref r,.int i] σ=some (.int (getm D i),σ):=by
 have g:(jy (dV D) i).getD (.int 1024)=.int (getm D i):=by
  rw [A0];unfold getm;cases gG D i<;>rfl
 rw [←g]
 exists call Xj λt=>t (oN O.1) H (iR O.2) H (Nh J J)
theorem Us(J:σ[r]?=some (.obj 104 [(0,.int c),(1,.ref d)]))(U:σ[d]?=some (.bQ (dV D)))(O:0<=i/\i<c)(V:D.length<=1000):
  am (ae (k+1)) 101 [.ref r,.int i,.int v] σ=some (.none,σ.set d (.bQ (dV (fT D i v)))):=by
 have H:(dV D).length<=1000:=(bf ..).symm▸V
 rw [←xU]
 exists call Xl λt=>t (oN O.1) J (iR O.2) J (BK U H)
theorem ahx{l x}(H:σ[r]?=some (.obj 104 l))(h:am φ 94 [.ref r,.int i] σ=some x):cP φ (.ref r) (.int i) σ=some x:=fQ (fQ (gV (bI H rfl) (gV (bI H rfl) (bI H (show(if(104:Nat)=104 then am φ 94 [.ref r,.int i] σ else none)=some x from(if_pos rfl).trans h)))))
theorem af5{l}(H:σ[r]?=some (.obj 104 l))(h:am φ 101 [.ref r,.int i,v] σ=some (.none,σ')):pU φ (.ref r) (.int i) v σ=some ((),σ'):=gV (bI H rfl) (gV (bI H rfl) (bI H (show(if(104:Nat)=104 then B5 (am φ 101 [.ref r,.int i,v] σ) else none)=some ((),σ') from(if_pos rfl).trans (by rw [h];rfl))))
theorem OC(O:0<=i/\i<c)(D:DD):idx i (jh c D).length=some i.toNat:=if_pos (yG c D▸⟨O.1,be (iA (HC O.1 O.2))▸O.2⟩)
theorem OD(J:c<=64)(D:DD):(jh c D).length<=1000:=yG c D▸Int.toNat_le.mpr (ku J ∅)
theorem BF(h:cD σ r d c D)(O:0<=i/\i<c):cP (ae (k+1)) (.ref r) (.int i) σ=some (.int (getm D i),σ):=by
 unfold cD at h
 by_cases J:c<=64
 ·rw [if_pos J] at h
  exact lz h (OD J D) (OC O D) (afx O.1 O.2)
 ·rw [if_neg J] at h
  exact ahx h.1 (Ur h.1 h.2.1 O)
theorem afB(h:cD σ r d c D)(O:0<=i/\i<c)(V:D.length<=1000){G:Prop}
  (K:∀σ',pU (ae (k+1)) (.ref r) (.int i) (.int v) σ=some ((),σ')->cD σ' r d c (fT D i v)->(∀n,n≠r->n≠d->σ'[n]?=σ[n]?)->σ'.length=σ.length->G):G:=by
 unfold cD at h K
 by_cases J:c<=64
 ·rw [if_pos J] at h
  exact K _ (Gg h (OD J D) (OC O D)) (by rw [if_pos J,←afz O.1 O.2];exact gH h) (λn H U=>qw (eN H)) (lN ..)
 ·rw [if_neg J] at h
  exact K _ (af5 h.1 (Us h.1 h.2.1 O V)) (by rw [if_neg J];exact⟨iN (eN h.2.2) h.1,gH h.2.1,h.2.2⟩) (λn H U=>qw (eN U)) (lN ..)
end
def ak(F:Nat->Prop)(σ σ':AH):Prop:=σ.length<=σ'.length/\∀n,n<σ.length->¬F n->σ'[n]?=σ[n]?
theorem cK{σ:AH}{n:Nat}{c:AC}(e:σ[n]?=some c):n<σ.length:=(gC.mp e).1
theorem ak.refl(F)(σ:AH):ak F σ σ:=⟨cY _,λY Y Y=>rfl⟩
theorem ak.trans{F}(x:ak F aD bR)(y:ak F bR J):ak F aD J:=
 ⟨bo x.1 y.1,λn H O=>(y.2 n (bN H x.1) O).trans (x.2 n H O)⟩
theorem ak.wide{F G:Nat->Prop}(x:ak F σ σ')(h:∀n,F n->G n):ak G σ σ':=⟨x.1,λn H J=>x.2 n H λq=>J (h n q)⟩
theorem ak.get{F}{σ σ':AH}(x:ak F σ σ'){n:Nat}{c:AC}(e:σ[n]?=some c)(h:¬F n):σ'[n]?=some c:=(x.2 n (cK e) h).trans e
theorem ak.set{F:Nat->Prop}(σ:AH)(n:Nat)(c:AC)(h:F n):ak F σ (σ.set n c):=⟨by simp,λm Y J=>by rw [qw];intro q;exact J (q▸h)⟩
theorem ak.cU{F:Nat->Prop}(σ l:AH):ak F σ (σ++l):=⟨by simp,λm H Y=>by rw [lJ H]⟩
theorem pD{F:Nat->Prop}(h:F n)(x:ak F jo σ):ak F jo (σ.set n c):=x.trans (ak.set _ _ _ h)
theorem bE{F:Nat->Prop}(x:ak F jo σ):ak F jo (σ++l):=x.trans (ak.cU _ _)
structure RW where
 low:Int
 span:Int
 cache:Int
 held:Int
 made:Array UInt8
noncomputable def wO(x:RW)(b:Nat)(cl:Bool):AC:=.obj 464 [(24,.ref b),(7,.int x.low),(25,.int x.span),(26,.int x.cache),(27,.int x.held),(28,.bool cl)]
noncomputable def tO(x:RW):RW:=
 if x.low<4278190080\/x.low>=4294967296 then
  {low:=x.low%16777216*256,span:=x.span,cache:=x.low/16777216%256,held:=1,
   made:=x.made.push (qq ((x.cache+x.low/4294967296)%256).toNat)++CG (x.held.toNat- 1) (qq ((255+x.low/4294967296)%256).toNat)}
 else{x with low:=x.low%16777216*256,held:=x.held+1}
structure RWok0(x:RW)(n:Nat):Prop where
 low:0<=x.low
 cache:0<=x.cache
 held:1<=x.held
 made:(x.made.size:Int)+x.held<=1+n
structure kY(x:RW)(n:Nat):Prop extends RWok0 x n where
 span:0<=x.span/\x.span<4294967296
 both:x.low+x.span<8589934592
theorem Vd(x:Int):ul x 255=x%256:=zr x 8
theorem Ve(x:Int):ul x 16777215=x%16777216:=zr x 24
section
variable {k:Nat}{σ:AH}
structure lU(w b:Nat)(jo σ:AH)(cw cb:AC):Prop where
 gw:σ[w]?=some cw
 gb:σ[b]?=some cb
 f:ak (λn=>n=w\/n=b) jo σ
section
variable {w b:Nat}{jo:AH}{cw cb:AC}
theorem lU.pX(U:w≠b)(p:lU w b jo σ cw cb)(c:AC):lU w b jo (σ.set w c) c cb:=⟨gH p.gw,iN U p.gb,pD (.inl rfl) p.f⟩
theorem lU.O0(U:w≠b)(p:lU w b jo σ cw cb)(c:AC):lU w b jo (σ.set b c) cw c:=⟨iN U.symm p.gw,gH p.gb,pD (.inr rfl) p.f⟩
theorem aN{l:AH}{n:Nat}{c:AC}(h:σ[n]?=some c):(σ++l)[n]?=some c:=(lJ (cK h)).trans h
theorem lU.cU(p:lU w b jo σ cw cb)(l:AH):lU w b jo (σ++l) cw cb:=⟨aN p.gw,aN p.gb,bE p.f⟩
end
theorem uM(y:Int):intOp .BitAnd y 255=some (y%256):=congrArg some (Vd y)
theorem Oi{xs:List Int}(h:σ[n]?=some (.list l))(J:sM l=some xs)(V:l.length<=1000/\∀n∈xs,0<=n/\n<256):fk .bytesOf [.ref n] σ=some (.bytes (byteArr xs),σ):=fQ (bI h (bI J (if_pos V)))
theorem Wj(h:0<=c/\c<=255):fk .bytesOf [.ref σ.length] (σ++[.list [.int c]])=some (.bytes #[qq c.toNat],σ++[.list [.int c]]):=
 Oi (xs:=[c]) (Cc ..) rfl ⟨(by decide:1<=1000),λn H=>cA.mp H▸⟨h.1,Int.lt_add_one_of_le h.2⟩⟩
theorem afl(c:UInt8)(k:Nat):(dO k [c]).flatten.toArray=CG k c:=by
 apply Array.ext';simp
theorem O5(hw:σ[w]?=some (wO x b cl))(hb:σ[b]?=some (.ba x.made))(ok:RWok0 x n)(hn:n<=900){G:Prop}
  (K:∀σ',am (ae (k+1)) 405 [.ref w] σ=some (.none,σ')->σ'[w]?=some (wO (tO x) b cl)->σ'[b]?=some (.ba (tO x).made)->ak (λn=>n=w\/n=b) σ σ'->G):G:=by
 have U:w≠b:=by intro q;subst q;rw [hw] at hb;cases hb
 have o1:=ok.low
 have o4:=ok.cache
 have V:=ok.held
 have o6:=ok.made
 have H:lU w b σ σ (wO x b cl) (.ba x.made):=⟨hw,hb,ak.refl _ _⟩
 have a4:intOp .BitAnd x.low (16777216- 1)=some (x.low%16777216):=congrArg some (Ve _)
 have a5:intOp .LShift (x.low%16777216) 8=some (x.low%16777216*256):=lw ⟨by decide,by decide,(nA (aa cF 0x1010001110000000000000000111200100100000000000000001112317200010100000007642100000007100170000107 (mI _ 16777216 ∅) rfl))⟩
 unfold tO at K
 by_cases c:x.low<4278190080\/x.low>=4294967296
 ·have e1:0<=(x.cache+x.low/4294967296)%256/\(x.cache+x.low/4294967296)%256<=255/\x.made.size<=10000:=(gI Jw 0x1110000100000101000000112710041603ff0211007100010740304102010003642100031101710001075021011400602400010110384031503 hn V o6 (mI _ 256 ∅) rfl)
  have e2:0<=(255+x.low/4294967296)%256/\(255+x.low/4294967296)%256<=255:=(aa cF 0x10100011ff021000000010720ff021400101000364210003100170000107 (mI _ 256 ∅) rfl)
  have e7:x.made.size+1+(x.held.toNat- 1)<=10000:=(gI jR 0x11010112710041301011204430040224010113045102101140020240384031103 hn o6 (cG (aq aX 0x11110101131020000010110 V (jj _) rfl)) (be (aa az 0x110000100010110 V rfl)) rfl)
  have e5:0<1/\1<=16/\ -1000<=x.held- 1/\x.held- 1<=1000:=(bB cQ 0x10110101000100013e80311011005010110053e8031307100211011371011001471021011400202400010110384031103 hn V o6 rfl)
  have a1:intOp .RShift x.low 32=some (x.low/4294967296):=jG ∅
  have a3:intOp .RShift x.low 24=some (x.low/16777216):=jG ∅
  replace K:=(if_pos c)▸K
  generalize hu:qq ((x.cache+x.low/4294967296)%256).toNat=u at K
  generalize hv:qq ((255+x.low/4294967296)%256).toNat=v at K
  have J:=H.O0 U (.ba (x.made.push u))
  have m1:=abZ (φ:=ae k) H.gb H.gb e1
  replace m1:=hu▸m1
  have b1:=Wj (σ:=σ.set b (.ba (x.made.push u))) e2
  rw [hv] at b1
  have O:=J.cU [.list [.int ((255+x.low/4294967296)%256)]]
  have b2:=VQ (σ:=σ.set b (.ba (x.made.push u))++[.list [.int ((255+x.low/4294967296)%256)]]) (b:=#[v]) (k:=x.held- 1) e5
  rw [show(#[v]:Array UInt8).toList=[v] from rfl,afl,show(x.held- 1).toNat=x.held.toNat- 1 by exact(bB dQ 0x110101100101120105003022301011204510110051022 (be (aa az 0x11101100500100010110 V rfl)) (cG (aq aX 0x11110101131020000010110 V (jj _) rfl)) (be (aa az 0x110000100010110 V rfl)) rfl)] at b2
  have m2:=ab0 (φ:=ae k) (x:=CG (x.held.toNat- 1) v) J.gb O.gb (by rw [TS,Array.size_replicate];exact e7)
  have Y:=O.O0 U (.ba (x.made.push u++CG (x.held.toNat- 1) v))
  have p4:=Y.pX U (wO {x with cache:=x.low/16777216%256} b cl)
  have Z:=p4.pX U (wO {x with cache:=x.low/16777216%256,held:=0} b cl)
  have p6:=Z.pX U (wO {x with cache:=x.low/16777216%256,held:=1} b cl)
  have p7:=p6.pX U (wO {x with cache:=x.low/16777216%256,held:=1,low:=x.low%16777216*256} b cl)
  refine K _ ?_ p7.gw p7.gb p7.f
  by_cases c1:x.low<4278190080
  ·exists call DQ λt=>t H.gw (iR c1) H.gw a1 H.gw H.gw (uM _) m1 J.gw (uM _) rfl b1 O.gw b2 m2 Y.gw a3 (uM _) Y.gw rfl p4.gw rfl Z.gw Z.gw rfl p6.gw a4 a5 p6.gw rfl
  ·have c2:x.low>=4294967296:=c.resolve_left c1
   exists call DQ λt=>t H.gw (gJ c1) H.gw (AD c2) H.gw a1 H.gw H.gw (uM _) m1 J.gw (uM _) rfl b1 O.gw b2 m2 Y.gw a3 (uM _) Y.gw rfl p4.gw rfl Z.gw Z.gw rfl p6.gw a4 a5 p6.gw rfl
 ·have c1:¬x.low<4278190080:=λq=>c (.inl q)
  have c2:¬x.low>=4294967296:=λq=>c (.inr q)
  rw [if_neg c] at K
  have J:=H.pX U (wO {x with held:=x.held+1} b cl)
  have O:=J.pX U (wO {x with held:=x.held+1,low:=x.low%16777216*256} b cl)
  refine K _ ?_ O.gw O.gb O.f
  exists call DQ λt=>t H.gw (gJ c1) H.gw (AB c2) H.gw H.gw rfl J.gw a4 a5 J.gw rfl
theorem O4(h:RWok0 x n)(H:0<=x.span/\x.span<4294967296):kY (tO x) (n+1):=by
 have O:=h.low
 have J:=h.cache
 have V:=h.held
 have U:=h.made
 unfold tO
 split
 ·refine⟨⟨?_,?_,?_,?_⟩,?_,?_⟩<;>simp<;>(first|lia|omega)
 ·refine⟨⟨?_,?_,?_,?_⟩,?_,?_⟩<;>simp<;>(first|lia|omega)
noncomputable def vg(x:RW):RW:=if x.span<16777216 then tO {x with span:=x.span*256} else x
theorem ad6(O:σ[w]?=some (wO x b false)):am (ae (k+1)) 419 [.ref w] σ=some (.none,σ):=by
 exists call XO λt=>t O
theorem Y4(O:σ[w]?=some (wO x b cl))(U:σ[b]?=some (.ba x.made))(H:kY x n)(Z:n<=900){G:Prop}
  (K:∀σ',am (ae (k+2)) 412 [.ref w] σ=some (.none,σ')->σ'[w]?=some (wO (vg x) b cl)->σ'[b]?=some (.ba (vg x).made)->ak (λn=>n=w\/n=b) σ σ'->G):G:=by
 have V:w≠b:=by intro q;subst q;rw [O] at U;cases U
 unfold vg at K
 by_cases c:x.span<16777216
 ·replace K:=(if_pos c)▸K
  have o2:=H.span
  have a1:intOp .LShift x.span 8=some (x.span*256):=lw ⟨by decide,by decide,(nA (aa az 0x101011100000000000000001112001001000000000000000011123171000000000910010000107 o2 rfl))⟩
  have p0:lU w b σ σ (wO x b cl) (.ba x.made):=⟨O,U,ak.refl _ _⟩
  have Y:=p0.pX V (wO {x with span:=x.span*256} b cl)
  have J:=Y.gw
  refine O5 (k:=k) J Y.gb ⟨H.low,H.cache,H.held,H.made⟩ Z λσ' h1 h2 h3 h4=>K σ' ?_ h2 h3 (Y.f.trans h4)
  exists call Kp λt=>t O (iR c) O a1 O rfl (bM J rfl rfl) h1
 ·replace K:=(if_neg c)▸K
  exact K σ (by exists call Kp λt=>t O (gJ c)
   ) O U (ak.refl _ _)
theorem Y3(h:kY x n):kY (vg x) (n+1):=by
 unfold vg
 have o2:=h.span
 split
 ·exact O4 ⟨h.low,h.cache,h.held,h.made⟩ (by simp;(first|lia|omega))
 ·have:=h.made
  exact⟨⟨h.low,h.cache,h.held,(aa cQ 0x1110112042101140010240202101140010240 this rfl)⟩,h.span,h.both⟩
noncomputable def ig(x:RW)(m bit:Int):RW:=vg (if bit=0 then{x with span:=x.span/2048*m} else{x with low:=x.low+x.span/2048*m,span:=x.span- x.span/2048*m})
theorem Wc{s m:Int}(O:0<=s)(H:0<=m/\m<=2048):0<=s/2048*m/\s/2048*m<=s:=by
 have J:0<=s/2048:=ze O ∅
 have U:s/2048*m<=s/2048*2048:=Sa H.2 J
 have V:s/2048*2048<=s:=(aa dB 0x1110008000370800031008000364101100080003607 (dI _ 2048 ∅) rfl)
 exact⟨o8 J H.1,(aq cF 0x111200002010800037010800037000 U V rfl)⟩
theorem Oh{x:RW}{n:Nat}{m bit:Int}(h:kY x n)(H:0<=m/\m<=2048):kY (if bit=0 then{x with span:=x.span/2048*m} else{x with low:=x.low+x.span/2048*m,span:=x.span- x.span/2048*m}) n:=by
 have O:=h.low
 have o2:=h.span
 have o3:=h.both
 have b:=Wc o2.1 H
 split
 ·exact⟨⟨h.low,h.cache,h.held,h.made⟩,by simp;exact(aq dB 0x101010001110000000009110110001070010010001071000000000910010000107 o2 b rfl),by simp;exact(aq cF 0x1101200000000091200041102002000107200000000091100041 o3 b rfl)⟩
 ·exact⟨⟨by simp;exact(aq cF 0x1011100040010201001000107000010 O b rfl),h.cache,h.held,h.made⟩,by simp;exact(aq dB 0x10011001011000000000911000510010070010010001071000000000910010000107 o2 b rfl),by simp;exact(aa cF 0x11200000000091201052000441200000000091100041 o3 rfl)⟩
theorem VV{x:RW}{n:Nat}{m bit:Int}(h:kY x n)(H:0<=m/\m<=2048):kY (ig x m bit) (n+1):=Y3 (Oh h H)
theorem ak.row{F}(x:ak F σ σ')(h:cD σ r d c D)(V:¬F r)(O:¬F d):cD σ' r d c D:=by
 unfold cD at h⊢
 split
 ·rename_i q;rw [if_pos q] at h;exact x.get h V
 ·rename_i q;rw [if_neg q] at h;exact⟨x.get h.1 V,x.get h.2.1 O,h.2.2⟩
theorem VW{w b r d:Nat}{x:RW}{n:Nat}{c i bit:Int}{D:DD}(O:σ[w]?=some (wO x b false))(hb:σ[b]?=some (.ba x.made))(hR:cD σ r d c D)
  (Z:r≠w/\r≠b) (hd:d≠w/\d≠b) (ok:kY x n) (hn:n<=900) (hi:0<=i/\i<c) (ZF:bit=0\/bit=1) (hm:1<=getm D i/\getm D i<=2047) (hl:D.length<=1000) {G:Prop}
  (K:∀σ',am (ae (k+3)) 426 [.ref w,.ref r,.int i,.int bit] σ=some (.none,σ')->σ'[w]?=some (wO (ig x (getm D i) bit) b false)->σ'[b]?=some (.ba (ig x (getm D i) bit).made)->
   cD σ' r d c (fT D i (iT (getm D i) bit))->ak (λn=>n=w\/n=b\/n=r\/n=d) σ σ'->G):G:=by
 have jw:w≠b:=by intro q;subst q;replace hb:=O▸hb;cases hb
 have o2:=ok.span
 have J:intOp .Mult (x.span/2048) (getm D i)=some (x.span/2048*getm D i):=nJ (.inr (nA (aa az 0x101011100000000000000001112001001000000000000000011123177ff03100000101107 hm rfl)))
 have a1:intOp .RShift x.span 11=some (x.span/2048):=jG ∅
 have NS:=Oh ok (m:=getm D i) (bit:=bit) ⟨(aa az 0x110000107ff03100000101107 hm rfl),(aa az 0x1018000310007ff03100000101107 hm rfl)⟩
 unfold ig at K
 generalize H:(if bit=0 then{x with span:=x.span/2048*getm D i} else{x with low:=x.low+x.span/2048*getm D i,span:=x.span- x.span/2048*getm D i}:RW)=U at K NS
 have em:U.made=x.made:=by rw [←H];split<;>rfl
 have p0:lU w b σ σ (wO x b false) (.ba x.made):=⟨O,hb,ak.refl _ _⟩
 have p1:=p0.pX jw (wO U b false)
 have F1:ak (λn=>n=w) σ (σ.set w (wO U b false)):=ak.set _ _ _ rfl
 refine afB (k:=k+1) (v:=iT (getm D i) bit) (F1.row hR Z.1 hd.1) hi hl λaC g1 g2 g3 g4=>?_
 have V:aC[w]?=some (wO U b false):=(g3 w Z.1.symm hd.1.symm).trans p1.gw
 have s2b:aC[b]?=some (.ba U.made):=(g3 b Z.2.symm hd.2.symm).trans (em▸p1.gb)
 refine Y4 (k:=k) V s2b NS hn λdH f1 f2 f3 f4=>K dH ?_ f2 f3 (f4.row g2 (λq=>q.elim Z.1 Z.2) (λq=>q.elim hd.1 hd.2))
  ((F1.wide λY q=>.inl q).trans (ak.trans ⟨kr g4.symm,λm Y h2=>g3 m (λq=>h2 (.inr (.inr (.inl q)))) (λq=>h2 (.inr (.inr (.inr q))))⟩ (f4.wide λY q=>q.elim .inl λq=>.inr (.inl q))))
 have n1:=ad6 (k:=k+1) O
 have n2:am (ae (k+2)) 370 [.int bit] σ=some (.none,σ):=ahi ZF
 have n3:=BF (k:=k+1) hR hi
 have n4:am (ae (k+2)) 363 [.int (getm D i),.int bit] (σ.set w (wO U b false))=some (.int (iT (getm D i) bit),σ.set w (wO U b false)):=ahj _ _
 by_cases hq:bit=0
 ·rw [if_pos hq] at H
  subst H
  exists call Ko λt=>t n2 (bM O rfl rfl) n1 n3 O a1 J (eqT hq) O rfl n4 g1 (bM V rfl rfl) f1
 ·rw [if_neg hq] at H
  subst H
  have p2:=p0.pX jw (wO {x with low:=x.low+x.span/2048*getm D i} b false)
  exists call Ko λt=>t n2 (bM O rfl rfl) n1 n3 O a1 J (gy hq) O O rfl p2.gw p2.gw (Im ..) n4 g1 (bM V rfl rfl) f1
end
noncomputable def XB.stmt:XB->Nat->XS
 |.nil,_=>.bad
 |.cons s _,0=>s
 |.cons _ b,n+1=>b.stmt n
def vh(H:Fl)(P:Prop)(Q:V->Prop):Prop:=match H with
 |.ret u=>Q u
 |_=>P
section
variable {φ:bK}{σ:AH}{ρ:bc}
theorem Y7{P:Prop}{Q:V->Prop}{G:Prop}(h:vh J P Q)(a:(∀u,J≠.ret u)->P->G)(b:∀u,J=.ret u->Q u->G):G:=by
 cases J with
 |ret u=>exact b u rfl h
 |next=>exact a (λY q=>nomatch q) h
 |cont=>exact a (λY q=>nomatch q) h
theorem Lh{body:bc->M (Fl×bc)}{r}(h:src.jf σ i=some (some v))(H:xt φ t v ρ σ=some (O,σ))(U:body O σ=some ((J,mX),σ'))(V:∀u,J≠.ret u)
  (k:mj φ src t body n (i+1) mX σ'=r):mj φ src t body (n+1) i ρ σ=r:=bI h (bC H (bC U (by
  cases J with
  |ret u=>exact absurd rfl (V u)
  |next=>exact k
  |cont=>exact k)))
theorem Zb{body:bc->M (Fl×bc)}(h:src.jf σ i=some (some v))(H:xt φ t v ρ σ=some (O,σ))(J:body O σ=some ((.ret u,mX),σ')):mj φ src t body (n+1) i ρ σ=some ((.ret u,mX),σ'):=bI h (bC H (bC J rfl))
theorem Za{body:bc->M (Fl×bc)}(h:src.jf σ i=some none):mj φ src t body (n+1) i ρ σ=some ((.next,ρ),σ):=bI h rfl
variable {s:XS}{t:XT}{it:XI}{b:XB}{l:List V}{src:Src}{cZ:AH}{I:Nat->bc->AH->Prop}{Q:V->AH->Prop}
theorem Lg(V:∀i ρ σ,I i ρ σ->src.jf σ i=some l[i]?)
  (H:∀i v ρ σ,l[i]?=some v->I i ρ σ->∀G:Prop,(∀O Y aV σ',xt φ t v ρ σ=some (O,σ)->xb φ b O σ=some ((Y,aV),σ')->vh Y (I (i+1) aV σ') (Q · σ')->G)->G):
  ∀n i ρ σ,i+n=l.length->I i ρ σ->∀{G:Prop},(∀aV σ',mj φ src t (λρ=>xb φ b ρ) (n+1) i ρ σ=some ((.next,aV),σ')->I l.length aV σ'->G)->
   (∀u aV σ',mj φ src t (λρ=>xb φ b ρ) (n+1) i ρ σ=some ((.ret u,aV),σ')->Q u σ'->G)->G
 |0,i,ρ,σ,J,h,G,K,Z=>K ρ σ (Za ((V i ρ σ h).trans (congrArg some (qv (kr J.symm))))) (J▸h)
 |n+1,i,ρ,σ,J,h,G,K,Z=>
  have q:i<l.length:=J▸Sp (Io n)
  have e:l[i]?=some l[i]:=iy q
  have hl:=(V i ρ σ h).trans (congrArg some e)
  H i _ ρ σ e h G λO Y mX aC h1 h2 h3=>Y7 h3
   (λU h4=>Lg V H n (i+1) mX aC (by rw [←J,CP,CT 1]) h4 (λaV σ' h5=>K aV σ' (Lh hl h1 h2 U h5)) λu aV σ' h5=>Z u aV σ' (Lh hl h1 h2 U h5))
   λu U h4=>Z u mX aC (Zb hl h1 (U▸h2)) h4
theorem Cb(Y:s=.loop t it b)(J:xi φ ρ it σ=some (src,cZ))(U:src.sC cZ=l.length+1)(Z:I 0 ρ cZ)(hI:∀i ρ σ,I i ρ σ->src.jf σ i=some l[i]?)
  (H:∀i v ρ σ,l[i]?=some v->I i ρ σ->∀G:Prop,(∀O V aV σ',xt φ t v ρ σ=some (O,σ)->xb φ b O σ=some ((V,aV),σ')->vh V (I (i+1) aV σ') (Q · σ')->G)->G)
  {G:Prop} (K:∀aV σ',xs φ s ρ σ=some ((.next,aV),σ')->I l.length aV σ'->G) (K':∀u aV σ',xs φ s ρ σ=some ((.ret u,aV),σ')->Q u σ'->G):G:=by
 subst Y
 refine Lg hI H l.length 0 ρ cZ (CX _) Z (λaV σ' h=>K aV σ' ?_) λu aV σ' h=>K' u aV σ' ?_
 ·exact bC J (by exact U▸h)
 ·exact bC J (by exact U▸h)
theorem mF(U:s=.loop t it b)(V:xi φ ρ it σ=some (.lst l,cZ))(I:Nat->bc->AH->Prop)(Z:I 0 ρ cZ)
  (H:∀i v ρ σ,l[i]?=some v->I i ρ σ->∀G:Prop,(∀O J aV σ',xt φ t v ρ σ=some (O,σ)->xb φ b O σ=some ((J,aV),σ')->vh J (I (i+1) aV σ') (λY=>False)->G)->G)
  {G:Prop} (K:∀aV σ',xs φ s ρ σ=some ((.next,aV),σ')->I l.length aV σ'->G):G:=
 Cb (Q:=λY Y=>False) U V rfl Z (λY Y Y Y=>rfl) H K λY Y Y Y h=>h.elim
end
theorem yz(a b:Int):(lr a b).length=(a- b).toNat:=by rw [lr,bf,gO]
theorem oT(a b:Int):(eV a b).length=(b- a).toNat:=by rw [eV,bf,gO]
theorem BD{a b:Int}{i:Nat}{v:V}(h:(lr a b)[i]?=some v):v=.int (a- i)/\(i:Int)<a- b:=⟨(yC h).trans (congrArg V.int (by rw [Int.mul_neg_one];exact Td.symm)),Int.lt_toNat.mp (yz a b▸(gC.mp h).1)⟩
theorem mD{a b:Int}{i:Nat}{v:V}(h:(eV a b)[i]?=some v):v=.int (a+i)/\(i:Int)<b- a:=⟨(yC h).trans (congrArg V.int (bx aX 0x1110200410210170042 rfl)),Int.lt_toNat.mp (oT a b▸(gC.mp h).1)⟩
theorem nP(h:x.natAbs<1099511627776):iE x=true:=decide_eq_true h
theorem BQ(h:x.natAbs<1099511627776)(h':y.natAbs<1099511627776):(iE x&&iE y)=true:=by rw [nP h,nP h'];rfl
theorem I8(x:Int):ul x 1=x%2:=zr x 1
theorem nh(x:Int):intOp .BitAnd x 1=some (x%2):=congrArg some (I8 x)
theorem aeA(x y:Int):CO x y=x+y- ul x y:=by
 have h:=bitXor_and x y
 unfold Builtin.bitXor at h
 exact(aa qG 0x1110110302045002102016302045100052 h rfl)
theorem yr(n b:Int)(h:b=0\/b=1):CO (n*2) b=n*2+b:=by
 rw [aeA]
 rcases h with rfl|rfl
 ·have:ul (n*2) 0=n*2%1:=zr _ 0
  exact this▸(aa cF 0x11001010012020174000012020174522020170010101642101100170000107 (mI _ 1 ∅) rfl)
 ·rw [I8,Int.mul_emod_left,Int.sub_zero]
theorem l8(x:Int):x%2=0\/x%2=1:=Int.emod_two_eq x
noncomputable abbrev Ev:=Nat×Int×Int
noncomputable def bU(many:Nat)(value:Int)(t:Nat):Int:=2^t+value/2^(many- t)
noncomputable def ej(many:Nat)(value:Int)(t:Nat):Int:=value/2^(many- 1- t)%2
noncomputable def eE(begin:Int)(many:Nat)(value:Int):List (Int×Int):=(bV many).map λt=>(begin+bU many value t,ej many value t)
noncomputable def eU(row:Nat)(begin:Int)(many:Nat)(value:Int):List Ev:=(eE begin many value).map λp=>(row,p.1,p.2)
theorem rh(h:t<many):bU many value (t+1)=bU many value t*2+ej many value t:=by
 unfold bU ej
 have e:many- t=(many- 1- t)+1:=(bB nk 0x1101011001011101130400520101140454010304520100045 (cG (aa aJ 0x111000310004 h rfl)) (cG (aq bL 0x110120003101120410310203710004 h (sN _ _) rfl)) (cG (aa aJ 0x11101011310004 h rfl)) rfl)
 have H:many- (t+1)=many- 1- t:=(bB nk 0x1011011010011102054030004540101130420451011104005 e (cG (aa aJ 0x11101011004310004 h rfl)) (cG (aa aJ 0x111000310004 h rfl)) rfl)
 rw [e,H,qk (2:Int) (many- 1- t),qk,←wd (uq ∅)]
 generalize value/2^(many- 1- t)=q
 exact(aa qG 0x10001010010010304201742030201742200010201642201100170000107 (mI _ 2 ∅) rfl)
theorem vM(h:0<=value/\value<2^many):bU many value 0=1:=by
 unfold bU
 rw [CV,wg h.1 h.2];rfl
theorem yn(h:0<=value/\value<2^many)(Z:t<=many):1<=bU many value t/\bU many value t<2^(t+1):=by
 unfold bU
 have H:0<=value/2^(many- t):=ze h.1 (uq ∅)
 have J:value/2^(many- t)<2^t:=by
  apply Ci (g7 ∅)
  rw [←wB,show t+(many- t)=many by exact(aa bL 0x111012000104520100045 (cG (aa aJ 0x111000310003 Z rfl)) rfl)]
  exact h.2
 have O:(1:Int)<=2^t:=by
  have:(0:Int)<2^t:=g7 ∅
  exact(aq dB 0x111101011010001000010 H J rfl)
 have U:(2:Int)^(t+1)=2^t*2:=qk ..
 exact(bB cF 0x110121001200010410010410110710201720210001000010 H J U rfl)
noncomputable def dJ{X:Type}(u:Bool)(st:X->Int->Int->X)(z:X×DD)(p:Int×Int):X×DD:=(st z.1 (getm z.2 p.1) p.2,if u then fT z.2 p.1 (iT (getm z.2 p.1) p.2) else z.2)
def Dg(D:DD)(n:Nat):Prop:=(∀i,1<=getm D i/\getm D i<=2047)/\D.length<=n
theorem aee(b:Int)(h:1<=m/\m<=2047):1<=iT m b/\iT m b<=2047:=by
 unfold iT;split<;>(first|lia|omega)
theorem Dg.set(h:Dg D n)(i b:Int):Dg (fT D i (iT (getm D i) b)) (n+1):=by
 refine⟨λj=>?_,?_⟩
 ·rw [AG];split
  ·exact aee b (h.1 i)
  ·exact h.1 j
 ·have:=Gj i (iT (getm D i) b) D
  have:=h.2;(first|lia|omega)
theorem Dg.dJ{X:Type}{u:Bool}{st:X->Int->Int->X}{z:X×DD}{n:Nat}(h:Dg z.2 n)(p:Int×Int):Dg (Internal.dJ u st z p).2 (n+1):=by
 unfold Internal.dJ
 cases u with
 |true=>exact h.set _ _
 |false=>exact⟨h.1,Tv h.2⟩
theorem aef:Dg [] 0:=⟨λi=>by unfold getm gG;simp,cY _⟩
theorem BA(h:i<many):(eE begin many value)[i]?=some (begin+bU many value i,ej many value i):=by
 unfold eE;rw [eT,mS h];rfl
theorem vU(begin value:Int)(many:Nat):(eE begin many value).length=many:=by simp [eE]
theorem D8{α β:Type}(f:β->α->β)(z:β){l:List α}{i:Nat}{a:α}(h:l[i]?=some a):(l.take (i+1)).foldl f z=f ((l.take i).foldl f z) a:=by
 rw [HK,h,Cv];rfl
theorem cD.ne{fs}(h:cD σ r d c D)(O:σ[w]?=some (.obj C fs))(V:C≠104):r≠w:=by
 intro q;subst q
 unfold cD at h
 split at h
 ·replace h:=O▸h;cases h
 ·replace h:=O▸h;exact V (by have:=h.1;cases this;rfl)
theorem iw(h:a<=b):(2:Int)^a<=2^b:=by
 have:=Hu (n:=2) ∅ h
 exact_mod_cast this
noncomputable def turn:Nat->Int->Int
 |0,_=>0
 |n+1,v=>turn n v*2+v/2^n%2
theorem yO(v:Int):∀n,0<=turn n v/\turn n v<2^n
 |0=>⟨qn _,by show(0:Int)<2^0;decide⟩
 |n+1=>by
  have:=yO v n
  have h:=l8 (v/2^n)
  unfold turn
  rw [qk]
  exact(aq nq 0x20001010200011102017200020174120002017400107402030201642201120172000107100010000107 this (mI _ 2 ∅) rfl)
theorem PW(v:Int)(i:Nat):∀j,turn (i+j) v/2^j=turn i v
 |0=>by simp
 |j+1=>by
  have H:=PW v i j
  rw [show i+(j+1)=(i+j)+1 from rfl,turn,qk,rN (2^j) 2,←wd ∅]
  have e:(turn (i+j) v*2+v/2^(i+j)%2)/2=turn (i+j) v:=by
   have:=l8 (v/2^(i+j));exact(aq nq 0x10010210000121000240203020164220112017200010720110020164201020174120102017400201607 (dI _ 2 ∅) (mI _ 2 ∅) rfl)
  rw [e,H]
theorem aif(v:Int)(h:i<many):ej many (turn many v) i=v/2^i%2:=by
 unfold ej
 have:=PW v (i+1) (many- 1- i)
 rw [show i+1+(many- 1- i)=many by exact(aq dR 0x1011101013000101110445301011204520100045 (cG (aq bL 0x110120003101120410310203710004 h (sN _ _) rfl)) (cG (aa aJ 0x11101011310004 h rfl)) rfl)] at this
 rw [this,turn]
 (first|lia|omega)
theorem qF(many:Nat)(v:Int)(t:Nat):ej many v t=0\/ej many v t=1:=l8 _
def lS(w b:Nat)(x:RW)(n:Nat)(σ:AH):Prop:=σ[w]?=some (wO x b false)/\σ[b]?=some (.ba x.made)/\kY x n
def jq(w b:Nat)(m:Nat):Prop:=m=w\/m=b
section
variable {k:Nat}{σ:AH}
theorem Ga(O:lS w b x n σ)(Y:cD σ r d c D)(Z:¬jq w b r)(hd:¬jq w b d)(U:Dg D n)(V:n<900)(hi:0<=i/\i<c)(H:bit=0\/bit=1){G:Prop}
  (K:∀σ',am (ae (k+3)) 426 [.ref w,.ref r,.int i,.int bit] σ=some (.none,σ')->lS w b (dJ true ig (x,D) (i,bit)).1 (n+1) σ'->cD σ' r d c (dJ true ig (x,D) (i,bit)).2->ak (λm=>jq w b m\/m=r\/m=d) σ σ'->G):G:=
 have J:=U.1 i
 VW (k:=k) O.1 O.2.1 Y (not_or.mp Z) (not_or.mp hd) O.2.2 (iI V) hi H J (bo U.2 (aa au 0x113e8031003384031004 V rfl)) λσ' h1 h2 h3 h4 h5=>
  K σ' h1 ⟨h2,h3,VV O.2.2 (m:=getm D i) ⟨(aa az 0x110000107ff03100000101107 J rfl),(aa az 0x1018000310007ff03100000101107 J rfl)⟩⟩ h4 (h5.wide λm q=>q.elim (λq=>.inl (.inl q)) λq=>q.elim (λq=>.inl (.inr q)) .inr)
theorem afL{w b r d:Nat}{x:RW}{n many:Nat}{c begin value:Int}{D:DD}(hw:lS w b x n σ)(hR:cD σ r d c D)
  (hr:¬jq w b r) (hd:¬jq w b d) (hD:Dg D n) (hn:n+many<=900) (V:1<=many/\many<=8) (U:0<=value/\value<2^many) (hi:0<=begin/\begin+2^many<=c) {G:Prop}
  (K:∀σ',am (ae (k+4)) 440 [.ref w,.ref r,.int begin,.int many,.int value] σ=some (.none,σ')->
   lS w b ((eE begin many value).foldl (dJ true ig) (x,D)).1 (n+many) σ'->cD σ' r d c ((eE begin many value).foldl (dJ true ig) (x,D)).2->ak (λm=>jq w b m\/m=r\/m=d) σ σ'->G):G:=by
 have Ez:am (ae (k+3)) 377 [.int value,.int many] σ=some (.none,σ):=BS ⟨(bx au 0x10020010 rfl),(aa au 0x1013e80310020801100300101137 V rfl),U.1,by simpa using U.2⟩
 refine mF (φ:=ae (k+3)) (σ:=σ) (cZ:=σ) (ρ:=[some (.ref w),some (.ref r),some (.int begin),some (.int many),some (.int value),some (.int 1),none,none]) (s:=GU.stmt 2) (l:=lr ((many:Int) - 1) (-1)) rfl (by
   exists iter λt=>t (BQ (nA (aa au 0x101011100000000000b1210110025110110025100000000000b12317801100300101137 V rfl)) ∅)
   )
  (λi ρ σ'=>∀G:Prop,(∀a a',ρ=[some (.ref w),some (.ref r),some (.int begin),some (.int many),some (.int value),some (.int (bU many value i)),a,a']->
   lS w b (((eE begin many value).take i).foldl (dJ true ig) (x,D)).1 (n+i) σ'->Dg (((eE begin many value).take i).foldl (dJ true ig) (x,D)).2 (n+i)->
   cD σ' r d c (((eE begin many value).take i).foldl (dJ true ig) (x,D)).2->ak (λm=>jq w b m\/m=r\/m=d) σ σ'->G)->G)
  (λY K=>K none none (by rw [vM U]) hw hD hR (ak.refl _ _)) (λi v ρ av gc hI G K=>hI G λa a' e H g4 J g6=>?_) λaV σ' h1 h2=>h2 G λa a' e H g4 J g6=>?_
 ·subst e
  obtain⟨rfl,Z⟩:=BD gc
  have Z:i<many:=(aa aJ 0x1110004101131011102550021 Z rfl)
  have hN:=yn U (iI Z)
  have O:(2:Int)^(i+1)<=2^many:=iw Z
  have xJ:(2:Int)^many<=2^8:=iw V.2
  have hs:intOp .RShift value ((many:Int) - 1- i)=some (value/2^(many- 1- i)):=by rw [jG (by exact(aa aJ 0x11002101110255001010004 Z rfl)),show((many:Int) - 1- i).toNat=many- 1- i from GB Z]
  have xC:intOp .BitAnd (value/2^(many- 1- i)) 1=some (ej many value i):=nh _
  replace K:=(D8 _ _ (BA Z))▸K
  generalize ((eE begin many value).take i).foldl (dJ true ig) (x,D)=z at*
  refine Ga (k:=k) (i:=begin+bU many value i) (bit:=ej many value i) H J hr hd g4 (aq bL 0x11138403120004410204384031100043 hn Z rfl) (bB nq 0x101011010101203000413000400107104004030130101107201000400000107 hi hN O rfl) (l8 _) λaC f1 f2 f3 f4=>
   K _ .next _ aC rfl ?_ λG K=>K (some (.int ((many:Int) - 1- i))) (some (.int (ej many value i))) rfl f2 (g4.dJ _) f3 (g6.trans f4)
  have D9:=H.1
  have xH:intOp .BitOr (bU many value i*2) (ej many value i)=some (bU many value (i+1)):=congrArg some (by rw [yr _ _ (qF ..),rh Z])
  have qQ:intOp .LShift (bU many value i) 1=some (bU many value i*2):=lw ⟨by decide,by decide,(nA (bB cF 0x101110100110000000000000000111200100100000000000000001112317100031200201001000100101107 hN O xJ rfl))⟩
  exists body λt=>t hs xC (bM D9 rfl rfl) f1 qQ xH
 ·subst e
  rw [yz,show((many:Int) - 1- -1).toNat=many by exact(aa aJ 0x1110110005101131011102550022 (be (bx au 0x1101131011002550010 rfl)) rfl)] at H J
  rw [yX (kr (vU ..))] at H J
  refine K σ' ?_ H J g6
  exists call XR λt=>t Ez h1
theorem afK{w b r d:Nat}{x:RW}{n many:Nat}{c begin value:Int}{D:DD}(hw:lS w b x n σ)(hR:cD σ r d c D)
  (hr:¬jq w b r) (hd:¬jq w b d) (hD:Dg D n) (hn:n+many<=900) (V:1<=many/\many<=8) (hv:0<=value/\value<2^many) (hi:0<=begin/\begin+2^many<=c) {G:Prop}
  (K:∀σ',am (ae (k+4)) 447 [.ref w,.ref r,.int begin,.int many,.int value] σ=some (.none,σ')->
   lS w b ((eE begin many (turn many value)).foldl (dJ true ig) (x,D)).1 (n+many) σ'->cD σ' r d c ((eE begin many (turn many value)).foldl (dJ true ig) (x,D)).2->ak (λm=>jq w b m\/m=r\/m=d) σ σ'->G):G:=by
 have Ez:am (ae (k+3)) 377 [.int value,.int many] σ=some (.none,σ):=BS ⟨(bx au 0x10020010 rfl),(aa au 0x1013e80310020801100300101137 V rfl),hv.1,by simpa using hv.2⟩
 have J:=yO value many
 refine mF (φ:=ae (k+3)) (σ:=σ) (cZ:=σ) (ρ:=[some (.ref w),some (.ref r),some (.int begin),some (.int many),some (.int value),some (.int 1),none,none]) (s:=GT.stmt 2) (l:=eV 0 (many:Int)) rfl (by
   exists iter λt=>t (nP (nA (aa au 0x101011100000000000b120021002100000000000b12317801100300101137 V rfl)))
   )
  (λi ρ σ'=>∀G:Prop,(∀a a',ρ=[some (.ref w),some (.ref r),some (.int begin),some (.int many),some (.int value),some (.int (bU many (turn many value) i)),a,a']->
   lS w b (((eE begin many (turn many value)).take i).foldl (dJ true ig) (x,D)).1 (n+i) σ'->Dg (((eE begin many (turn many value)).take i).foldl (dJ true ig) (x,D)).2 (n+i)->
   cD σ' r d c (((eE begin many (turn many value)).take i).foldl (dJ true ig) (x,D)).2->ak (λm=>jq w b m\/m=r\/m=d) σ σ'->G)->G)
  (λY K=>K none none (by rw [vM J]) hw hD hR (ak.refl _ _)) (λi v ρ av gc hI G K=>hI G λa a' e H g4 O g6=>?_) λaV σ' h1 h2=>h2 G λa a' e H g4 O g6=>?_
 ·subst e
  obtain⟨rfl,Z⟩:=mD gc
  have Z:i<many:=(aa aJ 0x111000400110250021 Z rfl)
  have hN:=yn J (iI Z)
  have U:(2:Int)^(i+1)<=2^many:=iw Z
  have xJ:(2:Int)^many<=2^8:=iw V.2
  have hs:intOp .RShift value (0+(i:Int))=some (value/2^i):=by rw [jG (by exact(bx au 0x100200140010 rfl)),show(0+(i:Int)).toNat=i from PO]
  have xC:intOp .BitAnd (value/2^i) 1=some (ej many (turn many value) i):=(nh _).trans (congrArg some (aif _ Z).symm)
  replace K:=(D8 _ _ (BA Z))▸K
  generalize ((eE begin many (turn many value)).take i).foldl (dJ true ig) (x,D)=z at*
  refine Ga (k:=k) (i:=begin+bU many (turn many value) i) (bit:=ej many (turn many value) i) H O hr hd g4 (aq bL 0x11138403120004410204384031100043 hn Z rfl) (bB nq 0x101011010101203000413000400107104004030130101107201000400000107 hi hN U rfl) (l8 _) λaC f1 f2 f3 f4=>
   K _ .next _ aC rfl ?_ λG K=>K (some (.int (0+(i:Int)))) (some (.int (ej many (turn many value) i))) rfl f2 (g4.dJ _) f3 (g6.trans f4)
  have D9:=H.1
  have xH:intOp .BitOr (bU many (turn many value) i*2) (ej many (turn many value) i)=some (bU many (turn many value) (i+1)):=congrArg some (by rw [yr _ _ (qF ..),rh Z])
  have qQ:intOp .LShift (bU many (turn many value) i) 1=some (bU many (turn many value) i*2):=lw ⟨by decide,by decide,(nA (bB cF 0x101110100110000000000000000111200100100000000000000001112317100031200201001000100101107 hN U xJ rfl))⟩
  exists body λt=>t hs xC (bM D9 rfl rfl) f1 qQ xH
 ·subst e
  rw [oT,show((many:Int) - 0).toNat=many by exact(aa aJ 0x111011000500110250022 (be (bx au 0x100100250010 rfl)) rfl)] at H O
  rw [yX (kr (vU ..))] at H O
  refine K σ' ?_ H O g6
  exists call XQ λt=>t Ez h1
end
noncomputable def wU(m b:Int):Int:=BB (16*((if b=0 then m else 2048- m)/16)+8)
noncomputable def stM(x m b:Int):Int:=x+wU m b
noncomputable def nQ(D:DD)(l:List (Int×Int)):Int:=(l.map λp=>wU (getm D p.1) p.2).sum
theorem D7(D:DD):∀(l:List (Int×Int)) (x:Int),l.foldl (dJ false stM) (x,D)=(x+nQ D l,D)
 |[],x=>by simp [nQ]
 |p::l,x=>by
  rw [wq]
  show l.foldl (dJ false stM) (stM x (getm D p.1) p.2,D)=_
  rw [D7 D l]
  simp [stM,nQ,Int.add_assoc]
theorem ahB{D:DD}{l:List (Int×Int)}{i:Nat}{p:Int×Int}(h:l[i]?=some p):nQ D (l.take (i+1))=nQ D (l.take i)+wU (getm D p.1) p.2:=by
 unfold nQ
 rw [HK,h]
 simp
section
variable {k:Nat}{σ:AH}
theorem Jr(H:1<=m/\m<=2047)(O:b=0\/b=1):am (ae (k+1)) 3709 [.int m,.int b] σ=some (.int (wU m b),σ):=by
 have J:0<=m/16/\m/16<128:=(aq dB 0x10011002f01101002f8002110110001071002110100264001001010026077ff03100000101107 H (dI _ 16 ∅) rfl)
 have U:0<=(2048- m)/16/\(2048- m)/16<128:=(aq dB 0x1011002f10101002f800211011000107100211010026400800031510080003151010026077ff03100000101107 H (dI _ 16 ∅) rfl)
 have a1 (x:Int):intOp .RShift x 4=some (x/16):=jG ∅
 rcases O with rfl|rfl
 ·exists call Kx λt=>t (eqT ∅) (a1 _) J
 ·exists call Kx λt=>t (gy ∅) (a1 _) U
theorem PU{r d many:Nat}{c begin value:Int}{D:DD}{n:Nat}(hR:cD σ r d c D)(hD:Dg D n)(J:1<=many/\many<=8)(H:0<=value/\value<2^many)(hi:0<=begin/\begin+2^many<=c):
  am (ae (k+2)) 3723 [.ref r,.int begin,.int many,.int value] σ=some (.int (nQ D (eE begin many value)),σ):=by
 have U:am (ae (k+1)) 377 [.int value,.int many] σ=some (.none,σ):=BS ⟨(bx au 0x10020010 rfl),(aa au 0x1013e80310020801100300101137 J rfl),H.1,by simpa using H.2⟩
 refine mF (φ:=ae (k+1)) (σ:=σ) (cZ:=σ) (ρ:=[some (.ref r),some (.int begin),some (.int many),some (.int value),some (.int 1),some (.int 0),none,none]) (s:=G5.stmt 2) (l:=lr ((many:Int) - 1) (-1)) rfl (by
   exists iter λt=>t (BQ (nA (aa au 0x101011100000000000b1210110025110110025100000000000b12317801100300101137 J rfl)) ∅)
   )
  (λi ρ σ'=>∀G:Prop,(∀a V,σ'=σ->ρ=[some (.ref r),some (.int begin),some (.int many),some (.int value),some (.int (bU many value i)),some (.int (nQ D ((eE begin many value).take i))),a,V]->G)->G)
  (λY K=>K none none rfl (by exact(vM H)▸rfl)) (λi v ρ av gc hI G K=>hI G λa V e1 e=>?_) λaV σ' h1 h2=>h2 _ λa V e1 e=>?_
 ·subst e e1
  obtain⟨rfl,Z⟩:=BD gc
  have Z:i<many:=(aa aJ 0x1110004101131011102550021 Z rfl)
  have hN:=yn H (iI Z)
  have O:(2:Int)^(i+1)<=2^many:=iw Z
  have xJ:(2:Int)^many<=2^8:=iw J.2
  have hS:=ahB (D:=D) (BA (begin:=begin) (value:=value) Z)
  refine K _ .next _ av rfl ?_ λG K=>K (some (.int ((many:Int) - 1- i))) (some (.int (ej many value i))) rfl (by rw [hS])
  have xH:intOp .BitOr (bU many value i*2) (ej many value i)=some (bU many value (i+1)):=congrArg some (by rw [yr _ _ (qF ..),rh Z])
  have qQ:intOp .LShift (bU many value i) 1=some (bU many value i*2):=lw ⟨by decide,by decide,(nA (bB cF 0x101110100110000000000000000111200100100000000000000001112317100031200201001000100101107 hN O xJ rfl))⟩
  have hs:intOp .RShift value ((many:Int) - 1- i)=some (value/2^(many- 1- i)):=by rw [jG (by exact(aa aJ 0x11002101110255001010004 Z rfl)),show((many:Int) - 1- i).toNat=many- 1- i from GB Z]
  have xC:intOp .BitAnd (value/2^(many- 1- i)) 1=some (ej many value i):=nh _
  have n3:=BF (k:=k) (i:=begin+bU many value i) hR (bB nq 0x101011010101203000413000400107104004030130101107201000400000107 hi hN O rfl)
  have n4:=Jr (k:=k) (σ:=av) (m:=getm D (begin+bU many value i)) (b:=ej many value i) (hD.1 _) (qF ..)
  exists body λt=>t hs xC n3 n4 qQ xH
 ·subst e e1
  rw [yz,show((many:Int) - 1- -1).toNat=many by exact(aa aJ 0x1110110005101131011102550022 (be (bx au 0x1101131011002550010 rfl)) rfl),yX (kr (vU ..))] at h1
  exists call YG λt=>t U h1
theorem aig{many:Nat}{value:Int}(hm:many<=8):am (ae (k+1)) 384 [.int value,.int many] σ=some (.int (turn many value),σ):=by
 refine mF (φ:=ae k) (σ:=σ) (cZ:=σ) (ρ:=[some (.int value),some (.int many),some (.int 0),none]) (s:=G6.stmt 1) (l:=eV 0 (many:Int)) rfl (by
   exists iter λt=>t (nP (nA (aa au 0x1101100000000000b120021002100000000000b123178011003 hm rfl)))
   )
  (λi ρ σ'=>∀G:Prop,(∀a,σ'=σ->ρ=[some (.int value),some (.int many),some (.int (turn i value)),a]->G)->G)
  (λY K=>K none rfl rfl) (λi v ρ av H hI G K=>hI G λa J e=>?_) λaV σ' h1 h2=>h2 _ λa J e=>?_
 ·subst e J
  obtain⟨rfl,Z⟩:=mD H
  have Z:i<many:=(aa aJ 0x111000400110250021 Z rfl)
  have hT:=yO value i
  have O:(2:Int)^i<=2^8:=iw (aq aJ 0x1118011103001048011003 hm Z rfl)
  refine K _ .next _ av rfl ?_ λG K=>K (some (.int (0+(i:Int)))) rfl rfl
  have U:intOp .BitOr (turn i value*2) (value/2^i%2)=some (turn (i+1) value):=congrArg some (by rw [yr _ _ (l8 _),turn])
  have V:intOp .LShift (turn i value) 1=some (turn i value*2):=lw ⟨by decide,by decide,(nA (aq dB 0x1011010110000000000000000111200100100000000000000001112317100031100100010000107 hT O rfl))⟩
  have hs:intOp .RShift value (0+(i:Int))=some (value/2^i):=by rw [jG (by exact(bx au 0x100200140010 rfl)),show(0+(i:Int)).toNat=i from PO]
  exists body λt=>t V hs (nh _) U
 ·subst e J
  rw [oT,show((many:Int) - 0).toNat=many by exact(aa aJ 0x111011000500110250022 (be (bx au 0x100100250010 rfl)) rfl)] at h1
  exists call YH λt=>t h1
theorem afs{r d many:Nat}{c begin value:Int}{D:DD}{n:Nat}(O:cD σ r d c D)(V:Dg D n)(H:1<=many/\many<=8)(J:0<=value/\value<2^many)(Y:0<=begin/\begin+2^many<=c):
  am (ae (k+3)) 3730 [.ref r,.int begin,.int many,.int value] σ=some (.int (nQ D (eE begin many (turn many value))),σ):=by
 have U:am (ae (k+2)) 377 [.int value,.int many] σ=some (.none,σ):=BS ⟨(bx au 0x10020010 rfl),(aa au 0x1013e80310020801100300101137 H rfl),J.1,by simpa using J.2⟩
 have Z:am (ae (k+2)) 384 [.int value,.int many] σ=some (.int (turn many value),σ):=aig H.2
 have h2:=PU (k:=k) O V H (yO value many) Y
 exists call YE λt=>t U Z h2
def rY(w:Nat)(x:Int)(n:Nat)(σ:AH):Prop:=σ[w]?=some (.obj 3895 [(31,.int x)])
theorem Fb{fs}(O:σ[w]?=some (.obj 3895 fs))(H:cD σ r d c D)(J:AC):cD (σ.set w J) r d c D:=by
 have V:=(H.ne O ∅).symm
 unfold cD at H⊢
 by_cases q:c<=64
 ·rw [if_pos q] at H⊢
  exact iN V H
 ·rw [if_neg q] at H⊢
  exact⟨iN V H.1,iN (by intro z;subst z;replace H:=O▸H;cases H.2.1) H.2.1,H.2.2⟩
theorem acm(O:rY w x n σ)(U:cD σ r d c D)(V:Dg D n)(Y:0<=i/\i<c)(H:bit=0\/bit=1){G:Prop}
  (K:∀σ',am (ae (k+2)) 3871 [.ref w,.ref r,.int i,.int bit] σ=some (.none,σ')->rY w (dJ false stM (x,D) (i,bit)).1 (n+1) σ'->cD σ' r d c (dJ false stM (x,D) (i,bit)).2->ak (λm=>m=w) σ σ'->G):G:=by
 have Z:=BF (k:=k) U Y
 have n4:=Jr (k:=k) (σ:=σ) (m:=getm D i) (b:=bit) (V.1 _) H
 refine K (σ.set w (.obj 3895 [(31,.int (x+wU (getm D i) bit))])) ?_ (gH O) (Fb O U _) (ak.set _ _ _ rfl)
 have J:σ[w]?=some (.obj 3895 [(31,.int x)]):=O
 exists call Yi λt=>t J Z n4 J rfl
theorem acp{w r d many:Nat}{x:Int}{n:Nat}{c begin value:Int}{D:DD}(O:rY w x n σ)(H:cD σ r d c D)(U:Dg D n)(V:1<=many/\many<=8)(Y:0<=value/\value<2^many)(Z:0<=begin/\begin+2^many<=c){G:Prop}
  (K:∀σ',am (ae (k+3)) 3885 [.ref w,.ref r,.int begin,.int many,.int value] σ=some (.none,σ')->
   rY w ((eE begin many value).foldl (dJ false stM) (x,D)).1 (n+many) σ'->cD σ' r d c ((eE begin many value).foldl (dJ false stM) (x,D)).2->ak (λm=>m=w) σ σ'->G):G:=by
 rw [D7] at K
 have h2:=PU (k:=k) H U V Y Z
 refine K (σ.set w (.obj 3895 [(31,.int (x+nQ D (eE begin many value)))])) ?_ (gH O) (Fb O H _) (ak.set _ _ _ rfl)
 have J:σ[w]?=some (.obj 3895 [(31,.int x)]):=O
 exists call Yl λt=>t J h2 J rfl
theorem aco{w r d many:Nat}{x:Int}{n:Nat}{c begin value:Int}{D:DD}(O:rY w x n σ)(H:cD σ r d c D)(U:Dg D n)(V:1<=many/\many<=8)(Y:0<=value/\value<2^many)(Z:0<=begin/\begin+2^many<=c){G:Prop}
  (K:∀σ',am (ae (k+4)) 3892 [.ref w,.ref r,.int begin,.int many,.int value] σ=some (.none,σ')->
   rY w ((eE begin many (turn many value)).foldl (dJ false stM) (x,D)).1 (n+many) σ'->cD σ' r d c ((eE begin many (turn many value)).foldl (dJ false stM) (x,D)).2->ak (λm=>m=w) σ σ'->G):G:=by
 rw [D7] at K
 have h2:=afs (k:=k) H U V Y Z
 refine K (σ.set w (.obj 3895 [(31,.int (x+nQ D (eE begin many (turn many value))))])) ?_ (gH O) (Fb O H _) (ak.set _ _ _ rfl)
 have J:σ[w]?=some (.obj 3895 [(31,.int x)]):=O
 exists call Yk λt=>t J h2 J rfl
end
structure MR where
 m:Nat
 p:Nat
 l1:Nat
 l2:Nat
 rr:Nat->Nat
 dd:Nat->Nat
 lc:Int
 lp:Int
 pb:Int
noncomputable def MR.WU(R:MR):List Int:=[192,12,12,12,12,192,256,115,16,768*2^(R.lc+R.lp).toNat,2,8*2^R.pb.toNat,8*2^R.pb.toNat,256,2,8*2^R.pb.toNat,8*2^R.pb.toNat,256]
noncomputable def MR.cnt(R:MR)(i:Nat):Int:=R.WU.getD i 0
theorem aei:∀i,0<=([]:List Int).getD i 0:=λY=>qn 0
theorem iU{x:Int}{l:List Int}(O:0<=x)(h:∀i,0<=l.getD i 0):∀i,0<=(x::l).getD i 0
 |0=>O
 |i+1=>h i
theorem MR.WT(R:MR)(i:Nat):0<=R.cnt i:=by
 have J:(0:Int)<=768*2^(R.lc+R.lp).toNat:=o8 ∅ (iA (g7 ∅))
 have O:(0:Int)<=8*2^R.pb.toNat:=o8 ∅ (iA (g7 ∅))
 have n (k:Nat):(0:Int)<=k:=Hx k
 exact iU (n 192) (iU (n 12) (iU (n 12) (iU (n 12) (iU (n 12) (iU (n 192) (iU (n 256) (iU (n 115) (iU (n 16) (iU J (iU (n 2) (iU O (iU O (iU (n 256) (iU (n 2) (iU O (iU O (iU (n 256) aei))))))))))))))))) i
def MR.foot(R:MR)(n:Nat):Prop:=∃i,i<18/\(n=R.rr i\/n=R.dd i)
structure MR.Good(R:MR):Prop where
 inj:∀i j,i<18->j<18->i≠j->R.rr i≠R.rr j/\R.rr i≠R.dd j/\R.dd i≠R.rr j/\R.dd i≠R.dd j
 sm:¬R.foot R.m
 sp:¬R.foot R.p
 s1:¬R.foot R.l1
 s2:¬R.foot R.l2
 lc:0<=R.lc/\R.lc<=8
 lp:0<=R.lp/\R.lp<=4
 pb:0<=R.pb/\R.pb<=4
noncomputable def E8(R:MR):AC:=.obj 294 [(10,.ref R.p),(11,.ref (R.rr 0)),(12,.ref (R.rr 1)),(13,.ref (R.rr 2)),(14,.ref (R.rr 3)),(15,.ref (R.rr 4)),(16,.ref (R.rr 5)),
 (17,.ref (R.rr 6)),(18,.ref (R.rr 7)),(19,.ref (R.rr 8)),(20,.ref (R.rr 9)),(21,.ref R.l1),(22,.ref R.l2)]
noncomputable def sU(R:MR)(b:Nat):AC:=.obj 238 [(5,.int (2^R.pb.toNat)),(6,.ref (R.rr b)),(7,.ref (R.rr (b+1))),(8,.ref (R.rr (b+2))),(9,.ref (R.rr (b+3)))]
noncomputable def FL(R:MR):AC:=.obj 154 [(2,.int R.lc),(3,.int R.lp),(4,.int R.pb)]
structure iK(R:MR)(D:Nat->DD)(σ:AH):Prop where
 m:σ[R.m]?=some (E8 R)
 p:σ[R.p]?=some (FL R)
 l1:σ[R.l1]?=some (sU R 10)
 l2:σ[R.l2]?=some (sU R 14)
 row:∀i,i<18->cD σ (R.rr i) (R.dd i) (R.cnt i) (D i)
noncomputable def upd(D:Nat->DD)(r:Nat)(v:DD):Nat->DD:=λi=>if i=r then v else D i
theorem P1(D:Nat->DD)(r:Nat):upd D r (D r)=D:=by
 funext i;unfold upd;split
 ·rename_i q;rw [q]
 ·rfl
theorem aij(D:Nat->DD)(r:Nat)(v:DD):upd D r v r=v:=if_pos rfl
theorem aik(D:Nat->DD)(r:Nat)(v u:DD):upd (upd D r v) r u=upd D r u:=by
 funext i;unfold upd;split<;>rfl
structure fK where
 X:Type
 C:Nat
 w:Nat
 aB:Nat
 aT:Nat
 aR:Nat
 F:Nat->Prop
 u:Bool
 st:X->Int->Int->X
 Ws:X->Nat->AH->Prop
 mB:oQ C 20=some aB
 mT:oQ C 22=some aT
 mR:oQ C 23=some aR
 obj:∀{x n σ},Ws x n σ->∃fs,σ[w]?=some (.obj C fs)/\fs.all (λp=>ny C p.1)=true
 keep:∀{x n σ σ'},Ws x n σ->(∀m c,F m->σ[m]?=some c->σ'[m]?=some c)->Ws x n σ'
 bit:∀{k x n σ r d c i b D},Ws x n σ->cD σ r d c D->¬F r->¬F d->Dg D n->n<900->(0<=i/\i<c)->(b=0\/b=1)->
  ∀{G:Prop},(∀σ',am (ae (k+6)) aB [.ref w,.ref r,.int i,.int b] σ=some (.none,σ')->Ws (dJ u st (x,D) (i,b)).1 (n+1) σ'->cD σ' r d c (dJ u st (x,D) (i,b)).2->ak (λm=>F m\/m=r\/m=d) σ σ'->G)->G
 tree:∀{k x n σ r d c D begin many value},Ws x n σ->cD σ r d c D->¬F r->¬F d->Dg D n->n+many<=900->(1<=many/\many<=8)->(0<=value/\value<2^many)->(0<=begin/\begin+2^many<=c)->
  ∀{G:Prop},(∀σ',am (ae (k+6)) aT [.ref w,.ref r,.int begin,.int (many:Nat),.int value] σ=some (.none,σ')->Ws ((eE begin many value).foldl (dJ u st) (x,D)).1 (n+many) σ'->
   cD σ' r d c ((eE begin many value).foldl (dJ u st) (x,D)).2->ak (λm=>F m\/m=r\/m=d) σ σ'->G)->G
 rev:∀{k x n σ r d c D begin many value},Ws x n σ->cD σ r d c D->¬F r->¬F d->Dg D n->n+many<=900->(1<=many/\many<=8)->(0<=value/\value<2^many)->(0<=begin/\begin+2^many<=c)->
  ∀{G:Prop},(∀σ',am (ae (k+6)) aR [.ref w,.ref r,.int begin,.int (many:Nat),.int value] σ=some (.none,σ')->Ws ((eE begin many (turn many value)).foldl (dJ u st) (x,D)).1 (n+many) σ'->
   cD σ' r d c ((eE begin many (turn many value)).foldl (dJ u st) (x,D)).2->ak (λm=>F m\/m=r\/m=d) σ σ'->G)->G
noncomputable def OI(w b:Nat):fK where
 X:=RW
 C:=464
 w:=w
 aB:=426
 aT:=440
 aR:=447
 F:=jq w b
 u:=true
 st:=ig
 Ws:=lS w b
 mB:=rfl
 mT:=rfl
 mR:=rfl
 obj:=λh=>⟨_,h.1,rfl⟩
 keep:=λh hk=>⟨hk _ _ (.inl rfl) h.1,hk _ _ (.inr rfl) h.2.1,h.2.2⟩
 bit:=λ{k _ _ _ _ _ _ _ _ _} H J O U V Z h7 h8 {_} K=>Ga (k:=k+3) H J O U V Z h7 h8 K
 tree:=λ{k _ _ _ _ _ _ _ _ _ _} H J O U V Z h7 h8 h9 {_} K=>afL (k:=k+2) H J O U V Z h7 h8 h9 K
 rev:=λ{k _ _ _ _ _ _ _ _ _ _} H J O U V Z h7 h8 h9 {_} K=>afK (k:=k+2) H J O U V Z h7 h8 h9 K
noncomputable def q7(w:Nat):fK where
 X:=Int
 C:=3895
 w:=w
 aB:=3871
 aT:=3885
 aR:=3892
 F:=λm=>m=w
 u:=false
 st:=stM
 Ws:=rY w
 mB:=rfl
 mT:=rfl
 mR:=rfl
 obj:=λh=>⟨_,h,rfl⟩
 keep:=λh hk=>hk _ _ rfl h
 bit:=λ{k _ n _ _ _ _ _ _ _} H J h3 h4 O h6 U V {_} K=>acm (k:=k+4) (n:=n) H J O U V λσ' a b c e=>K σ' a b c (e.wide λY q=>.inl q)
 tree:=λ{k _ n _ _ _ _ _ _ _ _} H J h3 h4 O h6 U V Z {_} K=>acp (k:=k+3) (n:=n) H J O U V Z λσ' a b c e=>K σ' a b c (e.wide λY q=>.inl q)
 rev:=λ{k _ n _ _ _ _ _ _ _ _} H J h3 h4 O h6 U V Z {_} K=>aco (k:=k+2) (n:=n) H J O U V Z λσ' a b c e=>K σ' a b c (e.wide λY q=>.inl q)
noncomputable abbrev fK.Z(S:fK):=S.X×(Nat->DD)
noncomputable def vX(S:fK)(z:S.Z)(e:Ev):S.Z:=((dJ S.u S.st (z.1,z.2 e.1) e.2).1,upd z.2 e.1 (dJ S.u S.st (z.1,z.2 e.1) e.2).2)
noncomputable def dN(S:fK)(l:List Ev)(z:S.Z):S.Z:=l.foldl (vX S) z
theorem F7(S:fK)(r:Nat):∀(l:List (Int×Int)) (z:S.Z),dN S (l.map λp=>(r,p.1,p.2)) z=((l.foldl (dJ S.u S.st) (z.1,z.2 r)).1,upd z.2 r (l.foldl (dJ S.u S.st) (z.1,z.2 r)).2)
 |[],z=>by unfold dN;simp [P1]
 |p::l,z=>by
  have H:=F7 S r l (vX S z (r,p.1,p.2))
  show dN S (l.map λp=>(r,p.1,p.2)) (vX S z (r,p.1,p.2))=_
  rw [H]
  unfold vX
  simp only [wq,aij,aik]
theorem tN(S:fK)(l l':List Ev)(z:S.Z):dN S (l++l') z=dN S l' (dN S l z):=Cv ..
theorem BH(S:fK)(e:Ev)(l:List Ev)(z:S.Z):dN S (e::l) z=dN S l (vX S z e):=rfl
def Ft(S:fK)(R:MR)(n:Nat):Prop:=S.F n\/R.foot n
structure Sep(S:fK)(R:MR):Prop where
 good:R.Good
 row:∀i,i<18->¬S.F (R.rr i)/\¬S.F (R.dd i)
 m:¬S.F R.m
 p:¬S.F R.p
 l1:¬S.F R.l1
 l2:¬S.F R.l2
structure Enc(S:fK)(R:MR)(z:S.Z)(n:Nat)(σ:AH):Prop where
 ws:S.Ws z.1 n σ
 md:iK R z.2 σ
 dg:∀i,Dg (z.2 i) n
section
variable {S:fK}{R:MR}{z:S.Z}{n:Nat}{σ σ':AH}
theorem Sep.fp(P:Sep S R):¬Ft S R R.p:=λq=>q.elim P.p P.good.sp
theorem Sep.f1(P:Sep S R):¬Ft S R R.l1:=λq=>q.elim P.l1 P.good.s1
theorem Sep.f2(P:Sep S R):¬Ft S R R.l2:=λq=>q.elim P.l2 P.good.s2
theorem Enc.turn(P:Sep S R)(E:Enc S R z n σ){i:Nat}(O:i<18){x:S.X}{D:DD}{H:Nat}(Y:n<=H)(Z:S.Ws x H σ')(hr:cD σ' (R.rr i) (R.dd i) (R.cnt i) D)(hD:Dg D H)(J:ak (λm=>S.F m\/m=R.rr i\/m=R.dd i) σ σ'):
  Enc S R (x,upd z.2 i D) H σ'/\ak (Ft S R) σ σ':=by
 have U:∀m,¬S.F m->¬R.foot m->¬(S.F m\/m=R.rr i\/m=R.dd i):=λm a b q=>by
  rcases q with q|q|q
  ·exact a q
  ·exact b ⟨i,O,.inl q⟩
  ·exact b ⟨i,O,.inr q⟩
 refine⟨⟨Z,⟨J.get E.md.m (U _ P.m P.good.sm),J.get E.md.p (U _ P.p P.good.sp),J.get E.md.l1 (U _ P.l1 P.good.s1),J.get E.md.l2 (U _ P.l2 P.good.s2),λj V=>?_⟩,λj=>?_⟩,J.wide λm q=>?_⟩
 ·show cD σ' (R.rr j) (R.dd j) (R.cnt j) (upd z.2 i D j)
  unfold upd
  split
  ·rename_i q;subst q;exact hr
  ·rename_i q
   obtain⟨a,b,c,d⟩:=P.good.inj j i V O q
   refine J.row (E.md.row j V) (λq=>?_) (λq=>?_)
   ·rcases q with q|q|q
    ·exact(P.row j V).1 q
    ·exact a q
    ·exact b q
   ·rcases q with q|q|q
    ·exact(P.row j V).2 q
    ·exact c q
    ·exact d q
 ·show Dg (upd z.2 i D j) H
  unfold upd
  split
  ·exact hD
  ·exact⟨(E.dg j).1,bo (E.dg j).2 Y⟩
 ·rcases q with q|q|q
  ·exact .inl q
  ·exact .inr ⟨i,O,.inl q⟩
  ·exact .inr ⟨i,O,.inr q⟩
theorem Dg.fold{X:Type}{u:Bool}{st:X->Int->Int->X}:∀{l:List (Int×Int)} {z:X×DD} {n:Nat},Dg z.2 n->Dg (l.foldl (Internal.dJ u st) z).2 (n+l.length)
 |[],_,_,h=>h
 |p::l,z,n,h=>by
  have:=Dg.fold (u:=u) (st:=st) (l:=l) (h.dJ (u:=u) (st:=st) p)
  rw [fJ,show n+(l.length+1)=n+1+l.length by exact(bx aJ 0x11101011004410111040045 rfl)]
  exact this
variable {k:Nat}
theorem Enc.bit(P:Sep S R)(E:Enc S R z n σ){i:Nat}{j b:Int}(O:i<18)(H:0<=j/\j<R.cnt i)(J:b=0\/b=1)(U:n<900){G:Prop}
  (K:∀σ',am (ae (k+6)) S.aB [.ref S.w,.ref (R.rr i),.int j,.int b] σ=some (.none,σ')->Enc S R (dN S [(i,j,b)] z) (n+1) σ'->ak (Ft S R) σ σ'->G):G:=
 S.bit (k:=k) E.ws (E.md.row i O) (P.row i O).1 (P.row i O).2 (E.dg i) U H J λσ' V Y Z h4=>
  have h:=E.turn P O (mH n) Y Z ((E.dg i).dJ (z:=(z.1,z.2 i)) _) h4
  K σ' V h.1 h.2
theorem Enc.tree(P:Sep S R)(E:Enc S R z n σ){i many:Nat}{begin value:Int}(O:i<18)(H:n+many<=900)(J:1<=many/\many<=8)(V:0<=value/\value<2^many)(Y:0<=begin/\begin+2^many<=R.cnt i){G:Prop}
  (K:∀σ',am (ae (k+6)) S.aT [.ref S.w,.ref (R.rr i),.int begin,.int (many:Nat),.int value] σ=some (.none,σ')->Enc S R (dN S (eU i begin many value) z) (n+many) σ'->ak (Ft S R) σ σ'->G):G:=
 S.tree (k:=k) E.ws (E.md.row i O) (P.row i O).1 (P.row i O).2 (E.dg i) H J V Y λσ' Z h2 h3 h4=>
  have U:=(E.dg i).fold (u:=S.u) (st:=S.st) (l:=eE begin many value) (z:=(z.1,z.2 i))
  have h:=E.turn P O (ki n many) h2 h3 (by rw [vU] at U;exact U) h4
  K σ' Z ((F7 S i _ z).symm▸h.1) h.2
theorem Enc.rev(P:Sep S R)(E:Enc S R z n σ){i many:Nat}{begin value:Int}(O:i<18)(H:n+many<=900)(J:1<=many/\many<=8)(V:0<=value/\value<2^many)(Y:0<=begin/\begin+2^many<=R.cnt i){G:Prop}
  (K:∀σ',am (ae (k+6)) S.aR [.ref S.w,.ref (R.rr i),.int begin,.int (many:Nat),.int value] σ=some (.none,σ')->Enc S R (dN S (eU i begin many (Internal.turn many value)) z) (n+many) σ'->ak (Ft S R) σ σ'->G):G:=
 S.rev (k:=k) E.ws (E.md.row i O) (P.row i O).1 (P.row i O).2 (E.dg i) H J V Y λσ' Z h2 h3 h4=>
  have U:=(E.dg i).fold (u:=S.u) (st:=S.st) (l:=eE begin many (Internal.turn many value)) (z:=(z.1,z.2 i))
  have h:=E.turn P O (ki n many) h2 h3 (by rw [vU] at U;exact U) h4
  K σ' Z ((F7 S i _ z).symm▸h.1) h.2
theorem Enc.mB{φ:bK}(E:Enc S R z n σ)(args:M (List V)):iS φ (.ref S.w) 20 args σ=(args.bw λvs=>am φ S.aB (.ref S.w::vs)) σ:=let⟨_,a,b⟩:=S.obj E.ws;bM a b S.mB args
theorem Enc.mT{φ:bK}(E:Enc S R z n σ)(args:M (List V)):iS φ (.ref S.w) 22 args σ=(args.bw λvs=>am φ S.aT (.ref S.w::vs)) σ:=let⟨_,a,b⟩:=S.obj E.ws;bM a b S.mT args
theorem Enc.mR{φ:bK}(E:Enc S R z n σ)(args:M (List V)):iS φ (.ref S.w) 23 args σ=(args.bw λvs=>am φ S.aR (.ref S.w::vs)) σ:=let⟨_,a,b⟩:=S.obj E.ws;bM a b S.mR args
theorem Enc.mono(E:Enc S R z n σ)(J:∀m c,(Ft S R m\/m=R.m\/m=R.p\/m=R.l1\/m=R.l2)->σ[m]?=some c->σ'[m]?=some c):Enc S R z n σ':=by
 refine⟨S.keep E.ws λm c h e=>J m c (.inl (.inl h)) e,⟨J _ _ (.inr (.inl rfl)) E.md.m,J _ _ (.inr (.inr (.inl rfl))) E.md.p,J _ _ (.inr (.inr (.inr (.inl rfl)))) E.md.l1,J _ _ (.inr (.inr (.inr (.inr rfl)))) E.md.l2,λi O=>?_⟩,E.dg⟩
 have h:=E.md.row i O
 unfold cD at h⊢
 split
 ·rename_i q;rw [if_pos q] at h;exact J _ _ (.inl (.inr ⟨i,O,.inl rfl⟩)) h
 ·rename_i q;rw [if_neg q] at h;exact⟨J _ _ (.inl (.inr ⟨i,O,.inl rfl⟩)) h.1,J _ _ (.inl (.inr ⟨i,O,.inr rfl⟩)) h.2.1,h.2.2⟩
end
section
variable {R:MR}{k:Nat}{σ:AH}
theorem ab4(x:Int){c:Int}(h:0<=c/\c<=1000):ul x (1*2^c.toNat- 1)=x%2^c.toNat:=by
 rw [lO];exact zr x _
theorem Nn(x:Int){c:Int}(h:0<=c/\c<=1000):intOp .BitAnd x (2^c.toNat- 1)=some (x%2^c.toNat):=congrArg some (by have:=ab4 x h;rwa [lO] at this)
theorem Gm(h:0<=c/\c<=1000):intOp .LShift 1 c=some (2^c.toNat):=by rw [lw ⟨h.1,h.2,by decide⟩,lO]
theorem Oe(G:R.Good){D:Nat->DD}(M:iK R D σ)(place:Int):am (ae (k+1)) 151 [.ref R.p,.int place] σ=some (.int (place%2^R.pb.toNat),σ):=by
 have hp:=M.p
 have g:0<=R.pb/\R.pb<=1000:=⟨G.pb.1,ku G.pb.2 ∅⟩
 exists call XK λt=>t hp (Gm g) (Nn place g)
theorem uU(G:R.Good){D:Nat->DD}(M:iK R D σ)(O:0<=state/\state<12):am (ae (k+2)) 270 [.ref R.m,.int state,.int place] σ=some (.int (16*state+place%2^R.pb.toNat),σ):=by
 have H:=M.m
 have hp:=M.p
 have J:=Oe (k:=k) G M place
 rw [rN]
 exists call Xy λt=>t (Nu rfl) H (bM hp rfl rfl) J
theorem ahc(h:2<=l):am (ae (k+2)) 277 [.ref R.m,.int l] σ=some (.int (64*min (l- 2) 3),σ):=by
 have H:am (ae (k+1)) 200 [.int l] σ=some (.int (min (l- 2) 3),σ):=ahh l
 exists call XF λt=>t H (fi rfl)
theorem abL(G:R.Good){D:Nat->DD}(M:iK R D σ){place before:Int}(hb:0<=before/\before<=255):
  am (ae (k+1)) 291 [.ref R.m,.int place,.int before] σ=some (.int (768*(place%2^R.lp.toNat*2^R.lc.toNat+before/2^(8- R.lc).toNat)),σ):=by
 have J:=M.m
 have hp:=M.p
 have g:0<=R.lp/\R.lp<=1000:=⟨G.lp.1,ku G.lp.2 ∅⟩
 have O:=G.lc
 have Y:(2:Int)^R.lp.toNat<=2^4:=iw (by have:=G.lp;exact(aq aX 0x10011401110300102240110000000107 this (be (aa az 0x110000103e80310000000107 g rfl)) rfl))
 have H:(0:Int)<2^R.lp.toNat:=g7 ∅
 have U:0<=place%2^R.lp.toNat:=rJ _ (aa az 0x1010010026000011 H rfl)
 have V:place%2^R.lp.toNat<2^R.lp.toNat:=rS _ H
 have Z:intOp .LShift (place%2^R.lp.toNat) R.lc=some (place%2^R.lp.toNat*2^R.lc.toNat):=lw ⟨O.1,(aa az 0x1013e803100080110000000107 O rfl),(nA (bB dB 0x10110101100000000000000001112101101000000000000000011123170010110001010021000 Y U V rfl))⟩
 have h4:intOp .RShift before (8- R.lc)=some (before/2^(8- R.lc).toNat):=jG (aa az 0x1010080115001080110000000107 O rfl)
 exists call XA λt=>t J hp (Gm g) (Nn place g) J hp Z J hp h4 (fi rfl)
end
noncomputable def tP(s:Int):Int×Int:=if s<4 then(0,s) else(s/2- 1,(2+s%2)*2^(s/2- 1).toNat)
noncomputable def gf(d:Int):Int×Int×Int:=
 if d- 1<4 then(d- 1,0,d- 1) else
  let high:Int:=(eF (d- 1):Int) - 1
  let bH:=2*high+(d- 1)/2^(high- 1).toNat%2
  (bH,(tP bH).1,(tP bH).2)
theorem BP:∀d:Fin 129,1<=d.val->let f:=gf d.val
  0<=f.1/\f.1<14/\0<=f.2.1/\f.2.1<=5/\f.2.2<=(d.val:Int) - 1/\(d.val:Int) - 1<f.2.2+2^f.2.1.toNat/\0<=f.2.2- f.1/\f.2.2- f.1+2^f.2.1.toNat<=115/\tP f.1=(f.2.1,f.2.2):=by decide+kernel
section
variable {k:Nat}{σ:AH}
theorem aeB(b:Int)(h:b=0\/b=1):CO 2 b=2+b:=yr 1 b h
theorem Pg(h:0<=s/\s<100):am (ae (k+1)) 207 [.int s] σ=some (.tup [.int (tP s).1,.int (tP s).2],σ):=by
 unfold tP
 by_cases c:s<4
 ·rw [if_pos c]
  exists call KJ λt=>t (iR c)
 ·have H:intOp .RShift s 1=some (s/2):=jG ∅
  have J:intOp .LShift (2+s%2) (s/2- 1)=some ((2+s%2)*2^(s/2- 1).toNat):=lw ⟨(aq dB 0x11021011105001020111020164001001020160740110016 c (dI _ 2 ∅) rfl),(aq dB 0x100123e803110111050201110201640010010201607640210010000107 h (dI _ 2 ∅) rfl),(nA (aa cF 0x10100011100000000000000001112002011410020114100000000000000001112317200010201642201100170000107 (mI _ 2 ∅) rfl))⟩
  have O:intOp .BitOr 2 (s%2)=some (2+s%2):=congrArg some (aeB _ (l8 s))
  rw [if_neg c]
  exists call KJ λt=>t (gJ c) H (nh _) O J
theorem VY(h:4<=x)(J:x<1000000):3<=eF x/\eF x<=20:=by
 refine⟨?_,intBits_le (n:=20) (nA (aq az 0x111011000000612001001000000612317f42400510010040110 h J rfl))⟩
 unfold eF
 have:(x==0)=false:=by rw [beq_eq_false_iff_ne];exact(aa az 0x10100100260040110 h rfl)
 rw [this]
 have O:2<=x.natAbs.log2:=(Nat.le_log2 (by(first|lia|omega))).mpr (by(first|lia|omega))
 simp;exact(aa au 0x1100201130020113 O rfl)
theorem ahb(h:1<=d/\d<100000):am (ae (k+2)) 214 [.int d] σ=some (.tup [.int (gf d).1,.int (gf d).2.1,.int (gf d).2.2],σ):=by
 unfold gf
 by_cases c:d- 1<4
 ·rw [if_pos c]
  exists call KM λt=>t (iR c)
 ·have O:=VY (x:=d- 1) (aa az 0x111011005401104011101100516 c rfl) (aa az 0x101f424005110110051186a005100100101107 h rfl)
  rw [if_neg c]
  have V:2<=(eF (d- 1):Int) - 1/\(eF (d- 1):Int) - 1<=19:=(aa au 0x10101113021101100250101100252011071402100300301137 O rfl)
  have J:intOp .RShift (d- 1) ((eF (d- 1):Int) - 1- 1)=some ((d- 1)/2^((eF (d- 1):Int) - 1- 1).toNat):=jG (aa au 0x11101110110025500101402100300301137 O rfl)
  have H:=l8 ((d- 1)/2^((eF (d- 1):Int) - 1- 1).toNat)
  have U:=Pg (k:=k) (σ:=σ) (s:=2*((eF (d- 1):Int) - 1)+(d- 1)/2^((eF (d- 1):Int) - 1- 1).toNat%2) (aq jt 0x20001010200011640210010113025201641001011302520164001072000102016422011001700001071402130330301137 O (mI _ 2 ∅) rfl)
  exists call KM λt=>t (gJ c) rfl (fi rfl) J (nh _) U
end
noncomputable def fG(S:fK)(R:MR)(place state:Int)(r:Nat):AC:=.obj 4021 [(29,.ref R.m),(30,.ref S.w),(32,.int place),(33,.int state),(34,.ref r)]
noncomputable def il(start node aO:Int):Nat->List Ev
 |0=>[]
 |c+1=>(9,start+node,aO/2^c%2)::il start (2*node+aO/2^c%2) aO c
theorem ye(start aO:Int):∀(c:Nat) (node:Int),(il start node aO c).length=c
 |0,_=>rfl
 |c+1,node=>by simp [il,ye start aO c]
noncomputable def jX(start aO matched node:Int):Nat->List Ev
 |0=>[]
 |c+1=>(9,start+(1+matched/2^c%2)*256+node,aO/2^c%2)::
  (if aO/2^c%2=matched/2^c%2 then jX start aO matched (2*node+aO/2^c%2) c else il start (2*node+aO/2^c%2) aO c)
theorem M6(start aO matched node:Int)(c:Nat):jX start aO matched node (c+1)=(9,start+(1+matched/2^c%2)*256+node,aO/2^c%2)::
  (if aO/2^c%2=matched/2^c%2 then jX start aO matched (2*node+aO/2^c%2) c else il start (2*node+aO/2^c%2) aO c):=rfl
theorem Bf(start aO matched:Int):∀(c:Nat) (node:Int),(jX start aO matched node c).length=c
 |0,_=>rfl
 |c+1,node=>by
  unfold jX
  split<;>simp [Bf start aO matched c,ye]
section
variable {S:fK}{R:MR}{z:S.Z}{n k:Nat}{σ:AH}
theorem LG{J q:Int}{m n:Nat}(e:n=m+1)(O:1<=J)(h:(J+1)*2^n<=512)(H:q=0\/q=1):J<=255/\1<=2*J+q/\(2*J+q+1)*2^m<=512:=by
 subst e
 have hp:(1:Int)<=2^m:=iw (uy _)
 rw [qk,←CN,Int.mul_right_comm] at h
 have U:=Sa hp (show 0<=(J+1)*2 by exact(aa az 0x211011004201700100010110 O rfl))
 have V:=zv (show 2*J+q+1<=(J+1)*2 by exact(H.elim (λH=>(aa dB 0x1110111042017101100102016440001002 H rfl)) λH=>(aa dB 0x11101110420171011001020164401011002 H rfl))) (show(0:Int)<=2^m by exact(aa az 0x110000100010110 hp rfl))
 exact(H.elim (λH=>(pL qG 0x10100120001010110002200031200300020164101107ff0210007001302102001010110042017101702000311000010110 O h U V H rfl)) λH=>(pL qG 0x10100120001010110002200031200300020164101107ff02100071011302102001010110042017101702000311000010110 O h U V H rfl))
theorem On(P:Sep S R)(E:Enc S R z n σ){W r:Nat}{place state start node aO:Int}{c:Nat}(hW:σ[W]?=some (fG S R place state r))(hf:¬Ft S R W)(hs:0<=start/\start+768<=R.cnt 9)
  (hn1:1<=node) (hn2:(node+1)*2^c<=512) (hc:c<=8) (hn:n+c<=900) {G:Prop}
  (K:∀σ',am (ae (k+7)) 3794 [.ref W,.int start,.int node,.int aO,.int (c:Nat)] σ=some (.none,σ')->Enc S R (dN S (il start node aO c) z) (n+c) σ'->ak (Ft S R) σ σ'->G):G:=by
 refine mF (φ:=ae (k+6)) (σ:=σ) (cZ:=σ) (ρ:=[some (.ref W),some (.int start),some (.int node),some (.int aO),some (.int (c:Nat)),none,none]) (s:=GW.stmt 0) (l:=lr ((c:Int) - 1) (-1)) rfl (by
   exists iter λt=>t (BQ (nA (aa au 0x1101100000000000b1210110025110110025100000000000b123178011003 hc rfl)) ∅)
   )
  (λi ρ σ'=>∀G:Prop,(∀J done a a',ρ=[some (.ref W),some (.int start),some (.int J),some (.int aO),some (.int (c:Nat)),a,a']->il start node aO c=done++il start J aO (c- i)->
   Enc S R (dN S done z) (n+i) σ'->ak (Ft S R) σ σ'->1<=J->(J+1)*2^(c- i)<=512->G)->G)
  (λY K=>K node [] none none rfl rfl E (ak.refl _ _) hn1 hn2) (λi v ρ av gc hI G K=>hI G λJ done a a' e O H V g4 g5=>?_) λaV σ' h1 h2=>h2 _ λJ done a a' e O H V g4 g5=>?_
 ·subst e
  obtain⟨rfl,Z⟩:=BD gc
  have Z:i<c:=(aa aJ 0x1110004101131011102550021 Z rfl)
  have ec:c- i=(c- 1- i)+1:=(bB nk 0x1101011001011101130400520101140454010304520100045 (cG (aa aJ 0x111000310004 Z rfl)) (cG (aq bL 0x110120003101120410310203710004 Z (sN _ _) rfl)) (cG (aa aJ 0x11101011310004 Z rfl)) rfl)
  have ed:c- (i+1)=c- 1- i:=(bB nk 0x1011011010011102054030004540101130420451011104005 ec (cG (aa aJ 0x11101011004310004 Z rfl)) (cG (aa aJ 0x111000310004 Z rfl)) rfl)
  have hb:=l8 (aO/2^(c- 1- i))
  have h2:=LG ec g4 g5 hb
  have hs:intOp .RShift aO ((c:Int) - 1- i)=some (aO/2^(c- 1- i)):=by rw [jG (by exact(aa aJ 0x11002101110255001010004 Z rfl)),show((c:Int) - 1- i).toNat=c- 1- i from GB Z]
  refine H.bit (k:=k) P (i:=9) (j:=start+J) (b:=aO/2^(c- 1- i)%2) ∅ (by(first|lia|omega)) hb (aq bL 0x11138403120004410204384031100043 hn Z rfl) λaC f1 f2 f3=>?_
  refine K _ .next _ aC rfl ?_ λG K=>K (2*J+aO/2^(c- 1- i)%2) (done++[(9,start+J,aO/2^(c- 1- i)%2)]) (some (.int ((c:Int) - 1- i))) (some (.int (aO/2^(c- 1- i)%2))) rfl
   (by rw [O,ec,il,iX,ed];rfl) (by rw [tN];exact f2) (V.trans f3) h2.2.1 (ed▸h2.2.2)
  have U:=V.get hW hf
  have oH:=H.md.m
  exists body λt=>t hs (nh _) U H.mB U oH f1 (fi rfl)
 ·subst e
  rw [yz,show((c:Int) - 1- -1).toNat=c by exact(aa aJ 0x1110110005101131011102550022 (be (bx au 0x1101131011002550010 rfl)) rfl)] at O H
  rw [CU,il,qd] at O
  refine K σ' ?_ (O▸H) V
  exists call Ye λt=>t h1
theorem ae0(P:Sep S R)(E:Enc S R z n σ){W r:Nat}{place state start aO matched:Int}(hW:σ[W]?=some (fG S R place state r))(hf:¬Ft S R W)(hs:0<=start/\start+768<=R.cnt 9)(hn:n+8<=900){G:Prop}
  (K:∀σ',am (ae (k+8)) 3801 [.ref W,.int start,.int aO,.int matched] σ=some (.none,σ')->Enc S R (dN S (jX start aO matched 1 8) z) (n+8) σ'->ak (Ft S R) σ σ'->G):G:=by
 refine Cb (φ:=ae (k+7)) (σ:=σ) (cZ:=σ) (ρ:=[some (.ref W),some (.int start),some (.int aO),some (.int matched),some (.int 1),none,none,none]) (s:=GV.stmt 1) (l:=lr 7 (-1)) (src:=.lst (lr 7 (-1))) rfl (by
   exists iter λt=>t rfl
   ) rfl
  (I:=λi ρ σ'=>∀G:Prop,(∀J done a a' V,ρ=[some (.ref W),some (.int start),some (.int aO),some (.int matched),some (.int J),a,a',V]->jX start aO matched 1 8=done++jX start aO matched J (8- i)->
   Enc S R (dN S done z) (n+i) σ'->ak (Ft S R) σ σ'->1<=J->(J+1)*2^(8- i)<=512->G)->G)
  (Q:=λv σ'=>v=.none/\Enc S R (dN S (jX start aO matched 1 8) z) (n+8) σ'/\ak (Ft S R) σ σ')
  (λY K=>K 1 [] none none none rfl rfl E (ak.refl _ _) ∅ ∅) (λY Y Y Y=>rfl) (λi v ρ av gc hI G K=>hI G λJ done a a' V e O g2 g3 g4 g5=>?_)
  (λaV σ' h1 H=>H _ λJ done a a' V e O g2 g3 g4 g5=>?_) λu aV σ' h1 H=>?_
 ·subst e
  obtain⟨rfl,Z⟩:=BD gc
  have Z:i<8:=(aa au 0x11801100410113701150021 Z rfl)
  have ec:8- i=(7- i)+1:=(aq bL 0x110110011101120400570111020458011100045 (cG (aa au 0x1180110038011004 Z rfl)) (cG (aa au 0x1170110038011004 Z rfl)) rfl)
  have ed:8- (i+1)=7- i:=(aq bL 0x110110011200057011102045801110111040045 (cG (aa au 0x118011101100438011004 Z rfl)) (cG (aa au 0x1170110038011004 Z rfl)) rfl)
  have e1:((7:Int) - i).toNat=7- i:=(aq bL 0x110110011200057011102045102701150022 (be (aa au 0x110027011500108011004 Z rfl)) (cG (aa au 0x1170110038011004 Z rfl)) rfl)
  have e0:(0:Int)<=(7:Int) - i:=(aa au 0x110027011500108011004 Z rfl)
  have AU:intOp .RShift aO ((7:Int) - i)=some (aO/2^(7- i)):=by rw [jG e0,e1]
  have AV:intOp .RShift matched ((7:Int) - i)=some (matched/2^(7- i)):=by rw [jG e0,e1]
  rw [ec,M6 start aO matched J (7- i)] at O
  have hb:=l8 (aO/2^(7- i))
  have hb2:=l8 (matched/2^(7- i))
  have H:=LG ec g4 g5 hb
  generalize aO/2^(7- i)=qb at*
  generalize matched/2^(7- i)=qm at*
  refine g2.bit (k:=k+1) P (i:=9) (j:=start+(1+qm%2)*256+J) (b:=qb%2) ∅ (gI Wq 0x1000010010003f0101100000010003f11020501011410003700441205010114100037004400107705060201642201150175000107200031400302020164101107ff021200720101101030003100400000107 hs g4 H (mI _ 2 ∅) rfl) hb (aq aJ 0x111384031100044801110438403180110043 hn Z rfl) λaC f1 f2 f3=>?_
  have U:=g3.get hW hf
  have pF:=(g3.trans f3).get hW hf
  have oH:=g2.md.m
  have qQ:intOp .LShift (1+qm%2) 8=some ((1+qm%2)*256):=lw ⟨by decide,by decide,(nA (aa cF 0x10100011100000000000000001112001011410010114100000000000000001112317200010201642201100170000107 (mI _ 2 ∅) rfl))⟩
  rw [←tN] at f2
  by_cases hq:qb%2=qm%2
  ·rw [if_pos hq] at O
   refine K _ .next _ aC rfl ?_ λG K=>K (2*J+qb%2) (done++[(9,start+(1+qm%2)*256+J,qb%2)]) (some (.int (7- i))) (some (.int (qm%2))) (some (.int (qb%2))) rfl
    (by rw [O,ed,iX];rfl) f2 (g3.trans f3) H.2.1 (ed▸H.2.2)
   exists body λt=>t AV (nh _) AU (nh _) U g2.mB U oH qQ f1 (fi rfl) (tn hq)
  ·refine On (k:=k) (aO:=aO) P f2 pF hf hs H.2.1 H.2.2 (aa aJ 0x118011003100047011370110037 (sN _ _) rfl) (aq bL 0x101138403110101120004443701120104538403180110043 hn (cG (aa au 0x1170110038011004 Z rfl)) rfl) λdH p1 p2 p3=>?_
   rw [show n+i+1+(7- i)=n+8 by exact(aa bL 0x111018011204001011102044457011100045 (cG (aa au 0x1170110038011004 Z rfl)) rfl),←tN,iX] at p2
   replace p1:=(show((7- i:Nat):Int)=7- i by exact(aa aJ 0x111011027011500227011100045 (cG (aa au 0x1170110038011004 Z rfl)) rfl))▸p1
   rw [if_neg hq] at O
   refine K _ (.ret .none) [some (.ref W),some (.int start),some (.int aO),some (.int matched),some (.int (2*J+qb%2)),some (.int (7- i)),some (.int (qm%2)),some (.int (qb%2))] dH rfl ?_ ⟨rfl,O▸p2,(g3.trans f3).trans p3⟩
   exists body λt=>t AV (nh _) AU (nh _) U g2.mB U oH qQ f1 (fi rfl) (neT hq) (bM pF rfl rfl) p1
 ·subst e
  rw [yz] at O g2
  refine K σ' ?_ ((O.trans (qd _))▸g2) g3
  exists call Kq λt=>t h1
 ·refine K σ' ?_ H.2.1 H.2.2
  replace h1:=H.1▸h1
  exists call Kq λt=>t h1
end
noncomputable def bO(pb place:Int):Int:=place%2^pb.toNat
noncomputable def i7(lc lp place before:Int):Int:=768*(place%2^lp.toNat*2^lc.toNat+before/2^(8- lc).toNat)
noncomputable def litE(lc lp pb state place before aO matched:Int):List Ev:=
 (0,16*state+bO pb place,0)::(if state<7 then il (i7 lc lp place before) 1 aO 8 else jX (i7 lc lp place before) aO matched 1 8)
noncomputable def iC(b:Nat)(spot length:Int):List Ev:=
 if length<10 then(b,0,0)::eU (b+1) (8*spot) 3 (length- 2)
 else if length<18 then(b,0,1)::(b,1,0)::eU (b+2) (8*spot) 3 (length- 10)
 else(b,0,1)::(b,1,1)::eU (b+3) 0 8 (length- 18)
noncomputable def jS(dY length:Int):List Ev:=
 eU 6 (64*min (length- 2) 3) 6 (gf dY).1++eU 7 ((gf dY).2.2- (gf dY).1) (gf dY).2.1.toNat (turn (gf dY).2.1.toNat (dY- 1- (gf dY).2.2))
theorem jY(i:Nat)(b v:Int)(m:Nat):(eU i b m v).length=m:=by simp [eU,vU]
theorem M7(lc lp pb state place before aO matched:Int):(litE lc lp pb state place before aO matched).length=9:=by
 unfold litE;split<;>simp [ye,Bf]
section
variable {S:fK}{R:MR}{z:S.Z}{n k:Nat}{σ:AH}
theorem yI(G:R.Good)(place:Int):0<=bO R.pb place/\bO R.pb place<16/\bO R.pb place<2^R.pb.toNat:=by
 unfold bO
 have g:=G.pb
 have H:(0:Int)<2^R.pb.toNat:=g7 ∅
 have J:(2:Int)^R.pb.toNat<=2^4:=iw (aq aX 0x10011401110300102240110000000107 g (be (aa az 0x1100001040110000000107 g rfl)) rfl)
 have O:=rJ place (show(2:Int)^R.pb.toNat≠0 by exact(aa az 0x1010010026000011 H rfl))
 have U:=rS place H
 exact(bB dB 0x11101101010010110021101710001070010110001010021000 J O U rfl)
theorem Jm(G:R.Good)(U:0<=before/\before<=255):0<=i7 R.lc R.lp place before/\i7 R.lc R.lp place before+768<=R.cnt 9:=by
 rw [show R.cnt 9=768*2^(R.lc+R.lp).toNat from rfl]
 unfold i7
 have g:=G.lp
 have O:=G.lc
 have V:(0:Int)<2^R.lp.toNat:=g7 ∅
 have Z:=rJ place (show(2:Int)^R.lp.toNat≠0 by exact(aa az 0x1010010026000011 V rfl))
 have h4:=rS place V
 have Y:(0:Int)<2^R.lc.toNat:=g7 ∅
 have h6:0<=before/2^(8- R.lc).toNat:=ze U.1 (uq ∅)
 have h7:before/2^(8- R.lc).toNat<2^R.lc.toNat:=by
  apply Ci (g7 ∅)
  rw [←wB,show R.lc.toNat+(8- R.lc).toNat=8 by exact(aq cQ 0x101110101801120104500801152022001022 (be (aa az 0x1100001080110000000107 O rfl)) (be (aa az 0x1010080115001080110000000107 O rfl)) rfl)]
  exact(aa az 0x101100031001ff0210000000107 U rfl)
 have h8:(2:Int)^(R.lc+R.lp).toNat=2^R.lp.toNat*2^R.lc.toNat:=by
  rw [←wB];congr 1;exact(bB Du 0x110101100101140304205004022103022100042022 (be (aq dB 0x10110010400108011100100010740110000000107 g O rfl)) (be (aa az 0x1100001040110000000107 g rfl)) (be (aa az 0x1100001080110000000107 O rfl)) rfl)
 have h9:place%2^R.lp.toNat*2^R.lc.toNat<=(2^R.lp.toNat- 1)*2^R.lc.toNat:=zv (aa dB 0x11101110500010001 h4 rfl) (aa az 0x11000010000011 Y rfl)
 have H:(2^R.lp.toNat- 1)*(2:Int)^R.lc.toNat=2^R.lp.toNat*2^R.lc.toNat- 2^R.lc.toNat:=by rw [C0,lO]
 have J:0<=place%2^R.lp.toNat*2^R.lc.toNat:=o8 Z (aa az 0x11000010000011 Y rfl)
 rw [h8]
 exact(pL nq 0x30003f30003f030003f0130003f000030003f14030003630003100204300036400020430003600107200010104053023020010001000010 h6 h7 h9 H J rfl)
theorem ae3(P:Sep S R)(E:Enc S R z n σ){W:Nat}(H:σ[W]?=some (fG S R p0 s0 r))(hf:¬Ft S R W)(J:0<=state/\state<12)(hb:0<=before/\before<=255)(hn:n+9<=900){G:Prop}
  (K:∀σ',am (ae (k+9)) 3787 [.ref W,.int state,.int place,.int before,.int aO,.int matched] σ=some (.none,σ')->Enc S R (dN S (litE R.lc R.lp R.pb state place before aO matched) z) (n+9) σ'->ak (Ft S R) σ σ'->G):G:=by
 have sI:=yI P.good place
 have O:=Jm P.good (place:=place) hb
 have c1:am (ae (k+8)) 270 [.ref R.m,.int state,.int place] σ=some (.int (16*state+bO R.pb place),σ):=uU P.good E.md J
 refine E.bit (k:=k+2) P (i:=0) (j:=16*state+bO R.pb place) (b:=0) ∅ (by show 0<=_/\_<(192:Int);exact(aq cF 0x1002f0010101002f0011c002110001002641100010026400107201011002110171000107c0110010000107 J sI rfl)) (.inl rfl) (aa au 0x1138403100438403190110043 hn rfl) λav f1 Y f3=>?_
 have c2:am (ae (k+8)) 291 [.ref R.m,.int place,.int before] av=some (.int (i7 R.lc R.lp place before),av):=abL P.good Y.md hb
 have Z:am (ae (k+8)) 193 [.int state] av=some (.bool (decide (state<7)),av):=Ph _
 have U:=f3.get H hf
 have hm:=E.md.m
 have V:=Y.md.m
 unfold litE at K
 by_cases q:state<7
 ·rw [if_pos q] at K
  rw [decide_eq_true q] at Z
  refine On (k:=k+1) (start:=i7 R.lc R.lp place before) (node:=1) (aO:=aO) (c:=8) P Y U hf O ∅ ∅ ∅ (aa au 0x11384031801110110044338403190110043 hn rfl) λaC g1 g2 g3=>K aC ?_ g2 (f3.trans g3)
  exists call Ks λt=>t H E.mB H hm H (bM hm rfl rfl) c1 f1 U (bM V rfl rfl) c2 Z (bM U rfl rfl) g1
 ·rw [if_neg q] at K
  rw [decide_eq_false q] at Z
  refine ae0 (k:=k) (start:=i7 R.lc R.lp place before) (aO:=aO) (matched:=matched) P Y U hf O (aa au 0x11384031801110110044338403190110043 hn rfl) λaC g1 g2 g3=>K aC ?_ g2 (f3.trans g3)
  exists call Ks λt=>t H E.mB H hm H (bM hm rfl rfl) c1 f1 U (bM V rfl rfl) c2 Z (bM U rfl rfl) g1
end
theorem yd(b:Nat)(s l:Int):(iC b s l).length<=10:=by
 unfold iC;repeat' split
 all_goals simp [jY]
section
variable {S:fK}{R:MR}{z:S.Z}{n k:Nat}{σ:AH}
theorem Om(P:Sep S R)(E:Enc S R z n σ){W:Nat}(hW:σ[W]?=some (fG S R p0 s0 r))(hf:¬Ft S R W)(hb:(b=10/\l=R.l1)\/(b=14/\l=R.l2))(hl:2<=length/\length<=273)(hn:n+10<=900){G:Prop}
  (K:∀σ',am (ae (k+7)) 3808 [.ref W,.ref l,.int place,.int length] σ=some (.none,σ')->Enc S R (dN S (iC b (bO R.pb place) length) z) (n+(iC b (bO R.pb place) length).length) σ'->ak (Ft S R) σ σ'->G):G:=by
 have sI:=yI P.good place
 have hp:am (ae (k+6)) 151 [.ref R.p,.int place] σ=some (.int (bO R.pb place),σ):=Oe P.good E.md place
 have hc:R.cnt b=2/\R.cnt (b+1)=8*2^R.pb.toNat/\R.cnt (b+2)=8*2^R.pb.toNat/\R.cnt (b+3)=256/\b+3<18:=by rcases hb with⟨rfl,_⟩|⟨rfl,_⟩<;>exact⟨rfl,rfl,rfl,rfl,by decide⟩
 obtain⟨Y,El,ZJ,ZK,H⟩:=hc
 have O:∀{z:S.Z} {n:Nat} {σ:AH},Enc S R z n σ->σ[l]?=some (sU R b):=λE=>by
  rcases hb with⟨rfl,rfl⟩|⟨rfl,rfl⟩
  ·exact E.md.l1
  ·exact E.md.l2
 have Ew:=O E
 have hm:=E.md.m
 have EE:=E.md.p
 unfold iC at K
 by_cases q1:length<10
 ·rw [if_pos q1] at K
  have BC:length- 2<8:=(aa az 0x11801120110051a011001 q1 rfl)
  refine E.bit (k:=k) P (i:=b) (j:=0) (b:=0) (aa au 0x11120210041202130110044 H rfl) (aa az 0x101001000011001001072011002 Y rfl) (.inl rfl) (aa au 0x11384031004384031a0110043 hn rfl) λav f1 f2 f3=>?_
  refine f2.tree (k:=k) P (i:=b+1) (many:=3) (begin:=8*bO R.pb place) (value:=length- 2) (aa au 0x1112021101100441202130110044 H rfl) (aa au 0x113840313011101100443384031a0110043 hn rfl) ∅ (aq az 0x110101801120110051201100500107a01100111103100000201107 hl q1 rfl) (aq cF 0x8001010080012080110080164000801600107108016202100011002100170000107 sI El rfl) λaC g1 g2 g3=>K aC ?_ (by rw [fJ,jY];exact g2) (f3.trans g3)
  have U:=f3.get hW hf
  have J:=O f2
  exists call DS λt=>t hW hm (bM EE rfl rfl) hp (fi rfl) (iR BC) hW E.mB Ew f1 U f2.mT J g1
 ·rw [if_neg q1] at K
  have BC:¬length- 2<8:=(aa az 0x118011201100516a0110016 q1 rfl)
  refine E.bit (k:=k) P (i:=b) (j:=0) (b:=1) (aa au 0x11120210041202130110044 H rfl) (aa az 0x101001000011001001072011002 Y rfl) (.inr rfl) (aa au 0x11384031004384031a0110043 hn rfl) λav f1 f2 f3=>?_
  have U:=f3.get hW hf
  have J:=O f2
  by_cases q2:length<18
  ·rw [if_pos q2] at K
   have FQ:length- 2<16:=(aa az 0x11100212011005112021001 q2 rfl)
   refine f2.bit (k:=k) P (i:=b) (j:=1) (b:=0) (aa au 0x11120210041202130110044 H rfl) (aa az 0x10100100101111011001072011002 Y rfl) (.inl rfl) (aa au 0x1138403110110044384031a0110043 hn rfl) λaC g1 g2 g3=>?_
   refine g2.tree (k:=k) P (i:=b+2) (many:=3) (begin:=8*bO R.pb place) (value:=length- 10) (aa au 0x1112021201100441202130110044 H rfl) (aa au 0x11384031301110111011004443384031a0110043 hn rfl) ∅ (aq az 0x111018011a0110051a0110050010712021001a0110016 q1 q2 rfl) (aq cF 0x8001010080012080110080164000801600107108016202100011002100170000107 sI ZJ rfl) λdH j1 j2 j3=>K dH ?_ (by rw [fJ,fJ,jY];exact j2) ((f3.trans g3).trans j3)
   have pF:=g3.get U hf
   have V:=O g2
   rw [show length- 10=length- 2- 8 by exact(bx az 0x11801120110055a0110052 rfl)] at j1
   exists call DS λt=>t hW hm (bM EE rfl rfl) hp (fi rfl) (gJ BC) hW E.mB Ew f1 (iR FQ) U f2.mB J g1 pF g2.mT V j1
  ·rw [if_neg q2] at K
   have FQ:¬length- 2<16:=(aa az 0x1110021201100516120210016 q2 rfl)
   refine f2.bit (k:=k) P (i:=b) (j:=1) (b:=1) (aa au 0x11120210041202130110044 H rfl) (aa az 0x10100100101111011001072011002 Y rfl) (.inr rfl) (aa au 0x1138403110110044384031a0110043 hn rfl) λaC g1 g2 g3=>?_
   refine g2.tree (k:=k) P (i:=b+3) (many:=8) (begin:=0) (value:=length- 18) (aa au 0x1112021301100441202130110044 H rfl) (aa au 0x11384031801110111011004443384031a0110043 hn rfl) ∅ (aq az 0x10010011100031120210051120210050010712021001611103100000201107 hl q2 rfl) (by rw [ZK];decide) λdH j1 j2 j3=>K dH ?_ (by rw [fJ,fJ,jY];exact j2) ((f3.trans g3).trans j3)
   have pF:=g3.get U hf
   have V:=O g2
   rw [show length- 18=length- 2- 16 by exact(bx az 0x111002120110055120210052 rfl)] at j1
   exists call DS λt=>t hW hm (bM EE rfl rfl) hp (fi rfl) (gJ BC) hW E.mB Ew f1 (gJ FQ) U f2.mB J g1 pF g2.mT V j1
theorem ahk(h:0<=s/\s<100):am (ae (k+2)) 284 [.ref R.m,.int s] σ=some (.int ((tP s).2- s),σ):=by
 have H:=Pg (k:=k) (σ:=σ) h
 exists call XG λt=>t H
theorem ae1(P:Sep S R)(E:Enc S R z n σ){W:Nat}(O:σ[W]?=some (fG S R p0 s0 r))(hf:¬Ft S R W)(U:1<=dY/\dY<=128)(hl:2<=length/\length<=273)(hn:n+11<=900){G:Prop}
  (K:∀σ',am (ae (k+7)) 3815 [.ref W,.int dY,.int length] σ=some (.none,σ')->Enc S R (dN S (jS dY length) z) (n+(jS dY length).length) σ'->ak (Ft S R) σ σ'->G):G:=by
 have hS:=BP ⟨dY.toNat,(aq aX 0x10011810211040010228002100000101107 U (be (aa az 0x110000108002100000101107 U rfl)) rfl)⟩ (by show 1<=dY.toNat;exact(aq aX 0x11110101131020008002100000101107 U (jj _) rfl))
 rw [show(((⟨dY.toNat,(aq aX 0x10011810211040010228002100000101107 U (be (aa az 0x110000108002100000101107 U rfl)) rfl)⟩:Fin 129).val:Nat):Int)=dY by show((dY.toNat:Nat):Int)=dY;exact(aa aX 0x11101001022001022 (be (aa az 0x110000108002100000101107 U rfl)) rfl)] at hS
 have h1:am (ae (k+6)) 214 [.int dY] σ=some (.tup [.int (gf dY).1,.int (gf dY).2.1,.int (gf dY).2.2],σ):=ahb (aa az 0x101011186a0051001001011078002100000101107 U rfl)
 unfold jS at K
 rw [bZ,jY,jY,tN] at K
 generalize gf dY=f at*
 obtain⟨bH,H,J⟩:=f
 dsimp only at hS h1 K
 obtain⟨s1,s2,Z,s4,s5,s6,s7,s8,s9⟩:=hS
 have h2:am (ae (k+6)) 277 [.ref R.m,.int length] σ=some (.int (64*min (length- 2) 3),σ):=ahc hl.1
 refine E.tree (k:=k) P (i:=6) (many:=6) (begin:=64*min (length- 2) 3) (value:=bH) ∅ (aa au 0x1138403160110043384031b0110043 hn rfl) ∅ (aq az 0x11101400210010000107e011001000010 s1 s2 rfl) (Pf (aa az 0x112011005001011103100000201107 hl rfl)) λav f1 f2 f3=>?_
 have V:=f3.get O hf
 have hm:=E.md.m
 have Y:=f2.md.m
 by_cases q:H=0
 ·subst q
  refine K av ?_ f2 f3
  exists call Kr λt=>t h1 O E.mT O hm O (bM hm rfl rfl) h2 f1 (eqT ∅)
 ·have h3:am (ae (k+6)) 284 [.ref R.m,.int bH] av=some (.int (J- bH),av):=by
   have:=ahk (R:=R) (k:=k+4) (σ:=av) (s:=bH) (aq az 0x11101640210010000107e011001000010 s1 s2 rfl)
   replace this:=s9▸this;exact this
  refine f2.rev (k:=k) P (i:=7) (many:=H.toNat) (begin:=J- bH) (value:=dY- 1- J) ∅ (bB cQ 0x11011384031206011104430020225011000384031b0111043 hn s4 (be (aa az 0x11000010000010 Z rfl)) rfl) (bB aX 0x10101010118011103101011370000110010225011000 s4 (be (aa az 0x11000010000010 Z rfl)) (Fd q (aa az 0x11000010000010 Z rfl)) rfl) (aq cF 0x11101200010111055100101110550010720004101110511011105000 s5 s6 rfl) (by show 0<=_/\_<=(115:Int);exact(aq cF 0x1110173021201000540100050010773021201000540100050010 s7 s8 rfl)) λaC g1 g2 g3=>?_
  replace g1:=(show((H.toNat:Nat):Int)=H by exact(aa aX 0x11101001022001022 (be (aa az 0x11000010000010 Z rfl)) rfl))▸g1
  refine K aC ?_ (CP ..▸g2) (f3.trans g3)
  exists call Kr λt=>t h1 O E.mT O hm O (bM hm rfl rfl) h2 f1 (gy q) (iR s2) V f2.mR V Y V (bM Y rfl rfl) h3 g1
end
noncomputable def kI(pb state place dY length:Int):List Ev:=(0,16*state+bO pb place,1)::(1,state,0)::(iC 10 (bO pb place) length++jS dY length)
noncomputable def kG(pb state place index:Int):List Ev:=
 if index=0 then[(2,state,0),(5,16*state+bO pb place,1)] else if index=1 then[(2,state,1),(3,state,0)] else[(2,state,1),(3,state,1),(4,state,index- 2)]
noncomputable def kK(pb state place index length:Int):List Ev:=(0,16*state+bO pb place,1)::(1,state,1)::(kG pb state place index++iC 14 (bO pb place) length)
noncomputable def pZ(pb state place:Int):List Ev:=[(0,16*state+bO pb place,1),(1,state,1),(2,state,0),(5,16*state+bO pb place,0)]
theorem aha(h:1<=d/\d<=128):(gf d).2.1.toNat<=5:=by
 have H:=BP ⟨d.toNat,(aq aX 0x10011810211040010228002100000101107 h (be (aa az 0x110000108002100000101107 h rfl)) rfl)⟩ (by show 1<=d.toNat;exact(aq aX 0x11110101131020008002100000101107 h (jj _) rfl))
 replace H:=(show(((⟨d.toNat,(aq aX 0x10011810211040010228002100000101107 h (be (aa az 0x110000108002100000101107 h rfl)) rfl)⟩:Fin 129).val:Nat):Int)=d by show((d.toNat:Nat):Int)=d;exact(aa aX 0x11101001022001022 (be (aa az 0x110000108002100000101107 h rfl)) rfl))▸H
 have J:=H.2.2.1
 have O:=H.2.2.2.1
 exact(aq aX 0x101150111030010225011000 O (be (aa az 0x11000010000010 J rfl)) rfl)
theorem K3(l:Int)(h:1<=d/\d<=128):(jS d l).length<=11:=by
 unfold jS
 rw [bZ,jY,jY]
 have:=aha h;exact(aa au 0x11b011006011435011003 this rfl)
theorem EN(pb state place index:Int):(kG pb state place index).length<=3:=by
 unfold kG
 repeat' split
 all_goals simp
section
variable {S:fK}{R:MR}{z:S.Z}{n k:Nat}{σ:AH}
theorem yj(x:Int)(y:V):am (ae (k+1)) 3738 [.int x,y] σ=some (.none,σ):=by
 exists call YB λt=>t rfl rfl
theorem tu{lo:Int}(y:V)(h:lo<=x/\x<=O):am (ae (k+2)) 3745 [.int x,.int lo,.int O,y] σ=some (.none,σ):=by
 have H:=yj (k:=k) (σ:=σ) x y
 exists call KG λt=>t H (gJ (ky.mpr h.1)) rfl (gU (ky.mpr h.2))
theorem ad5{lo:Int}(y:V)(h:lo<=x):am (ae (k+2)) 3745 [.int x,.int lo,.none,y] σ=some (.none,σ):=by
 have H:=yj (k:=k) (σ:=σ) x y
 exists call KG λt=>t H (gJ (ky.mpr h)) rfl
theorem z0(P:Sep S R)(place:Int)(h:0<=state/\state<12):0<=16*state+bO R.pb place/\16*state+bO R.pb place<192:=by
 have:=yI P.good place;exact(aq cF 0x1002f0010101002f0011c002110001002641100010026400107201011002110171000107c0110010000107 h this rfl)
theorem ae4(P:Sep S R)(E:Enc S R z n σ){W:Nat}(Y:σ[W]?=some (fG S R p0 s0 r))(O:¬Ft S R W)(J:0<=state/\state<12)(hd:1<=dY/\dY<=128)(hl:2<=length/\length<=273)(Z:n+23<=900){G:Prop}
  (K:∀σ',am (ae (k+8)) 3822 [.ref W,.int state,.int place,.int dY,.int length] σ=some (.none,σ')->Enc S R (dN S (kI R.pb state place dY length) z) (n+(kI R.pb state place dY length).length) σ'->ak (Ft S R) σ σ'->G):G:=by
 have hc:=z0 P place J
 have c1:am (ae (k+7)) 270 [.ref R.m,.int state,.int place] σ=some (.int (16*state+bO R.pb place),σ):=uU P.good E.md J
 refine E.bit (k:=k+1) P (i:=0) (j:=16*state+bO R.pb place) (b:=1) ∅ hc (.inr rfl) (aa au 0x11384031004384031170210043 Z rfl) λav f1 f2 f3=>?_
 refine f2.bit (k:=k+1) P (i:=1) (j:=state) (b:=0) ∅ J (.inl rfl) (aa au 0x1138403110110044384031170210043 Z rfl) λaC g1 g2 g3=>?_
 have U:=f3.get Y O
 have H:=g3.get U O
 have hL:=yd 10 (bO R.pb place) length
 refine Om (k:=k) (place:=place) (length:=length) P g2 H O (.inl ⟨rfl,rfl⟩) hl (aa au 0x11384031a01110111011004443384031170210043 Z rfl) λdH j1 j2 j3=>?_
 have V:=j3.get H O
 refine ae1 (k:=k) (dY:=dY) (length:=length) P j2 V O hd hl (aq aJ 0x111384031b01110101110110044443a011103384031170210043 Z hL rfl) λjn m1 m2 m3=>?_
 have hm:=E.md.m
 have oH:=f2.md.m
 have qP:=g2.md.m
 unfold kI at K
 rw [BH,BH,tN,fJ,fJ,bZ,show n+((iC 10 (bO R.pb place) length).length+(jS dY length).length+1+1)=n+1+1+(iC 10 (bO R.pb place) length).length+(jS dY length).length by exact(bx bL 0x112010101110110044441011101120104440045 rfl)] at K
 refine K jn ?_ m2 (((f3.trans g3).trans j3).trans m3)
 exists call Yd λt=>t Y E.mB Y hm Y (bM hm rfl rfl) c1 f1 U f2.mB U oH g1 (bM H rfl rfl) H qP j1 (bM V rfl rfl) m1
theorem ae2(P:Sep S R)(E:Enc S R z n σ){W:Nat}(H:σ[W]?=some (fG S R p0 s0 r))(hf:¬Ft S R W)(J:0<=state/\state<12)(hi:0<=index/\index<=3)(Z:n+3<=900){G:Prop}
  (K:∀σ',am (ae (k+7)) 3829 [.ref W,.int state,.int place,.int index] σ=some (.none,σ')->Enc S R (dN S (kG R.pb state place index) z) (n+(kG R.pb state place index).length) σ'->ak (Ft S R) σ σ'->G):G:=by
 have hc:=z0 P place J
 have hm:=E.md.m
 unfold kG at K
 by_cases q:index=0
 ·rw [if_pos q] at K
  refine E.bit (k:=k) P (i:=2) (j:=state) (b:=0) ∅ J (.inl rfl) (aa au 0x1138403100438403130110043 Z rfl) λav f1 Y f3=>?_
  have c1:am (ae (k+6)) 270 [.ref R.m,.int state,.int place] av=some (.int (16*state+bO R.pb place),av):=uU P.good Y.md J
  refine Y.bit (k:=k) P (i:=5) (j:=16*state+bO R.pb place) (b:=1) ∅ hc (.inr rfl) (aa au 0x113840311011004438403130110043 Z rfl) λaC g1 O g3=>K aC ?_ O (f3.trans g3)
  have U:=f3.get H hf
  have V:=Y.md.m
  exists call DR λt=>t (eqT q) H E.mB H hm f1 U Y.mB U V U (bM V rfl rfl) c1 g1
 ·rw [if_neg q] at K
  refine E.bit (k:=k) P (i:=2) (j:=state) (b:=1) ∅ J (.inr rfl) (aa au 0x1138403100438403130110043 Z rfl) λav f1 Y f3=>?_
  have U:=f3.get H hf
  have V:=Y.md.m
  by_cases q1:index=1
  ·rw [if_pos q1] at K
   refine Y.bit (k:=k) P (i:=3) (j:=state) (b:=0) ∅ J (.inl rfl) (aa au 0x113840311011004438403130110043 Z rfl) λaC g1 O g3=>K aC ?_ O (f3.trans g3)
   exists call DR λt=>t (gy q) H E.mB H hm f1 (eqT q1) U Y.mB U V g1
  ·rw [if_neg q1] at K
   refine Y.bit (k:=k) P (i:=3) (j:=state) (b:=1) ∅ J (.inr rfl) (aa au 0x113840311011004438403130110043 Z rfl) λaC g1 O g3=>?_
   refine O.bit (k:=k) P (i:=4) (j:=state) (b:=index- 2) ∅ J (N6 (aq az 0x10010011201120110051201100500107001011130110000000107 hi (Fd q1 (aa az 0x110010110000011 (Fd q (aa az 0x1100001030110000000107 hi rfl)) rfl)) rfl)) (aa au 0x11384031101110110044438403130110043 Z rfl) λdH j1 j2 j3=>K dH ?_ j2 ((f3.trans g3).trans j3)
   have pF:=g3.get U hf
   have qP:=O.md.m
   exists call DR λt=>t (gy q) H E.mB H hm f1 (gy q1) U Y.mB U V g1 pF O.mB pF qP j1
theorem ae5(P:Sep S R)(E:Enc S R z n σ){W:Nat}(Y:σ[W]?=some (fG S R p0 s0 r))(O:¬Ft S R W)(J:0<=state/\state<12)(hi:0<=index/\index<=3)(hl:2<=length/\length<=273)(Z:n+15<=900){G:Prop}
  (K:∀σ',am (ae (k+8)) 3836 [.ref W,.int state,.int place,.int index,.int length] σ=some (.none,σ')->Enc S R (dN S (kK R.pb state place index length) z) (n+(kK R.pb state place index length).length) σ'->ak (Ft S R) σ σ'->G):G:=by
 have hc:=z0 P place J
 have c0:am (ae (k+7)) 3745 [.int index,.int 0,.int 3,.str 47] σ=some (.none,σ):=tu _ hi
 have c1:am (ae (k+7)) 270 [.ref R.m,.int state,.int place] σ=some (.int (16*state+bO R.pb place),σ):=uU P.good E.md J
 refine E.bit (k:=k+1) P (i:=0) (j:=16*state+bO R.pb place) (b:=1) ∅ hc (.inr rfl) (aa au 0x11384031004384031f0110043 Z rfl) λav f1 f2 f3=>?_
 refine f2.bit (k:=k+1) P (i:=1) (j:=state) (b:=1) ∅ J (.inr rfl) (aa au 0x1138403110110044384031f0110043 Z rfl) λaC g1 g2 g3=>?_
 have U:=f3.get Y O
 have H:=g3.get U O
 refine ae2 (k:=k) (place:=place) (index:=index) P g2 H O J hi (aa au 0x11384031301110111011004443384031f0110043 Z rfl) λdH j1 j2 j3=>?_
 have hI:=EN R.pb state place index
 have V:=j3.get H O
 refine Om (k:=k) (place:=place) (length:=length) P j2 V O (.inr ⟨rfl,rfl⟩) hl (aq aJ 0x111384031a011101011101100444433011103384031f0110043 Z hI rfl) λjn m1 m2 m3=>?_
 have hm:=E.md.m
 have oH:=f2.md.m
 have hm3:=j2.md.m
 unfold kK at K
 rw [BH,BH,tN,fJ,fJ,bZ,show n+((kG R.pb state place index).length+(iC 14 (bO R.pb place) length).length+1+1)=n+1+1+(kG R.pb state place index).length+(iC 14 (bO R.pb place) length).length by exact(bx bL 0x112010101110110044441011101120104440045 rfl)] at K
 refine K jn ?_ m2 (((f3.trans g3).trans j3).trans m3)
 exists call Yg λt=>t c0 Y E.mB Y hm Y (bM hm rfl rfl) c1 f1 U f2.mB U oH g1 (bM H rfl rfl) j1 (bM V rfl rfl) V hm3 m1
theorem ae7(P:Sep S R)(E:Enc S R z n σ){W:Nat}(Z:σ[W]?=some (fG S R p0 s0 r))(hf:¬Ft S R W)(J:0<=state/\state<12)(hn:n+4<=900){G:Prop}
  (K:∀σ',am (ae (k+7)) 3843 [.ref W,.int state,.int place] σ=some (.none,σ')->Enc S R (dN S (pZ R.pb state place) z) (n+4) σ'->ak (Ft S R) σ σ'->G):G:=by
 have hc:=z0 P place J
 have c1:am (ae (k+6)) 270 [.ref R.m,.int state,.int place] σ=some (.int (16*state+bO R.pb place),σ):=uU P.good E.md J
 refine E.bit (k:=k) P (i:=0) (j:=16*state+bO R.pb place) (b:=1) ∅ hc (.inr rfl) (aa au 0x1138403100438403140110043 hn rfl) λav f1 f2 f3=>?_
 refine f2.bit (k:=k) P (i:=1) (j:=state) (b:=1) ∅ J (.inr rfl) (aa au 0x113840311011004438403140110043 hn rfl) λaC g1 g2 g3=>?_
 refine g2.bit (k:=k) P (i:=2) (j:=state) (b:=0) ∅ J (.inl rfl) (aa au 0x11384031101110110044438403140110043 hn rfl) λO j1 j2 j3=>?_
 have c2:am (ae (k+6)) 270 [.ref R.m,.int state,.int place] O=some (.int (16*state+bO R.pb place),O):=uU P.good j2.md J
 refine j2.bit (k:=k) P (i:=5) (j:=16*state+bO R.pb place) (b:=0) ∅ hc (.inl rfl) (aa au 0x1138403110111011101100444438403140110043 hn rfl) λjn m1 m2 m3=>K jn ?_ m2 (((f3.trans g3).trans j3).trans m3)
 have U:=f3.get Z hf
 have H:=g3.get U hf
 have V:=j3.get H hf
 have hm:=E.md.m
 have oH:=f2.md.m
 have qP:=g2.md.m
 have Y:=j2.md.m
 exists call Yh λt=>t Z E.mB Z hm Z (bM hm rfl rfl) c1 f1 U f2.mB U oH g1 H g2.mB H qP j1 V j2.mB V Y V (bM Y rfl rfl) c2 m1
end
theorem kN(h:σ[m]?=some (.list l))(V:l.length<=1000)(O:0<=i/\i<l.length)(H:l[i.toNat]?=some v):cP φ (.ref m) (.int i) σ=some (v,σ):=lz h V (if_pos O) H
noncomputable def oct(b:Array UInt8)(i:Int):Int:=((b.toList.getD i.toNat 0).toNat:Int)
theorem pP(b:Array UInt8)(i:Int):0<=oct b i/\oct b i<=255:=by
 unfold oct
 have:=(b.toList.getD i.toNat 0).toNat_lt
 exact(aa au 0x1101ff021002000200107100031004 this rfl)
theorem tQ(O:b.size<=1000)(H:0<=i/\i<b.size):cP φ (.bytes b) (.int i) σ=some (.int (oct b i),σ):=gV rfl (gV rfl (if_pos ⟨O,H⟩))
structure Mk(S:fK)(R:MR)(T W r0 l0:Nat)(place state:Int)(B:List Int)(σ:AH):Prop where
 w:σ[W]?=some (fG S R place state r0)
 r:σ[r0]?=some (.obj 352 [(23,.ref l0)])
 l:σ[l0]?=some (.list (B.map .int))
 fw:¬Ft S R W
 fr:¬Ft S R r0
 fl:¬Ft S R l0
 top:T<=σ.length
 ft:∀m,Ft S R m->m<T
section
variable {S:fK}{R:MR}{z:S.Z}{n k T W r l:Nat}{σ σ':AH}{place state:Int}{B:List Int}
theorem Mk.bW(M:Mk S R T W r l place state B σ)(F:ak (Ft S R) σ σ'):Mk S R T W r l place state B σ':=⟨F.get M.w M.fw,F.get M.r M.fr,F.get M.l M.fl,M.fw,M.fr,M.fl,bo M.top F.1,M.ft⟩
theorem Enc.set(E:Enc S R z n σ){fs}(H:σ[m]?=some (.obj C fs))(V:C≠294/\C≠154/\C≠238)(J:¬Ft S R m)(c:AC):Enc S R z n (σ.set m c):=by
 refine E.mono λj Y O e=>?_
 have U:m≠j:=by
  intro q;subst q
  rcases O with h|h|h|h|h
  ·exact J h
  ·rw [h,E.md.m] at H;unfold E8 at H;cases H;exact V.1 rfl
  ·rw [h,E.md.p] at H;unfold FL at H;cases H;exact V.2.1 rfl
  ·rw [h,E.md.l1] at H;unfold sU at H;cases H;exact V.2.2 rfl
  ·rw [h,E.md.l2] at H;unfold sU at H;cases H;exact V.2.2 rfl
 exact iN U e
theorem Enc.cU(E:Enc S R z n σ)(l:AH):Enc S R z n (σ++l):=E.mono λj J H e=>aN e
theorem new:(σ++[c])[σ.length]?=some c:=Cc ..
theorem fP:σ.length<=(σ++[c]).length:=by simp
theorem Pd{L:List V}(h:nI σ m=some L)(O: -1000000<=i/\i<=1000000)(J:L.length<=1000)(H:clipAt L.length i=c):
  ly front (.ref m) (.int i) σ=some (.ref σ.length,σ++[.list (if front then L.take c else L.drop c)]):=bI h ((if_pos ⟨O,J⟩).trans (H▸rfl))
theorem nO{L:List V}(h:σ[m]?=some (.list L))(O: -1000000<=i/\i<=1000000)(J:L.length<=1000)(H:clipAt L.length i=c):
  ly front (.ref m) (.int i) σ=some (.ref σ.length,σ++[.list (if front then L.take c else L.drop c)]):=Pd (bI h rfl) O J H
theorem gS{L:List V}(h:σ[m]?=some (.list L))(h':σ[n]?=some (.list L'))(J:L.length+L'.length<=1000):kZ .Add (.ref m) (.ref n) σ=some (.ref σ.length,σ++[.list (L++L')]):=
 gV rfl (fQ (bI h (fQ (bI h' (if_pos ⟨rfl,J⟩)))))
theorem Ow(V:σ[r]?=some (.obj 352 [(23,.ref l)]))(J:σ[l]?=some (.list ((H::O).map .int)))(U:O.length<=100):am (ae (k+1)) 328 [.ref r] σ=some (.int H,σ):=by
 have Y:cP (ae k) (.ref l) (.int 0) σ=some (.int H,σ):=kN J (by rw [bf,fJ];exact(aa au 0x113e80311011004364021003 U rfl)) ⟨qn _,by rw [bf,fJ];exact(bx au 0x1101100420011 rfl)⟩ rfl
 exists call XV λt=>t V Y
theorem afp(Z:σ[r]?=some (.obj 352 [(23,.ref l)]))(hl:σ[l]?=some (.list ([J,O,U,b3].map .int))){G:Prop}
  (K:∀σ' l',am (ae (k+1)) 342 [.ref r,.int d] σ=some (.none,σ')->σ'[r]?=some (.obj 352 [(23,.ref l')])->σ'[l']?=some (.list ([d,J,O,U].map .int))->σ.length<=l'->ak (λm=>m=r) σ σ'->G):G:=by
 have a1:(σ++[AC.list [.int d]])[σ.length]?=some (.list [.int d]):=new
 have H:=aN (l:=[AC.list [.int d]]) Z
 have s1:=nO (front:=true) (i:=3) (c:=3) (aN (l:=[AC.list [.int d]]) hl) ∅ (show 4<=1000 by decide) (show clipAt 4 3=3 by decide)
 have V:=aN (l:=[AC.list [.int J,.int O,.int U]]) H
 have a2:=gS (aN (l:=[AC.list [.int J,.int O,.int U]]) a1) new (show 1+3<=1000 by decide)
 have Y:=aN (l:=[AC.list [.int d,.int J,.int O,.int U]]) V
 refine K _ (σ++[AC.list [.int d]]++[AC.list [.int J,.int O,.int U]]).length ?_ (gH Y) (iN (dW (cK V)) new) (bo fP fP) (pD rfl (bE (bE (bE (ak.refl _ _)))))
 exists call XY λt=>t rfl H s1 a2 Y rfl
noncomputable def rC(B:List Int)(i:Nat):List Int:=B.getD i 0::(B.take i++B.drop (i+1))
theorem xf(h:0<=i/\i<=4):clipAt 4 i=i.toNat:=by
 have:i=0\/i=1\/i=2\/i=3\/i=4:=Fx (aa az 0x1010115011001000010740110000000107 h rfl)
 rcases this with rfl|rfl|rfl|rfl|rfl<;>decide
theorem afq(O:0<=i/\i<=3)(hr:σ[r]?=some (.obj 352 [(23,.ref l)]))(hl:σ[l]?=some (.list ([b0,b1,b2,b3].map .int))){G:Prop}
  (K:∀σ' l',am (ae (k+1)) 335 [.ref r,.int i] σ=some (.int ([b0,b1,b2,b3].getD i.toNat 0),σ')->σ'[r]?=some (.obj 352 [(23,.ref l')])->σ'[l']?=some (.list ((rC [b0,b1,b2,b3] i.toNat).map .int))->σ.length<=l'->ak (λm=>m=r) σ σ'->G):G:=by
 have hB:([b0,b1,b2,b3]:List Int).length=4:=rfl
 unfold rC at K
 generalize ([b0,b1,b2,b3]:List Int)=B at*
 have hv:(B.map V.int)[i.toNat]?=some (.int (B.getD i.toNat 0)):=by
  rw [eT,jI,iy (by exact(bB cQ 0x101001110204002022401110530110000000107 O hB (be (aa az 0x1100001030110000000107 O rfl)) rfl))];rfl
 have H:(B.map V.int).length=4:=by rw [bf,hB]
 have s0:cP (ae k) (.ref l) (.int i) σ=some (.int (B.getD i.toNat 0),σ):=kN hl (aa au 0x113e80310034011005 H rfl) (aq aX 0x10101010011020010000107401110530110000000107 O H rfl) hv
 generalize B.getD i.toNat 0=x at*
 have a1:(σ++[AC.list [.int x]])[σ.length]?=some (.list [.int x]):=new
 have J:=aN (l:=[AC.list [.int x]]) hl
 have U:=aN (l:=[AC.list [.int x]]) hr
 have s1:=nO (front:=true) (i:=i) (c:=i.toNat) J (aa az 0x101011f424005100000f424005130730110000000107 O rfl) (aa au 0x113e80310034011005 H rfl) (by rw [H];exact xf (aa az 0x1010114011000000010730110000000107 O rfl))
 have hr2:=aN (l:=[AC.list ((B.map V.int).take i.toNat)]) U
 have a2:=gS (aN (l:=[AC.list ((B.map V.int).take i.toNat)]) a1) new (by rw [mU,fW];exact(aq aJ 0x1113e803110101143001034011005 H (wm _ _) rfl))
 have mq:=aN (l:=[AC.list ([V.int x]++(B.map V.int).take i.toNat)]) (aN (l:=[AC.list ((B.map V.int).take i.toNat)]) J)
 have Y:=aN (l:=[AC.list ([V.int x]++(B.map V.int).take i.toNat)]) hr2
 have s3:=nO (front:=false) (i:=i+1) (c:=i.toNat+1) mq (by exact(aa az 0x101011f4240051101100401011004f424005130730110000000107 O rfl)) (by exact(aa au 0x113e80310034011005 H rfl)) (by rw [H,xf (by exact(aa az 0x10101140111011004010110040010730110000000107 O rfl))];exact(aq cQ 0x110110011101120410500202210110041022 (be (aa az 0x111011004001030110000000107 O rfl)) (be (aa az 0x1100001030110000000107 O rfl)) rfl))
 have Z:=aN (l:=[AC.list ((B.map V.int).drop (i.toNat+1))]) Y
 have a4:=gS (aN (l:=[AC.list ((B.map V.int).drop (i.toNat+1))]) (new (σ:=σ++[AC.list [.int x]]++[AC.list ((B.map V.int).take i.toNat)]) (c:=AC.list ([V.int x]++(B.map V.int).take i.toNat)))) new (by rw [bZ,mU,wl,fW];exact(bB dR 0x210113e8031201010114431011304204003002037001034011005 H (wm _ _) (sN _ _) rfl))
 have Mg:=aN (l:=[AC.list ([V.int x]++(B.map V.int).take i.toNat++(B.map V.int).drop (i.toNat+1))]) Z
 refine K _ _ ?_ (gH Mg) ((iN (dW (cK Z)) new).trans ?_) (bo fP (bo fP (bo fP fP))) (pD rfl (bE (bE (bE (bE (bE (ak.refl _ _)))))))
 ·exists call XZ λt=>t hr s0 rfl U s1 a2 Y s3 a4 Mg rfl
 ·rw [jk,ko,uu,CQ];rfl
theorem uW(H:σ[W]?=some (fG S R place state r))(O:1<=d/\d<=place):am (ae (k+2)) 3941 [.ref W,.int d] σ=some (.none,σ):=by
 have J:=yj (k:=k) (σ:=σ) d (.str 44)
 exists call Xo λt=>t J (oN O.1) H (oN O.2)
theorem JH(O:2<=d/\d<=273):am (ae (k+3)) 3948 [.ref W,.int d] σ=some (.none,σ):=by
 have H:=tu (k:=k) (σ:=σ) (.str 45) O
 exists call Xp λt=>t H
theorem NP{b:Array UInt8}{at' d:Int}(O:b.size<=1000)(h:0<=at'- d/\at'- d<b.size):am (ae (k+1)) 3766 [.bytes b,.int at',.int d] σ=some (.int (oct b (at'- d)),σ):=by
 have H:=tQ (φ:=ae k) (σ:=σ) O h
 have J:¬d>at':=(aa iB 0x111000162021000511000500107 h rfl)
 exists call YC λt=>t (gU J) H
theorem sS(O:b.size<=1000):fk .len [.bytes b] σ=some (.int b.size,σ):=if_pos O
theorem FU{b:Array UInt8}{at' d H:Int}(J:b.size<=1000)(O:1<=d/\d<=at')(V:0<=H/\at'+H<=b.size)(he:∀i,0<=i->i<H->oct b (at'+i)=oct b (at'+i- d)):
  am (ae (k+1)) 3759 [.bytes b,.int at',.int d,.int H] σ=some (.bool true,σ):=by
 refine mF (φ:=ae k) (σ:=σ) (cZ:=σ) (ρ:=[some (.bytes b),some (.int at'),some (.int d),some (.int H),none]) (s:=G4.stmt 1) (l:=eV at' (at'+H)) rfl (by
   exists iter λt=>t (BQ (nA (bB jt 0x100111011001100000000000b1210110100000000000b12317302201040200010710000001011073e8031303 J O V rfl)) (nA (bB jt 0x100101011011100000000000b1220104120104100000000000b12317302201040200010710000001011073e8031303 J O V rfl)))
   )
  (λi ρ σ'=>∀G:Prop,(∀a,σ'=σ->ρ=[some (.bytes b),some (.int at'),some (.int d),some (.int H),a]->G)->G)
  (λY K=>K none rfl rfl) (λi v ρ av U hI G K=>hI G λa e1 e=>?_) λaV σ' h1 h2=>h2 _ λa e1 e=>?_
 ·subst e e1
  obtain⟨rfl,Z⟩:=mD U
  have s1:=tQ (φ:=ae k) (σ:=av) (i:=at'+i) J (bB wY 0x101111000130240210414021040010710201045402130220104020001071000000101107 O V Z rfl)
  have s2:=tQ (φ:=ae k) (σ:=av) (i:=at'+i- d) J (bB wY 0x1101110000130200402104510040210450010710201045402130220104020001071000000101107 O V Z rfl)
  have e:=he i (bx au 0x10020010 rfl) (aa iB 0x11102021001000452021 Z rfl)
  refine K _ .next _ av rfl ?_ λG K=>K (some (.int (at'+i))) rfl rfl
  exists body λt=>t s1 s2 (tn e)
 ·subst e e1
  have h5:¬at'+H>b.size:=(aa iB 0x10100104202162020010400000107 V rfl)
  exists call YD λt=>t (oN O.1) (oN O.2) (sS J) (gU h5) h1
end
def Fo(S:fK)(R:MR)(W r:Nat)(m:Nat):Prop:=Ft S R m\/m=W\/m=r
noncomputable def kD(s:Int):Int:=if s<4 then 0 else if s<10 then s- 3 else s- 6
noncomputable def lV(s:Int):Int:=if s<7 then 7 else 10
noncomputable def lW(s:Int):Int:=if s<7 then 8 else 11
noncomputable def lY(s:Int):Int:=if s<7 then 9 else 11
theorem xz(h:B.length=4):∃H J O U,B=[H,J,O,U]:=by
 match B,h with
 |[H,J,O,U],_=>exact⟨_,_,_,_,rfl⟩
section
variable {S:fK}{R:MR}{z:S.Z}{n k T W r l:Nat}{σ σ':AH}{place state:Int}{B:List Int}
theorem Mk.Nx(M:Mk S R T W r l place state B σ):W≠r:=by
 intro q;have:=M.w;rw [q,M.r] at this;unfold fG at this;cases this
theorem Mk.neL(M:Mk S R T W r l place state B σ):W≠l:=by
 intro q;have:=M.w;rw [q,M.l] at this;unfold fG at this;cases this
theorem Mk.pV(M:Mk S R T W r l place state B σ)(p s:Int):Mk S R T W r l p s B (σ.set W (fG S R p s r)):=
 ⟨gH M.w,iN M.Nx M.r,iN M.neL M.l,M.fw,M.fr,M.fl,by rw [lN];exact M.top,M.ft⟩
theorem Enc.pV(E:Enc S R z n σ)(M:Mk S R T W r l place state B σ)(c:AC):Enc S R z n (σ.set W c):=E.set (C:=4021) M.w ∅ M.fw c
theorem Enc.Lj(E:Enc S R z n σ)(M:Mk S R T W r l place state B σ)(F:ak (λm=>m=r) σ σ'):Enc S R z n σ':=by
 refine E.mono λj c J e=>F.get e λq=>?_
 subst q
 have H:=M.r
 rcases J with h|h|h|h|h
 ·exact M.fr h
 ·rw [h,E.md.m] at H;unfold E8 at H;cases H
 ·rw [h,E.md.p] at H;unfold FL at H;cases H
 ·rw [h,E.md.l1] at H;unfold sU at H;cases H
 ·rw [h,E.md.l2] at H;unfold sU at H;cases H
theorem Mk.q9(M:Mk S R T W r l place state B σ)(F:ak (λm=>m=r) σ σ')(H:σ'[r]?=some (.obj 352 [(23,.ref l')]))(J:σ'[l']?=some (.list (B'.map .int)))(O:σ.length<=l'):Mk S R T W r l' place state B' σ':=
 ⟨F.get M.w M.Nx,H,J,M.fw,M.fr,λq=>by have H:=M.ft _ q;have J:=M.top;exact(bB bL 0x1118002032010410003 O H J rfl),bo M.top F.1,M.ft⟩
theorem Mk.two(M:Mk S R T W r l place state B σ)(E:Enc S R z n σ)(p s s':Int):Enc S R z n ((σ.set W (fG S R place s r)).set W (fG S R p s' r))/\Mk S R T W r l p s' B ((σ.set W (fG S R place s r)).set W (fG S R p s' r))/\ak (Fo S R W r) σ ((σ.set W (fG S R place s r)).set W (fG S R p s' r)):=
 have J:=M.pV place s
 ⟨(E.pV M _).pV J _,J.pV p s',(ak.set _ _ _ (.inr (.inl rfl))).trans (ak.set _ _ _ (.inr (.inl rfl)))⟩
theorem abK(P:Sep S R)(E:Enc S R z n σ)(M:Mk S R T W r l place state B σ)(J:0<=state/\state<12)(ho:0<=aO/\aO<=255)(hb:0<=before/\before<=255)(hm:0<=matched/\matched<=255)(hn:n+9<=900){G:Prop}
  (K:∀σ',am (ae (k+10)) 3955 [.ref W,.int aO,.int before,.int matched] σ=some (.none,σ')->Enc S R (dN S (litE R.lc R.lp R.pb state place before aO matched) z) (n+9) σ'->
   Mk S R T W r l (place+1) (kD state) B σ'->ak (Fo S R W r) σ σ'->G):G:=by
 refine mF (φ:=ae (k+9)) (σ:=σ) (cZ:=σ) (ρ:=[some (.ref W),some (.int aO),some (.int before),some (.int matched),none]) (s:=GP.stmt 0) (l:=[.int aO,.int before,.int matched]) rfl (by
   exists iter λt=>t
   )
  (λi ρ σ'=>∀G:Prop,(∀a,σ'=σ->ρ=[some (.ref W),some (.int aO),some (.int before),some (.int matched),a]->G)->G)
  (λY K=>K none rfl rfl) (λi v ρ av O hI G K=>hI G λa V e=>?_) λaV cZ Z h2=>h2 _ λa V e=>?_
 ·subst e V
  have hv:∃x,v=.int x/\0<=x/\x<=255:=by
   match i,O with
   |0,q=>exact⟨_,(bT q).symm,ho⟩
   |1,q=>exact⟨_,(bT q).symm,hb⟩
   |2,q=>exact⟨_,(bT q).symm,hm⟩
  obtain⟨x,rfl,hx⟩:=hv
  have Z:am (ae (k+9)) 3745 [.int x,.int 0,.int 255,.str 46] av=some (.none,av):=tu _ hx
  refine K _ .next _ av rfl ?_ λG K=>K (some (.int x)) rfl rfl
  exists body λt=>t Z
 ·subst e V
  refine ae3 (k:=k) (place:=place) (before:=before) (aO:=aO) (matched:=matched) P E M.w M.fw J hb hn λav f1 f2 f3=>?_
  have M1:=M.bW f3
  have t:=M1.two f2 (place+1) (kD state) (kD state)
  refine K _ ?_ t.1 t.2.1 ((f3.wide λY q=>.inl q).trans t.2.2)
  have c1:am (ae (k+9)) 165 [.int state] av=some (.int (kD state),av):=ahd _
  have hW:=M.w
  have U:=M1.w
  have H:=(M1.pV place (kD state)).w
  exists call Xr λt=>t Z (bM hW rfl rfl) hW hW f1 U c1 U rfl H H rfl
theorem ab5(P:Sep S R)(E:Enc S R z n σ)(M:Mk S R T W r l place state B σ)(hB:B.length=4)(fh:0<=state/\state<12)(Z:1<=d/\d<=128/\d<=place)(hl:2<=J/\J<=273)(hn:n+23<=900){G:Prop}
  (K:∀σ' l',am (ae (k+9)) 3962 [.ref W,.int d,.int J] σ=some (.none,σ')->Enc S R (dN S (kI R.pb state place d J) z) (n+(kI R.pb state place d J).length) σ'->
   Mk S R T W r l' (place+J) (lV state) (d::B.take 3) σ'->ak (Fo S R W r) σ σ'->G):G:=by
 obtain⟨b0,b1,b2,b3,rfl⟩:=xz hB
 have c1:am (ae (k+8)) 3941 [.ref W,.int d] σ=some (.none,σ):=uW M.w ⟨Z.1,Z.2.2⟩
 have c2:am (ae (k+8)) 3948 [.ref W,.int J] σ=some (.none,σ):=JH hl
 refine ae4 (k:=k) (place:=place) (dY:=d) (length:=J) P E M.w M.fw fh ⟨Z.1,Z.2.1⟩ hl hn λav f1 f2 f3=>?_
 have H:=M.bW f3
 refine afp (k:=k+7) (d:=d) H.r H.l λaC l' g1 g2 g3 g4 g5=>?_
 have M2:=H.q9 g5 g2 g3 g4
 have t:=M2.two (f2.Lj H g5) (place+J) (lV state) (lV state)
 refine K _ l' ?_ t.1 t.2.1 ((f3.wide λY q=>.inl q).trans ((g5.wide λY q=>.inr (.inr q)).trans t.2.2))
 have c3:am (ae (k+8)) 172 [.int state] aC=some (.int (lV state),aC):=ahe _
 have O:=M.w
 have Ek:=H.w
 have U:=M2.w
 have V:=(M2.pV place (lV state)).w
 have EJ:=H.r
 exists call Xs λt=>t (bM O rfl rfl) c1 (bM O rfl rfl) c2 (bM O rfl rfl) O O f1 Ek (bM EJ rfl rfl) g1 U c3 U rfl V V rfl
theorem afm(P:Sep S R)(E:Enc S R z n σ)(M:Mk S R T W r l place state B σ)(hB:B.length=4)(fh:0<=state/\state<12)(O:0<=i/\i<=3)(hd:1<=B.getD i.toNat 0/\B.getD i.toNat 0<=place)(hl:2<=J/\J<=273)(hn:n+15<=900){G:Prop}
  (K:∀σ' l',am (ae (k+9)) 3969 [.ref W,.int i,.int J] σ=some (.none,σ')->Enc S R (dN S (kK R.pb state place i J) z) (n+(kK R.pb state place i J).length) σ'->
   Mk S R T W r l' (place+J) (lW state) (rC B i.toNat) σ'->ak (Fo S R W r) σ σ'->G):G:=by
 have s0:cP (ae (k+8)) (.ref l) (.int i) σ=some (.int (B.getD i.toNat 0),σ):=kN M.l (by rw [bf];exact(aa au 0x113e80310034011005 hB rfl)) (by rw [bf];exact(aq aX 0x10101000111020010000107301100000001074011105 hB O rfl)) (by
  rw [eT,jI,iy (by exact(bB cQ 0x101001110204002022301100000001074011105 hB O (be (aa az 0x1100001030110000000107 O rfl)) rfl))];rfl)
 have c1:am (ae (k+8)) 3941 [.ref W,.int (B.getD i.toNat 0)] σ=some (.none,σ):=uW M.w hd
 obtain⟨b0,b1,b2,b3,rfl⟩:=xz hB
 have c0:am (ae (k+8)) 3745 [.int i,.int 0,.int 3,.str 47] σ=some (.none,σ):=tu _ O
 have c2:am (ae (k+8)) 3948 [.ref W,.int J] σ=some (.none,σ):=JH hl
 refine ae5 (k:=k) (place:=place) (index:=i) (length:=J) P E M.w M.fw fh O hl hn λav f1 f2 f3=>?_
 have H:=M.bW f3
 refine afq (k:=k+7) O H.r H.l λaC l' g1 g2 g3 g4 g5=>?_
 have M2:=H.q9 g5 g2 g3 g4
 have t:=M2.two (f2.Lj H g5) (place+J) (lW state) (lW state)
 refine K _ l' ?_ t.1 t.2.1 ((f3.wide λY q=>.inl q).trans ((g5.wide λY q=>.inr (.inr q)).trans t.2.2))
 have c3:am (ae (k+8)) 179 [.int state] aC=some (.int (lW state),aC):=ahf _
 have U:=M.w
 have Ek:=H.w
 have V:=M2.w
 have Z:=(M2.pV place (lW state)).w
 have hr:=M.r
 have EJ:=H.r
 exists call Xv λt=>t c0 (bM U rfl rfl) U hr s0 c1 (bM U rfl rfl) c2 (bM U rfl rfl) U U f1 Ek (bM EJ rfl rfl) g1 V c3 V rfl Z Z rfl
theorem af8(P:Sep S R)(E:Enc S R z n σ)(M:Mk S R T W r l place state B σ)(hB:B.length=4)(J:0<=state/\state<12)(hd:1<=B.getD 0 0/\B.getD 0 0<=place)(hn:n+4<=900){G:Prop}
  (K:∀σ',am (ae (k+9)) 3976 [.ref W] σ=some (.none,σ')->Enc S R (dN S (pZ R.pb state place) z) (n+4) σ'->Mk S R T W r l (place+1) (lY state) B σ'->ak (Fo S R W r) σ σ'->G):G:=by
 obtain⟨Z,b1,b2,b3,rfl⟩:=xz hB
 have c0:am (ae (k+8)) 328 [.ref r] σ=some (.int Z,σ):=Ow M.r M.l (show 3<=100 by decide)
 have c1:am (ae (k+8)) 3941 [.ref W,.int Z] σ=some (.none,σ):=uW M.w hd
 refine ae7 (k:=k+1) (place:=place) P E M.w M.fw J hn λav f1 f2 f3=>?_
 have O:=M.bW f3
 have t:=O.two f2 (place+1) (lY state) (lY state)
 refine K _ ?_ t.1 t.2.1 ((f3.wide λY q=>.inl q).trans t.2.2)
 have c3:am (ae (k+8)) 186 [.int state] av=some (.int (lY state),av):=ahg _
 have H:=M.w
 have U:=O.w
 have V:=(O.pV place (lY state)).w
 have hr:=M.r
 exists call Xw λt=>t (bM H rfl rfl) H (bM hr rfl rfl) c0 c1 (bM H rfl rfl) H H f1 U c3 U rfl V V rfl
end
inductive aK where
 |lit
 |ez (aA size:Int)
 |rep (spot size:Int)
 |dU
noncomputable def aK.v:aK->V
 |.lit=>.tup [.str 35]
 |.ez f s=>.tup [.str 36,.int f,.int s]
 |.rep i s=>.tup [.str 37,.int i,.int s]
 |.dU=>.tup [.str 38]
noncomputable def aK.size:aK->Int
 |.ez _ s=>s
 |.rep _ s=>s
 |_=>1
noncomputable def aK.aA(B:List Int):aK->Int
 |.ez f _=>f
 |.rep i _=>B.getD i.toNat 0
 |_=>B.getD 0 0
noncomputable def aK.state(s:Int):aK->Int
 |.lit=>kD s
 |.ez _ _=>lV s
 |.rep _ _=>lW s
 |.dU=>lY s
noncomputable def aK.back(B:List Int):aK->List Int
 |.ez f _=>f::B.take 3
 |.rep i _=>rC B i.toNat
 |_=>B
noncomputable def aK.ev(lc lp pb:Int)(b:Array UInt8)(place state:Int)(B:List Int)(at':Int):aK->List Ev
 |.lit=>litE lc lp pb state place (if place>0 then oct b (at'- 1) else 0) (oct b at') (if state<7 then 0 else oct b (at'- B.getD 0 0))
 |.ez f s=>kI pb state place f s
 |.rep i s=>kK pb state place i s
 |.dU=>pZ pb state place
structure VS(b:Array UInt8)(place state:Int)(B:List Int)(at':Int)(st:aK):Prop where
 pC:1<=at'/\at'+st.size<=b.size
 B4:B.length=4
 s:0<=state/\state<12
 B0:7<=state->1<=B.getD 0 0/\B.getD 0 0<=at'
 aA:st≠.lit->1<=st.aA B/\st.aA B<=128/\st.aA B<=place/\st.aA B<=at'/\∀i,0<=i->i<st.size->oct b (at'+i)=oct b (at'+i- st.aA B)
 size:st≠.lit->st≠.dU->2<=st.size/\st.size<=273
 spot:∀i s,st=.rep i s->0<=i/\i<=3
section
variable {S:fK}{R:MR}{z:S.Z}{n k T W r l:Nat}{σ σ':AH}{place state at':Int}{B:List Int}{b:Array UInt8}
theorem BV{st:aK}(h:st≠.lit->st≠.dU->2<=st.size/\st.size<=273):am (ae (k+3)) 3752 [st.v] σ=some (.int st.size,σ):=by
 cases st with
 |lit=>exists call Ar λt=>t rfl rfl (gy ∅) rfl rfl rfl rfl rfl (tn ∅)
 |dU=>exists call Ar λt=>t rfl rfl (gy ∅) rfl rfl rfl rfl rfl (tn ∅)
 |ez f s=>
  have H:=h nofun nofun
  have Z:am (ae (k+2)) 3738 [.int f,.str 48] σ=some (.none,σ):=yj _ _
  have J:am (ae (k+2)) 3745 [.int s,.int 2,.int 273,.str 48] σ=some (.none,σ):=tu _ H
  exists call Ar λt=>t rfl rfl rfl rfl rfl rfl rfl rfl rfl rfl Z rfl J rfl
 |rep f s=>
  have H:=h nofun nofun
  have Z:am (ae (k+2)) 3738 [.int f,.str 48] σ=some (.none,σ):=yj _ _
  have J:am (ae (k+2)) 3745 [.int s,.int 2,.int 273,.str 48] σ=some (.none,σ):=tu _ H
  exists call Ar λt=>t rfl rfl rfl rfl rfl rfl rfl rfl rfl rfl Z rfl J rfl
theorem La(M:Mk S R T W r l place state B σ)(H:B.length=4):am (ae (k+1)) 328 [.ref r] σ=some (.int (B.getD 0 0),σ):=by
 obtain⟨J,O,U,V,rfl⟩:=xz H
 exact Ow M.r M.l (show 3<=100 by decide)
theorem ab6(M:Mk S R T W r l place state B σ)(O:b.size<=1000)(U:B.length=4)(h:7<=state->1<=B.getD 0 0/\B.getD 0 0<=at')(V:at'<b.size):
  am (ae (k+2)) 3990 [.ref W,.bytes b,.int at'] σ=some (.int (if state<7 then 0 else oct b (at'- B.getD 0 0)),σ):=by
 have H:am (ae (k+1)) 193 [.int state] σ=some (.bool (decide (state<7)),σ):=Ph _
 have J:=M.w
 have Y:=M.r
 by_cases q:state<7
 ·rw [decide_eq_true q] at H
  rw [if_pos q]
  exists call Kn λt=>t J H
 ·rw [decide_eq_false q] at H
  rw [if_neg q]
  have h':=h (aa az 0x11007011070110016 q rfl)
  have Z:=La (k:=k) M U
  have c2:am (ae (k+1)) 3766 [.bytes b,.int at',.int (B.getD 0 0)] σ=some (.int (oct b (at'- B.getD 0 0)),σ):=NP O (aq iB 0x1011010120210005110005001070010010101107202001 V h' rfl)
  exists call Kn λt=>t J H J (bM Y rfl rfl) Z c2
theorem aiC(P:Sep S R)(E:Enc S R z n σ)(M:Mk S R T W r l place state B σ)(O:b.size<=1000)(V:VS b place state B at' .lit)(hn:n+9<=900){G:Prop}
  (K:∀σ' l',am (ae (k+11)) 4004 [.ref W,aK.v .lit,.bytes b,.int at'] σ=some (.int (at'+1),σ')->Enc S R (dN S (aK.ev R.lc R.lp R.pb b place state B at' .lit) z) (n+(aK.ev R.lc R.lp R.pb b place state B at' .lit).length) σ'->
   Mk S R T W r l' (place+1) (kD state) B σ'->ak (Fo S R W r) σ σ'->G):G:=by
 have J:1<=at'/\at'+1<=b.size:=V.pC
 have c0:am (ae (k+10)) 3752 [aK.lit.v] σ=some (.int 1,σ):=BV (k:=k+7) V.size
 have c1:am (ae (k+10)) 3990 [.ref W,.bytes b,.int at'] σ=some (.int (if state<7 then 0 else oct b (at'- B.getD 0 0)),σ):=ab6 M O V.B4 V.B0 (aa aX 0x1011020011021011004000101107 J rfl)
 have c2:am (ae (k+10)) 3766 [.bytes b,.int at',.int 1] σ=some (.int (oct b (at'- 1)),σ):=NP O (aa aX 0x101011102101100511011005001071021011004000101107 J rfl)
 have c3:cP (ae (k+10)) (.bytes b) (.int at') σ=some (.int (oct b at'),σ):=tQ O (aa aX 0x10101110200100001071021011004000101107 J rfl)
 have U:0<=(if place>0 then oct b (at'- 1) else 0)/\(if place>0 then oct b (at'- 1) else 0)<=255:=by
  split
  ·exact pP _ _
  ·decide
 have Y:0<=(if state<7 then 0 else oct b (at'- B.getD 0 0))/\(if state<7 then 0 else oct b (at'- B.getD 0 0))<=255:=by
  split
  ·decide
  ·exact pP _ _
 refine abK (k:=k) P E M V.s (pP b at') U Y hn λσ' Z f2 f3 f4=>K σ' l ?_ (by unfold aK.ev;rw [M7];exact f2) f3 f4
 have H:=M.w
 have h5:¬at'+1>b.size:=(aa aX 0x1011011004102161021011004000101107 J rfl)
 by_cases q:place>0
 ·rw [if_pos q] at Z
  exists call xo λt=>t c0 (sS O) (gU h5) rfl rfl H (nE q) c2 (bM H rfl rfl) c3 (bM H rfl rfl) c1 Z
 ·rw [if_neg q] at Z
  exists call xo λt=>t c0 (sS O) (gU h5) rfl rfl H (gU q) (bM H rfl rfl) c3 (bM H rfl rfl) c1 Z
theorem aiD(P:Sep S R)(E:Enc S R z n σ)(M:Mk S R T W r l place state B σ)(U:b.size<=1000)(V:VS b place state B at' (.ez f s))(Z:n+23<=900){G:Prop}
  (K:∀σ' l',am (ae (k+11)) 4004 [.ref W,aK.v (.ez f s),.bytes b,.int at'] σ=some (.int (at'+s),σ')->Enc S R (dN S (aK.ev R.lc R.lp R.pb b place state B at' (.ez f s)) z) (n+(aK.ev R.lc R.lp R.pb b place state B at' (.ez f s)).length) σ'->
   Mk S R T W r l' (place+s) (lV state) (f::B.take 3) σ'->ak (Fo S R W r) σ σ'->G):G:=by
 have J:1<=at'/\at'+s<=b.size:=V.pC
 have Y:2<=s/\s<=273:=V.size nofun nofun
 have H:1<=f/\f<=128/\f<=place/\f<=at'/\∀i,0<=i->i<s->oct b (at'+i)=oct b (at'+i- f):=V.aA nofun
 have c0:am (ae (k+10)) 3752 [aK.v (.ez f s)] σ=some (.int s,σ):=BV (k:=k+7) V.size
 have c2:am (ae (k+10)) 3941 [.ref W,.int f] σ=some (.none,σ):=uW M.w ⟨H.1,H.2.2.1⟩
 have c3:am (ae (k+10)) 3759 [.bytes b,.int at',.int f,.int s] σ=some (.bool true,σ):=FU U ⟨H.1,H.2.2.2.1⟩ (aq iB 0x100010001120210004010001071110311001020110720210004000101107 J Y rfl) H.2.2.2.2
 have O:=M.w
 have hr:=M.r
 have c1:am (ae (k+10)) 3997 [.ref W,aK.v (.ez f s)] σ=some (.int f,σ):=by
  exists call DP λt=>t rfl rfl rfl
 have h5:¬at'+s>b.size:=(aa iB 0x101100042021620210004000101107 J rfl)
 refine ab5 (k:=k+1) P E M V.B4 V.s ⟨H.1,H.2.1,H.2.2.1⟩ Y Z λσ' l' f1 f2 f3 f4=>K σ' l' ?_ f2 f3 f4
 exists call xo λt=>t c0 (sS U) (gU h5) rfl rfl (bM O rfl rfl) c1 (bM O rfl rfl) c2 c3 rfl rfl (bM O rfl rfl) f1
theorem aiE(P:Sep S R)(E:Enc S R z n σ)(M:Mk S R T W r l place state B σ)(Z:b.size<=1000)(V:VS b place state B at' (.rep f s))(hn:n+23<=900){G:Prop}
  (K:∀σ' l',am (ae (k+11)) 4004 [.ref W,aK.v (.rep f s),.bytes b,.int at'] σ=some (.int (at'+s),σ')->Enc S R (dN S (aK.ev R.lc R.lp R.pb b place state B at' (.rep f s)) z) (n+(aK.ev R.lc R.lp R.pb b place state B at' (.rep f s)).length) σ'->
   Mk S R T W r l' (place+s) (lW state) (rC B f.toNat) σ'->ak (Fo S R W r) σ σ'->G):G:=by
 have J:1<=at'/\at'+s<=b.size:=V.pC
 have hS:2<=s/\s<=273:=V.size nofun nofun
 have H:1<=B.getD f.toNat 0/\B.getD f.toNat 0<=128/\B.getD f.toNat 0<=place/\B.getD f.toNat 0<=at'/\∀i,0<=i->i<s->oct b (at'+i)=oct b (at'+i- B.getD f.toNat 0):=V.aA nofun
 have c0:am (ae (k+10)) 3752 [aK.v (.rep f s)] σ=some (.int s,σ):=BV (k:=k+7) V.size
 have c2:am (ae (k+10)) 3941 [.ref W,.int (B.getD f.toNat 0)] σ=some (.none,σ):=uW M.w ⟨H.1,H.2.2.1⟩
 have c3:am (ae (k+10)) 3759 [.bytes b,.int at',.int (B.getD f.toNat 0),.int s] σ=some (.bool true,σ):=FU Z ⟨H.1,H.2.2.2.1⟩ (aq iB 0x100010001120210004010001071110311001020110720210004000101107 J hS rfl) H.2.2.2.2
 have U:=M.w
 have hr:=M.r
 have O:=V.spot f s rfl
 have Y:=V.B4
 have s2:cP (ae (k+9)) (.ref l) (.int f) σ=some (.int (B.getD f.toNat 0),σ):=kN M.l (by rw [bf];exact(aa au 0x113e80310034011005 Y rfl)) (by rw [bf];exact(aq aX 0x10101010011020010000107401110530110000000107 O Y rfl)) (by
  rw [eT,jI,iy (by exact(bB cQ 0x101001110204002022401110530110000000107 O Y (be (aa az 0x1100001030110000000107 O rfl)) rfl))];rfl)
 have c4:am (ae (k+9)) 3745 [.int f,.int 0,.int 3,.str 47] σ=some (.none,σ):=tu _ O
 have c1:am (ae (k+10)) 3997 [.ref W,aK.v (.rep f s)] σ=some (.int (B.getD f.toNat 0),σ):=by
  exists call DP λt=>t rfl rfl rfl rfl rfl c4 U hr rfl s2
 have h5:¬at'+s>b.size:=(aa iB 0x101100042021620210004000101107 J rfl)
 refine afm (k:=k+1) P E M V.B4 V.s O ⟨H.1,H.2.2.1⟩ hS (aa au 0x11384031f0110043384031170210043 hn rfl) λσ' l' f1 f2 f3 f4=>K σ' l' ?_ f2 f3 f4
 exists call xo λt=>t c0 (sS Z) (gU h5) rfl rfl (bM U rfl rfl) c1 (bM U rfl rfl) c2 c3 rfl rfl rfl rfl (bM U rfl rfl) rfl f1
theorem aiF(P:Sep S R)(E:Enc S R z n σ)(M:Mk S R T W r l place state B σ)(U:b.size<=1000)(V:VS b place state B at' .dU)(Y:n+23<=900){G:Prop}
  (K:∀σ' l',am (ae (k+11)) 4004 [.ref W,aK.v .dU,.bytes b,.int at'] σ=some (.int (at'+1),σ')->Enc S R (dN S (aK.ev R.lc R.lp R.pb b place state B at' .dU) z) (n+(aK.ev R.lc R.lp R.pb b place state B at' .dU).length) σ'->
   Mk S R T W r l' (place+1) (lY state) B σ'->ak (Fo S R W r) σ σ'->G):G:=by
 have J:1<=at'/\at'+1<=b.size:=V.pC
 have H:1<=B.getD 0 0/\B.getD 0 0<=128/\B.getD 0 0<=place/\B.getD 0 0<=at'/\∀i,0<=i->i<1->oct b (at'+i)=oct b (at'+i- B.getD 0 0):=V.aA nofun
 have Z:am (ae (k+10)) 3752 [aK.v .dU] σ=some (.int 1,σ):=BV (k:=k+7) V.size
 have c2:am (ae (k+10)) 3941 [.ref W,.int (B.getD 0 0)] σ=some (.none,σ):=uW M.w ⟨H.1,H.2.2.1⟩
 have c3:am (ae (k+10)) 3759 [.bytes b,.int at',.int (B.getD 0 0),.int 1] σ=some (.bool true,σ):=FU U ⟨H.1,H.2.2.2.1⟩ (aa aX 0x101001102101100401011001071021011004000101107 J rfl) H.2.2.2.2
 have O:=M.w
 have hr:=M.r
 have c4:=La (k:=k+8) M V.B4
 have c1:am (ae (k+10)) 3997 [.ref W,aK.v .dU] σ=some (.int (B.getD 0 0),σ):=by
  exists call DP λt=>t rfl rfl rfl rfl O (bM hr rfl rfl) c4
 have h5:¬at'+1>b.size:=(aa aX 0x1011011004102161021011004000101107 J rfl)
 refine af8 (k:=k+1) P E M V.B4 V.s ⟨H.1,H.2.2.1⟩ (aa au 0x1138403140110043384031170210043 Y rfl) λσ' f1 f2 f3 f4=>K σ' l ?_ f2 f3 f4
 exists call xo λt=>t Z (sS U) (gU h5) rfl rfl (bM O rfl rfl) c1 (bM O rfl rfl) c2 c3 rfl rfl rfl rfl (bM O rfl rfl) f1
end
structure Pt where
 place:Int
 state:Int
 at':Int
 B:List Int
noncomputable def Pt.next(p:Pt)(st:aK):Pt:=⟨p.place+st.size,st.state p.state,p.at'+st.size,st.back p.B⟩
noncomputable def Pt.fin(p:Pt)(l:List aK):Pt:=l.foldl Pt.next p
noncomputable def fZ(lc lp pb:Int)(b:Array UInt8):Pt->List aK->List Ev
 |_,[]=>[]
 |p,st::r=>st.ev lc lp pb b p.place p.state p.B p.at'++fZ lc lp pb b (p.next st) r
def Vs(b:Array UInt8):Pt->List aK->Prop
 |_,[]=>True
 |p,st::r=>VS b p.place p.state p.B p.at' st/\Vs b (p.next st) r
theorem DZ(lc lp pb:Int)(b:Array UInt8)(st:aK):∀(l:List aK) (p:Pt),fZ lc lp pb b p (l++[st])=fZ lc lp pb b p l++st.ev lc lp pb b (p.fin l).place (p.fin l).state (p.fin l).B (p.fin l).at'
 |[],p=>by simp [fZ,Pt.fin]
 |s::l,p=>by
  show _++fZ lc lp pb b (p.next s) (l++[st])=_
  rw [DZ lc lp pb b st l (p.next s),←iX];rfl
theorem Ax(p:Pt)(l:List aK)(st:aK):p.fin (l++[st])=(p.fin l).next st:=by unfold Pt.fin;rw [Cv];rfl
theorem Vs.at:∀{l:List aK} {p:Pt} {i:Nat} {st:aK},Vs b p l->l[i]?=some st->VS b (p.fin (l.take i)).place (p.fin (l.take i)).state (p.fin (l.take i)).B (p.fin (l.take i)).at' st
 |[],_,_,_,_,e=>by simp at e
 |s::l,p,0,st,h,e=>by simp at e;subst e;exact h.1
 |s::l,p,i+1,st,h,e=>by
  rw [Cf] at e
  exact Vs.at (p:=p.next s) h.2 e
theorem YQ{lc:Int}{st:aK}(V:VS b place state B at' st):(st.ev lc lp pb b place state B at').length<=23:=by
 cases st with
 |lit=>show(litE ..).length<=23;rw [M7];decide
 |dU=>show(pZ ..).length<=23;simp [pZ]
 |ez f s=>
  show(kI ..).length<=23
  have h:=V.aA (by simp)
  have H:=K3 s (d:=f) ⟨h.1,h.2.1⟩
  have J:=yd 10 (bO pb place) s
  simp only [kI,fJ,bZ];exact(aq aJ 0x111170211011101100104443a011103b011003 H J rfl)
 |rep f s=>
  show(kK ..).length<=23
  have H:=EN pb state place f
  have J:=yd 14 (bO pb place) s
  simp only [kK,fJ,bZ];exact(aq aJ 0x111170211011101110004443a0111033011003 H J rfl)
theorem xx{lc:Int}:∀{l:List aK} {p:Pt},Vs b p l->(fZ lc lp pb b p l).length<=23*l.length
 |[],_,_=>uy _
 |st::l,p,h=>by
  have H:=YQ (lc:=lc) (lp:=lp) (pb:=pb) h.1
  have J:=xx (lc:=lc) (lp:=lp) (pb:=pb) h.2
  simp only [fZ,bZ,fJ];exact(aq bL 0x111101120417026100043201702610317021003 H J rfl)
theorem Vs.take:∀{l:List aK} {p:Pt} (i:Nat),Vs b p l->Vs b p (l.take i)
 |[],_,_,_=>by simp [Vs]
 |s::l,p,0,_=>trivial
 |s::l,p,i+1,h=>⟨h.1,Vs.take i h.2⟩
section
variable {φ:bK}{σ:AH}{ρ:bc}
theorem yT(hs:s=.loop t it b)(hx:xi φ ρ it σ=some (.live ls,cZ))(I:Nat->bc->AH->Prop)(J:I 0 ρ cZ)(U:∀i ρ σ,I i ρ σ->nI σ ls=some l)
  (H:∀i v ρ σ,l[i]?=some v->I i ρ σ->∀G:Prop,(∀O Z aV σ',xt φ t v ρ σ=some (O,σ)->xb φ b O σ=some ((Z,aV),σ')->vh Z (I (i+1) aV σ') (λY=>False)->G)->G)
  {G:Prop} (K:∀aV σ',xs φ s ρ σ=some ((.next,aV),σ')->I l.length aV σ'->G):G:=
 Cb (src:=.live ls) (Q:=λY Y=>False) hs hx (congrArg (λo:Option (List V)=>(o.map λl:List V=>l.length+1).getD 0) (U _ _ _ J)) J
  (λi ρ σ h=>congrArg (fu λl=>l[i]?) (U _ _ _ h)) H K λY Y Y Y h=>h.elim
end
section
variable {S:fK}{R:MR}{z:S.Z}{n k T W r l:Nat}{σ σ':AH}{b:Array UInt8}
theorem aiG(P:Sep S R){p:Pt}(E:Enc S R z n σ)(M:Mk S R T W r l p.place p.state p.B σ)(O:b.size<=1000){st:aK}(V:VS b p.place p.state p.B p.at' st)(H:n+23<=900){G:Prop}
  (K:∀σ' l',am (ae (k+11)) 4004 [.ref W,st.v,.bytes b,.int p.at'] σ=some (.int (p.next st).at',σ')->Enc S R (dN S (st.ev R.lc R.lp R.pb b p.place p.state p.B p.at') z) (n+(st.ev R.lc R.lp R.pb b p.place p.state p.B p.at').length) σ'->
   Mk S R T W r l' (p.next st).place (p.next st).state (p.next st).B σ'->ak (Fo S R W r) σ σ'->G):G:=by
 cases st with
 |lit=>exact aiC P E M O V (aa au 0x1138403190110043384031170210043 H rfl) K
 |ez f s=>exact aiD P E M O V H K
 |rep f s=>exact aiE P E M O V H K
 |dU=>exact aiF P E M O V H K
theorem sY{α β:Type}{f:α->β}{L:List α}{i:Nat}{v:β}(h:(L.map f)[i]?=some v){G:Prop}(K:∀a,L[i]?=some a->v=f a->G):G:=by
 replace h:=(eT)▸h
 cases e:L[i]? with
 |none=>replace h:=e▸h;cases h
 |some a=>rw [e] at h;exact K a e (bT h).symm
theorem Gz{α:Type}{L:List α}{i:Nat}{a:α}(h:L[i]?=some a):L.take (i+1)=L.take i++[a]:=by rw [HK,h];rfl
theorem Qo(P:Sep S R){p:Pt}{ls:Nat}{L:List aK}(E:Enc S R z n σ)(M:Mk S R T W r l p.place p.state p.B σ)(hb:b.size<=1000)(V:Vs b p L)(U:σ[ls]?=some (.list (L.map aK.v)))(Eu:¬Fo S R W r ls)(hn:n+23*L.length<=900){G:Prop}
  (K:∀σ' l',am (ae (k+12)) 4011 [.ref W,.ref ls,.bytes b,.int p.at'] σ=some (.int (p.fin L).at',σ')->Enc S R (dN S (fZ R.lc R.lp R.pb b p L) z) (n+(fZ R.lc R.lp R.pb b p L).length) σ'->
   Mk S R T W r l' (p.fin L).place (p.fin L).state (p.fin L).B σ'->ak (Fo S R W r) σ σ'->G):G:=by
 refine yT (φ:=ae (k+11)) (σ:=σ) (cZ:=σ) (ρ:=[some (.ref W),some (.ref ls),some (.bytes b),some (.int p.at'),some (.int p.at'),none]) (s:=GQ.stmt 1) (l:=L.map aK.v) (ls:=ls) rfl (by
   exists iter λt=>t U
   )
  (λi ρ σ'=>∀G:Prop,(∀l' a,ρ=[some (.ref W),some (.ref ls),some (.bytes b),some (.int p.at'),some (.int (p.fin (L.take i)).at'),a]->Enc S R (dN S (fZ R.lc R.lp R.pb b p (L.take i)) z) (n+(fZ R.lc R.lp R.pb b p (L.take i)).length) σ'->
   Mk S R T W r l' (p.fin (L.take i)).place (p.fin (L.take i)).state (p.fin (L.take i)).B σ'->ak (Fo S R W r) σ σ'->G)->G)
  (λY K=>K l none rfl E M (ak.refl _ _))
  (λi ρ av hI=>hI _ λl' a e Z O g3=>bI (g3.get U Eu) rfl)
  (λi v ρ av gc hI G K=>hI G λl' a e Z O g3=>sY gc λst J hv=>?_) λaV σ' h1 h2=>h2 _ λl' a e Z O g3=>?_
 ·subst e hv
  have hi:i<L.length:=(gC.mp J).1
  have H:=xx (lc:=R.lc) (lp:=R.lp) (pb:=R.pb) (V.take i)
  rw [Sx (iI hi)] at H
  refine aiG (k:=k) P Z O hb (V.at J) (bB dR 0x11702f1138403117021300044320170263031020438403110170260043 hn hi H rfl) λaC l2 f1 f2 f3 f4=>?_
  rw [Gz J,DZ,Ax,tN,bZ,←CP] at K
  refine K _ .next _ aC rfl ?_ λG K=>K l2 (some st.v) rfl f2 f3 (g3.trans f4)
  have hW:=O.w
  exists body λt=>t (bM hW rfl rfl) f1
 ·subst e
  rw [bf,Cz] at Z O h1
  refine K σ' l' ?_ Z O g3
  exists call Xx λt=>t h1
end
noncomputable abbrev uG:=Nat×Nat×Int
inductive RowC(σ:AH)(lo r d:Nat)(c:Int)(P:Nat->Prop):Prop
 |mk (mid:Nat) (a:lo<=r) (b:r<mid) (e:lo<=d) (f:d<mid) (g:cD σ r d c []) (h:P mid)
def Rows(σ:AH):Nat->List uG->Nat->Prop
 |lo,[],O=>lo<=O
 |lo,x::L,O=>RowC σ lo x.1 x.2.1 x.2.2 λmid=>Rows σ mid L O
section
variable {σ:AH}{L:List uG}
theorem Rows.le:∀{lo O:Nat},Rows σ lo L O->lo<=O:=by
 induction L with
 |nil=>exact id
 |cons x L H=>
  rintro lo O ⟨mid,a,b,_,_,_,h⟩
  exact bo a (bo (iI b) (H h))
theorem Rows.lower{lo:Nat}(h:Rows σ lo L O)(q:J<=lo):Rows σ J L O:=by
 cases L with
 |nil=>exact bo q h
 |cons x L=>
  obtain⟨mid,a,b,e,f,g,h⟩:=h
  exact⟨mid,bo q a,b,bo q e,f,g,h⟩
theorem Rows.snoc{mid:Nat}(H:mid<=r/\r<hi)(J:mid<=d/\d<hi)(O:cD σ r d c []):∀{lo:Nat},Rows σ lo L mid->Rows σ lo (L++[(r,d,c)]) hi:=by
 induction L with
 |nil=>exactλh=>⟨hi,bo h H.1,H.2,bo h J.1,J.2,O,cY hi⟩
 |cons x L U=>
  rintro lo ⟨m,a,b,e,f,g,h⟩
  exact⟨m,a,b,e,f,g,U h⟩
theorem Rows.bW{F:Nat->Prop}(x:ak F σ σ'):∀{lo:Nat},Rows σ lo L O->(∀m,F m->m<lo\/O<=m)->Rows σ' lo L O:=by
 induction L with
 |nil=>exactλh Y=>h
 |cons y L U=>
  rintro lo ⟨mid,a,b,e,f,g,h⟩ J
  have H:=h.le
  exact⟨mid,a,b,e,f,x.row g (λq=>(J _ q).elim (gQ.mpr a) λz=>gQ.mpr z (bN b H)) (λq=>(J _ q).elim (gQ.mpr e) λz=>gQ.mpr z (bN f H)),U h λm q=>(J m q).imp (λz=>bN z (bo a (iI b))) id⟩
theorem Rows.get:∀{lo i:Nat},Rows σ lo L O->L[i]?=some y->cD σ y.1 y.2.1 y.2.2 []/\lo<=y.1/\y.1<O/\lo<=y.2.1/\y.2.1<O:=by
 induction L with
 |nil=>exactλY e=>nomatch e
 |cons x L J=>
  rintro lo i ⟨mid,a,b,U,f,g,h⟩ e
  have H:=h.le
  cases i with
  |zero=>
   cases e
   exact⟨g,a,bN b H,U,bN f H⟩
  |succ i=>
   obtain⟨V,Z,h3,h4,h5⟩:=J h e
   have q:=bo a (iI b)
   exact⟨V,bo q Z,h3,bo q h4,h5⟩
theorem Rows.sep:∀{lo i j:Nat},Rows σ lo L hi->i<j->L[i]?=some y->L[j]?=some z->y.1<z.1/\y.1<z.2.1/\y.2.1<z.1/\y.2.1<z.2.1:=by
 induction L with
 |nil=>exactλY Y e=>nomatch e
 |cons x L V=>
  rintro lo i j ⟨mid,a,b,Z,f,g,h⟩ H e J
  cases j with
  |zero=>exact absurd H (TR _)
  |succ j=>
   cases i with
   |zero=>
    cases e
    obtain⟨h1,O,h3,U,h5⟩:=h.get (y:=z) J
    exact⟨bN b O,bN b U,bN f O,bN f U⟩
   |succ i=>exact V h (Ho H) e J
theorem Rows.append{mid:Nat}(y:Rows σ mid L' hi):∀{lo:Nat},Rows σ lo L mid->Rows σ lo (L++L') hi:=by
 induction L with
 |nil=>exactλh=>y.lower h
 |cons x L H=>
  rintro lo ⟨m,a,b,e,f,g,h⟩
  exact⟨m,a,b,e,f,g,H h⟩
end
theorem afy(c:Int):jh c []=dO c.toNat (.int 1024):=by
 apply Tu
 intro j
 unfold jh
 rw [eT,Hj]
 rcases ux j c.toNat with q|q
 ·rw [mS q,if_pos q];rfl
 ·rw [qv (by simpa using q),if_neg (by exact(aa aJ 0x1100104610003 q rfl))];rfl
abbrev F0:Nat->Prop:=λY=>False
section
variable {k:Nat}{σ:AH}
theorem tw(h:n=σ.length):(σ++[c])[n]?=some c:=h▸new
theorem nM:(σ++[c]).set σ.length d=σ++[d]:=by simp [CH]
theorem pW:(σ++[c]++l).set σ.length d=σ++[d]++l:=by simp [CH]
theorem Bp{L:List V}(h:σ[m]?=some (.list L))(J:L.length*c.toNat<=most/\ -1000<=c/\c<=1000):kZ .Mult (.ref m) (.int c) σ=some (.ref σ.length,σ++[.list (dO c.toNat L).flatten]):=
 gV rfl (fQ (bI h (gV rfl (if_pos ⟨rfl,J⟩))))
theorem Ze(O:0<=c/\c<=100000000){G:Prop}(K:∀σ' r d,am (ae (k+2)) 115 [.int c] σ=some (.ref r,σ')->cD σ' r d c []->(σ.length<=r/\r<σ'.length)->(σ.length<=d/\d<σ'.length)->ak F0 σ σ'->G):G:=by
 by_cases q:c<=64
 ·have H:(σ++[AC.list [.int 1024]]++[AC.list (dO c.toNat [V.int 1024]).flatten])[(σ++[AC.list [.int 1024]]).length]?=some (AC.list (dO c.toNat [V.int 1024]).flatten):=new
  have J:=Bp (c:=c) (new (σ:=σ) (c:=AC.list [.int 1024])) ⟨by rw [fW];show _<=1000;exact(aq aX 0x10113e8031101016300102240021000 q (be (aa az 0x110000105f5e1000710000000107 O rfl)) rfl),(aa az 0x11003e8031305f5e1000710000000107 O rfl),(aa az 0x113e803100040021000 q rfl)⟩
  have U:σ.length<=(σ++[AC.list [.int 1024]]).length/\(σ++[AC.list [.int 1024]]).length<(σ++[AC.list [.int 1024]]++[AC.list (dO c.toNat [V.int 1024]).flatten]).length:=⟨fP,cK H⟩
  refine K _ _ _ ?_ ?_ U U (ak.trans (ak.cU _ _) (ak.cU _ _))
  ·exists call Ky λt=>t (oN q) rfl J
  ·unfold cD
   rw [if_pos q,afy,H]
   simp
 ·have J:am (ae (k+1)) 80 [.ref σ.length,.int c] (σ++[.obj 104 []])=some (.none,σ++[.obj 104 [(0,.int c),(1,.ref (σ++[AC.obj 104 [(0,.int c)]]).length)]]++[.bQ []]):=by
   have a0:(σ++[AC.obj 104 []])[σ.length]?=some (.obj 104 []):=new
   have a1:(σ++[AC.obj 104 [(0,.int c)]]++[AC.bQ []])[σ.length]?=some (.obj 104 [(0,.int c)]):=aN new
   exists call Xk λt=>t a0 nM rfl a1 pW
  have Z:=pN (φ:=ae (k+1)) (C:=104) (l:=[.int c]) (a:=80) rfl J
  have Y:(σ++[.obj 104 [(0,.int c),(1,.ref (σ++[AC.obj 104 [(0,.int c)]]).length)]]++[.bQ []])[σ.length]?=some (.obj 104 [(0,.int c),(1,.ref (σ++[AC.obj 104 [(0,.int c)]]).length)]):=aN new
  have H:(σ++[.obj 104 [(0,.int c),(1,.ref (σ++[AC.obj 104 [(0,.int c)]]).length)]]++[.bQ []])[(σ++[AC.obj 104 [(0,.int c)]]).length]?=some (.bQ []):=by
   exact tw (by rw [bZ,bZ];rfl)
  refine K _ σ.length _ ?_ ?_ ⟨cY _,cK Y⟩ ⟨fP,cK H⟩ (ak.trans (ak.cU _ _) (ak.cU _ _))
  ·exists call Ky λt=>t (leF q) Z
  ·unfold cD
   rw [if_neg q]
   exact⟨Y,H,by simp⟩
theorem af6{L:List (bu×V)}(x:bu)(U:σ[m]?=some (.obj C L))(hc:0<=c/\c<=100000000){G:Prop}
  (K:∀H σ' r d,am (ae (k+2)) 115 [.int c] σ=some (.ref r,H)->H[m]?=some (.obj C L)->H.set m (.obj C (jZ L x (.ref r)))=σ'->σ'[m]?=some (.obj C (jZ L x (.ref r)))->cD σ' r d c []->(σ.length<=r/\r<σ'.length)->(σ.length<=d/\d<σ'.length)->ak (λj=>j=m) σ σ'->G):G:=by
 refine Ze (k:=k) (σ:=σ) hc λH r d h1 h2 Z h4 h5=>?_
 have J:H[m]?=some (.obj C L):=h5.get U (λq=>q)
 have O:=cK U
 have F2:ak (λj=>j=m) H (H.set m (.obj C (jZ L x (.ref r)))):=ak.set _ _ _ rfl
 exact K H _ r d h1 J rfl (gH J) (F2.row h2 (aq dR 0x11013010560030420104100037 Z O rfl) (aq dR 0x11013010560030420104100037 h4 O rfl)) (by rw [lN];exact Z) (by rw [lN];exact h4) ((h5.wide λY q=>q.elim).trans F2)
end
section
variable {k:Nat}{σ:AH}
theorem kM{lo:Nat}{L:List (bu×V)}(x:bu){RL:List uG}(O:σ[m]?=some (.obj C L))(U:0<=c/\c<=100000000)(Z:Rows σ lo RL σ.length)(hl:m<lo){G:Prop}
  (K:∀H σ' r d,am (ae (k+2)) 115 [.int c] σ=some (.ref r,H)->H[m]?=some (.obj C L)->H.set m (.obj C (jZ L x (.ref r)))=σ'->σ'[m]?=some (.obj C (jZ L x (.ref r)))->Rows σ' lo (RL++[(r,d,c)]) σ'.length->ak (λj=>j=m) σ σ'->G):G:=
 af6 (k:=k) x O U λH σ' r d h1 h2 h3 h4 h5 h6 h7 J=>K H σ' r d h1 h2 h3 h4 ((Z.bW J λY q=>.inl (q.symm▸hl)).snoc h6 h7 h5) J
theorem kL{L:List (bu×V)}(x:bu)(J:σ[m]?=some (.obj C L)){G:Prop}
  (K:∀H σ',σ++[AC.list []]=H->H[m]?=some (.obj C L)->H.set m (.obj C (jZ L x (.ref σ.length)))=σ'->σ'[m]?=some (.obj C (jZ L x (.ref σ.length)))->ak (λj=>j=m) σ σ'->G):G:=
 K _ _ rfl (aN J) rfl (gH (aN J)) (pD rfl (bE (ak.refl _ _)))
noncomputable def sV(P:Int)(U H J O:V):AC:=.obj 238 [(5,.int P),(6,U),(7,H),(8,J),(9,O)]
theorem E5{P:Int}(hm:σ[m]?=some (sV P u0 u1 u2 u3))(hP:0<=P/\P<=16){G:Prop}
  (K:∀σ' H Y J Z U d2 V d3,am (ae (k+3)) 235 [.ref m] σ=some (.none,σ')->σ'[m]?=some (sV P (.ref H) (.ref J) (.ref U) (.ref V))->
   Rows σ' σ.length [(H,Y,2),(J,Z,8*P),(U,d2,8*P),(V,d3,256)] σ'.length->ak (λj=>j=m) σ σ'->G):G:=by
 have h8:0<=8*P/\8*P<=100000000:=(aa az 0x8010815f5e100071008016000801600107100210000000107 hP rfl)
 have O:=cK hm
 refine kM (k:=k) 6 (c:=2) (RL:=[]) hm ∅ (cY _) O λIG av H Y a1 a2 a3 a4 a5 a6=>?_
 refine kM (k:=k) 7 a4 h8 a5 O λwH aC J Z b1 b2 b3 b4 b5 b6=>?_
 refine kM (k:=k) 8 b4 h8 b5 O λzB dH U d2 c1 c2 c3 c4 c5 c6=>?_
 refine kM (k:=k) 9 (c:=256) c4 ∅ c5 O λII jn V d3 e1 e2 e3 e4 e5 e6=>?_
 refine K jn H Y J Z U d2 V d3 ?_ e4 e5 (((a6.trans b6).trans c6).trans e6)
 exists call Xn λt=>t a1 a2 a3 a4 (fi rfl) b1 b2 b3 b4 (fi rfl) c1 c2 c3 e1 e2 e3
theorem ak.new(h:j=σ.length)(F:ak (λm=>m=j) (σ++[c]) σ'):ak F0 σ σ':=
 ⟨bo fP F.1,λm H Y=>(F.2 m (bN H fP) (h▸dW H)).trans (lJ H)⟩
theorem MW{P:Int}(U:0<=P/\P<=16){G:Prop}(K:∀σ' O V Z u3,mu (ae (k+4)) 238 [.int P] σ=some (.ref σ.length,σ')->σ'[σ.length]?=some (sV P O V Z u3)->σ.length<σ'.length->ak F0 σ σ'->G):G:=by
 have a0:(σ++[AC.obj 238 []])[σ.length]?=some (.obj 238 []):=new
 have a1:(σ++[AC.obj 238 [(5,.int P)]])[σ.length]?=some (.obj 238 [(5,.int P)]):=new
 refine kL 6 a1 λIG av b1 b3 b4 b5 b6=>?_
 refine kL 7 b5 λwH aC c1 c3 c4 c5 c6=>?_
 refine kL 8 c5 λzB dH d1 d3 d4 d5 d6=>?_
 refine kL 9 d5 λII jn e1 e3 e4 J e6=>?_
 refine E5 (k:=k) J U λH r0 x0 r1 x1 r2 x2 r3 x3 f1 Y f3 f4=>?_
 refine K H _ _ _ _ (pN (a:=228) rfl ?_) Y (cK Y) (ak.new rfl ((((b6.trans c6).trans d6).trans e6).trans f4))
 exists call Xm λt=>t a0 nM b1 b3 b4 c1 c3 c4 d1 d3 d4 e1 e3 e4 (bM J rfl rfl) f1
theorem abM{lc:Int}(hp:σ[p]?=some (.obj 154 [(2,.int lc),(3,.int lp),(4,.int pb)]))(h:0<=lc/\lc<=8/\0<=lp/\lp<=4):am (ae (k+1)) 144 [.ref p] σ=some (.int (768*2^(lc+lp).toNat),σ):=by
 have H:intOp .LShift 768 (lc+lp)=some (768*2^(lc+lp).toNat):=lw ⟨(aa dB 0x101110004001040111001000107801100070000107 h rfl),(aa dB 0x101013e803110004040111001000107801100070000107 h rfl),by decide⟩
 exists call XJ λt=>t hp hp H
theorem aeY{lc:Int}(h:0<=lc/\lc<=8/\0<=lp/\lp<=4/\0<=pb/\pb<=4):mu (ae (k+1)) 154 [.int lc,.int lp,.int pb] σ=some (.ref σ.length,σ++[AC.obj 154 [(2,.int lc),(3,.int lp),(4,.int pb)]]):=by
 refine pN (a:=130) rfl ?_
 refine mF (φ:=ae k) (σ:=σ++[AC.obj 154 []]) (cZ:=σ++[AC.obj 154 []]) (ρ:=[some (.ref σ.length),some (.int lc),some (.int lp),some (.int pb),none,none]) (s:=GR.stmt 0)
  (l:=[.tup [.int lc,.int 8],.tup [.int lp,.int 4],.tup [.int pb,.int 4]]) rfl (by
   exists iter λt=>t
   )
  (λi ρ σ'=>∀G:Prop,(∀a J,σ'=σ++[AC.obj 154 []]->ρ=[some (.ref σ.length),some (.int lc),some (.int lp),some (.int pb),a,J]->G)->G)
  (λY K=>K none none rfl rfl) (λi v ρ av H V G K=>V G λa J O e=>?_) λaV cZ Z h2=>h2 _ λa J O e=>?_
 ·subst O e
  have hv:∃x y,v=.tup [.int x,.int y]/\0<=x/\x<=y:=by
   match i,H with
   |0,q=>exact⟨_,_,(bT q).symm,h.1,h.2.1⟩
   |1,q=>exact⟨_,_,(bT q).symm,h.2.2.1,h.2.2.2.1⟩
   |2,q=>exact⟨_,_,(bT q).symm,h.2.2.2.2.1,h.2.2.2.2.2⟩
  obtain⟨x,y,rfl,U⟩:=hv
  refine K [some (.ref σ.length),some (.int lc),some (.int lp),some (.int pb),some (.int x),some (.int y)] .next _ _ rfl ?_ λG K=>K (some (.int x)) (some (.int y)) rfl rfl
  exists body λt=>t rfl (oN U.1) (oN U.2)
 ·subst O e
  have a0:(σ++[AC.obj 154 []])[σ.length]?=some (.obj 154 []):=new
  have a1:(σ++[AC.obj 154 [(2,.int lc)]])[σ.length]?=some (.obj 154 [(2,.int lc)]):=new
  have a2:(σ++[AC.obj 154 [(2,.int lc),(3,.int lp)]])[σ.length]?=some (.obj 154 [(2,.int lc),(3,.int lp)]):=new
  exists call XH λt=>t Z a0 nM a1 nM a2 nM
noncomputable def mO(p:Nat)(U H J O Y Z u6 u7 u8 u9:V)(l1 l2:Nat):AC:=.obj 294 [(10,.ref p),(11,U),(12,H),(13,J),(14,O),(15,Y),(16,Z),(17,u6),(18,u7),(19,u8),(20,u9),(21,.ref l1),(22,.ref l2)]
theorem acl{l1 l2:Nat}{lc P:Int}{u8 w1 w2 w3:V}(H:σ[m]?=some (mO p u0 u1 u2 u3 u4 u5 u6 u7 u8 u9 l1 l2))(hp:σ[p]?=some (.obj 154 [(2,.int lc),(3,.int lp),(4,.int pb)]))(h:0<=lc/\lc<=8/\0<=lp/\lp<=4)
  (h1:σ[l1]?=some (sV P v0 v1 v2 v3)) (h2:σ[l2]?=some (sV P w0 w1 w2 w3)) (hP:0<=P/\P<=16) (hl:l1≠l2) {G:Prop}
  (K:∀σ' r0 d0 r1 d1 r2 d2 r3 d3 r4 d4 r5 d5 r6 d6 r7 d7 r8 d8 r9 d9 J Ad U Ae Z Af yu Ag yv Ah yw Ai yx Aj yy Ak,am (ae (k+4)) 263 [.ref m] σ=some (.none,σ')->σ'[m]?=some (mO p (.ref r0) (.ref r1) (.ref r2) (.ref r3) (.ref r4) (.ref r5) (.ref r6) (.ref r7) (.ref r8) (.ref r9) l1 l2)->
   σ'[l1]?=some (sV P (.ref J) (.ref U) (.ref Z) (.ref yu))->σ'[l2]?=some (sV P (.ref yv) (.ref yw) (.ref yx) (.ref yy))->
   Rows σ' σ.length [(r0,d0,192),(r1,d1,12),(r2,d2,12),(r3,d3,12),(r4,d4,12),(r5,d5,192),(r6,d6,256),(r7,d7,115),(r8,d8,16),(r9,d9,768*2^(lc+lp).toNat),(J,Ad,2),(U,Ae,8*P),(Z,Af,8*P),(yu,Ag,256),(yv,Ah,2),(yw,Ai,8*P),(yx,Aj,8*P),(yy,Ak,256)] σ'.length->
   ak (λj=>j=m\/j=l1\/j=l2) σ σ'->G):G:=by
 have O:=cK H
 have xG:=cK h1
 have mq:=cK h2
 have NC:l1≠m:=by intro q;subst q;replace H:=h1▸H;cases H
 have ND:l2≠m:=by intro q;subst q;replace H:=h2▸H;cases H
 have nmp:p≠m:=by intro q;subst q;replace H:=hp▸H;cases H
 have aaf:(0:Int)<=768*2^(lc+lp).toNat/\(768:Int)*2^(lc+lp).toNat<=100000000:=by
  have a1:(2:Int)^(lc+lp).toNat<=2^12:=iw (aq iB 0x1010011c01120310004202240111001000107801100070000107 h (be (aa dB 0x101110004001040111001000107801100070000107 h rfl)) rfl)
  have a2:(0:Int)<2^(lc+lp).toNat:=g7 ∅
  exact(aq az 0x30003f01030003f15f5e10007100300036000300036001070000111000041000 a1 a2 rfl)
 refine kM (k:=k+1) 11 (c:=192) (RL:=[]) H ∅ (cY _) O λIG cZ r0 d0 x0 t0 e0 m0 R1 f0=>?_
 refine kM (k:=k+1) 12 (c:=12) m0 ∅ R1 O λwH av r1 d1 x1 t1 e1 m1 R2 f1=>?_
 refine kM (k:=k+1) 13 (c:=12) m1 ∅ R2 O λzB aC r2 d2 x2 t2 e2 m2 R3 f2=>?_
 refine kM (k:=k+1) 14 (c:=12) m2 ∅ R3 O λII dH r3 d3 x3 t3 e3 m3 R4 f3=>?_
 refine kM (k:=k+1) 15 (c:=12) m3 ∅ R4 O λτ4 jn r4 d4 x4 t4 e4 m4 R5 f4=>?_
 refine kM (k:=k+1) 16 (c:=192) m4 ∅ R5 O λτ5 nZ r5 d5 x5 t5 e5 m5 R6 f5=>?_
 refine kM (k:=k+1) 17 (c:=256) m5 ∅ R6 O λτ6 C3 r6 d6 x6 t6 e6 m6 R7 f6=>?_
 refine kM (k:=k+1) 18 (c:=115) m6 ∅ R7 O λτ7 σ7 r7 d7 x7 t7 e7 m7 R8 f7=>?_
 refine kM (k:=k+1) 19 (c:=16) m7 ∅ R8 O λτ8 zx r8 d8 x8 t8 e8 m8 R9 f8=>?_
 have F8:=(((((((f0.trans f1).trans f2).trans f3).trans f4).trans f5).trans f6).trans f7).trans f8
 have Mb:=F8.get hp nmp
 have aag:=abM (k:=k+2) Mb h
 refine kM (k:=k+1) 20 m8 aaf R9 O λτ9 qy r9 d9 x9 t9 e9 m9 UN f9=>?_
 have F9:=F8.trans f9
 have g1:=F9.get h1 NC
 refine E5 (k:=k) g1 hP λlQ J Ad U Ae Z Af yu Ag a1 a2 a3 a4=>?_
 have RA:=Rows.append a3 (UN.bW a4 λj q=>.inl (q.symm▸xG))
 have g2:=a4.get (F9.get h2 ND) hl.symm
 have mA:=a4.get m9 NC.symm
 refine E5 (k:=k) g2 hP λmY yv Ah yw Ai yx Aj yy Ak b1 b2 b3 b4=>?_
 refine K mY r0 d0 r1 d1 r2 d2 r3 d3 r4 d4 r5 d5 r6 d6 r7 d7 r8 d8 r9 d9 J Ad U Ae Z Af yu Ag yv Ah yw Ai yx Aj yy Ak ?_ (b4.get mA ND.symm) (b4.get a2 hl) b2
  (Rows.append b3 (RA.bW b4 λj q=>.inl (q.symm▸mq))) ((F9.wide λY q=>.inl q).trans ((a4.wide λY q=>.inr (.inl q)).trans (b4.wide λY q=>.inr (.inr q))))
 exists call XD λt=>t (fi rfl) x0 t0 e0 x1 t1 e1 x2 t2 e2 x3 t3 e3 x4 t4 e4 (fi rfl) x5 t5 e5 (fi rfl) x6 t6 e6 x7 t7 e7 (lw ∅) x8 t8 e8 m8 (bM Mb rfl rfl) aag x9 t9 e9 m9 (bM g1 rfl rfl) a1 mA (bM g2 rfl rfl) b1
end
noncomputable def kJ(m p l1 l2:Nat)(lc lp pb:Int)(L:List uG):MR:=⟨m,p,l1,l2,λi=>(L.getD i (0,0,0)).1,λi=>(L.getD i (0,0,0)).2.1,lc,lp,pb⟩
section
variable {k:Nat}{σ:AH}
theorem acj{l1 l2:Nat}{lc:Int}{L:List uG}(h:(L[i]?).map (·.2.2)=some c):L[i]?=some ((kJ m p l1 l2 lc lp pb L).rr i,(kJ m p l1 l2 lc lp pb L).dd i,c):=by
 cases e:L[i]? with
 |none=>replace h:=e▸h;cases h
 |some t=>
  replace h:=e▸h
  cases h
  unfold kJ
  dsimp only
  rw [jI,e];rfl
theorem ack{lo l1 l2:Nat}{lc:Int}{L:List uG}(J:Rows σ lo L O)(Z:L.map (·.2.2)=(bV 18).map (kJ m p l1 l2 lc lp pb L).cnt)(hm:m<lo)(hp:p<lo)(h1:l1<lo)(h2:l2<lo)
  (h:0<=lc/\lc<=8/\0<=lp/\lp<=4/\0<=pb/\pb<=4):(kJ m p l1 l2 lc lp pb L).Good/\(∀j,(kJ m p l1 l2 lc lp pb L).foot j->lo<=j/\j<O)/\
   ∀i,i<18->cD σ ((kJ m p l1 l2 lc lp pb L).rr i) ((kJ m p l1 l2 lc lp pb L).dd i) ((kJ m p l1 l2 lc lp pb L).cnt i) []:=by
 have get:∀i,i<18->L[i]?=some ((kJ m p l1 l2 lc lp pb L).rr i,(kJ m p l1 l2 lc lp pb L).dd i,(kJ m p l1 l2 lc lp pb L).cnt i):=λi O=>acj (by rw [←eT,Z,eT,mS O];rfl)
 have H:∀j,(kJ m p l1 l2 lc lp pb L).foot j->lo<=j/\j<O:=λj ⟨i,O,q⟩=>by
  have:=J.get (get i O)
  rcases q with q|q<;>rw [q]
  ·exact⟨this.2.1,this.2.2.1⟩
  ·exact⟨this.2.2.2.1,this.2.2.2.2⟩
 have U:∀j,j<lo->¬(kJ m p l1 l2 lc lp pb L).foot j:=λj V q=>by have:=H j q;exact(aq bL 0x10182000400103710004 V this rfl)
 refine⟨⟨λi j O V Y=>?_,U _ hm,U _ hp,U _ h1,U _ h2,⟨h.1,h.2.1⟩,⟨h.2.2.1,h.2.2.2.1⟩,h.2.2.2.2⟩,H,λi O=>(J.get (get i O)).1⟩
 rcases Nat.lt_or_gt_of_ne Y with q|q
 ·have:=J.sep q (get i O) (get j V)
  exact⟨(aa dR 0x11010005620304103047200047100047 this rfl),(aa dR 0x101020005620304103047200047100047 this rfl),(aa dR 0x1001010305620304103047200047100047 this rfl),(aa dR 0x10001020305620304103047200047100047 this rfl)⟩
 ·have:=J.sep q (get j V) (get i O)
  exact⟨(aa dR 0x10100105620304103047200047100047 this rfl),(aa dR 0x1000130105620304103047200047100047 this rfl),(aa dR 0x100100205620304103047200047100047 this rfl),(aa dR 0x10000130205620304103047200047100047 this rfl)⟩
theorem OZ{L:List (bu×V)}(x:bu)(v:V)(H:σ[m]?=some (.obj C L)){G:Prop}(K:∀σ',σ.set m (.obj C (jZ L x v))=σ'->σ'[m]?=some (.obj C (jZ L x v))->σ'.length=σ.length->ak (λj=>j=m) σ σ'->G):G:=
 K _ rfl (gH H) (lN ..) (ak.set _ _ _ rfl)
theorem aci{lc:Int}(hp:σ[p]?=some (.obj 154 [(2,.int lc),(3,.int lp),(4,.int pb)]))(h:0<=lc/\lc<=8/\0<=lp/\lp<=4/\0<=pb/\pb<=4){G:Prop}
  (K:∀σ' R,mu (ae (k+5)) 294 [.ref p] σ=some (.ref σ.length,σ')->R.Good->R.m=σ.length->R.p=p->R.lc=lc->R.lp=lp->R.pb=pb->iK R (λY=>[]) σ'->(∀j,R.foot j->σ.length<=j/\j<σ'.length)->
   (σ.length<=R.l1/\R.l1<σ'.length)->(σ.length<=R.l2/\R.l2<σ'.length)->ak F0 σ σ'->G):G:=by
 have U:=cK hp
 have n0:(σ++[AC.obj 294 []])[σ.length]?=some (.obj 294 []):=new
 have m0:(σ++[AC.obj 294 [(10,.ref p)]])[σ.length]?=some (.obj 294 [(10,.ref p)]):=new
 refine kL 11 m0 λIG av x0 t0 e0 m1 f0=>?_
 refine kL 12 m1 λwH aC x1 t1 e1 m2 f1=>?_
 refine kL 13 m2 λzB dH x2 t2 e2 m3 f2=>?_
 refine kL 14 m3 λII jn x3 t3 e3 m4 f3=>?_
 refine kL 15 m4 λτ4 nZ x4 t4 e4 m5 f4=>?_
 refine kL 16 m5 λτ5 C3 x5 t5 e5 m6 f5=>?_
 refine kL 17 m6 λτ6 σ7 x6 t6 e6 m7 f6=>?_
 refine kL 18 m7 λτ7 zx x7 t7 e7 m8 f7=>?_
 refine kL 19 m8 λτ8 qy x8 t8 e8 m9 f8=>?_
 refine kL 20 m9 λτ9 H x9 t9 e9 Nf f9=>?_
 have IP:=((((((((f0.trans f1).trans f2).trans f3).trans f4).trans f5).trans f6).trans f7).trans f8).trans f9
 have hP:(0:Int)<=2^pb.toNat/\(2:Int)^pb.toNat<=16:=by
  have a1:(2:Int)^pb.toNat<=2^4:=iw (aq jt 0x100000011401130320302240112002000107401110071000107801100070000107 h (be (aa cF 0x10000120001040112002000107401110071000107801100070000107 h rfl)) rfl)
  have a2:(0:Int)<2^pb.toNat:=g7 ∅
  exact(aq az 0x10101110021000000010700001110021000 a1 a2 rfl)
 have Mm:intOp .LShift 1 pb=some (2^pb.toNat):=Gm ⟨(aa cF 0x10000120001040112002000107401110071000107801100070000107 h rfl),(aa cF 0x10000013e803120040112002000107401110071000107801100070000107 h rfl)⟩
 have Mc:=IP.get (aN hp) (dW U)
 refine MW (k:=k) (σ:=H) hP λlQ v0 v1 v2 v3 a1 a2 a3 a4=>?_
 have mA:=a4.get Nf (λq=>q)
 refine OZ 21 (.ref H.length) mA λJ sB Ng lB FA=>?_
 have O:=cK Nf
 have lA:=FA.get a2 (gZ O)
 have Me:=FA.get (a4.get Mc (λq=>q)) (dW U)
 refine MW (k:=k) (σ:=J) hP λn9 w0 w1 w2 w3 b1 b2 b3 b4=>?_
 have mC:=b4.get Ng (λq=>q)
 refine OZ 22 (.ref J.length) mC λσD sD V lD FC=>?_
 have LY:=cK Ng
 have MM:=FC.get (b4.get lA (λq=>q)) (gZ O)
 have MO:=FC.get b2 (gZ LY)
 have Z:=FC.get (b4.get Me (λq=>q)) (dW U)
 have jw:H.length<J.length:=lB▸a3
 refine acl (k:=k) V Z ⟨h.1,h.2.1,h.2.2.1,h.2.2.2.1⟩ MM MO hP (dW jw) λmZ r0 d0 r1 d1 r2 d2 r3 d3 r4 d4 r5 d5 r6 d6 r7 d7 r8 d8 r9 d9 r10 Ad r11 Ae r12 Af yu Ag yv Ah yw Ai yx Aj yy Ak q1 q2 q3 q4 q5 q6=>?_
 have g:=ack (m:=σ.length) (p:=p) (l1:=H.length) (l2:=J.length) (lc:=lc) (lp:=lp) (pb:=pb) q5 rfl (cK V) (cK Z) (cK MM) (cK MO) h
 have FF:ak (λj=>σ.length<=j) (σ++[AC.obj 294 [(10,.ref p)]]) mZ:=
  (IP.wide λj q=>kr q.symm).trans ((a4.wide λj q=>q.elim).trans ((FA.wide λj q=>kr q.symm).trans ((b4.wide λj q=>q.elim).trans ((FC.wide λj q=>kr q.symm).trans (q6.wide λj q=>by(first|lia|omega))))))
 have hE:=q5.le
 have xG:=cK q3
 have mq:=cK q4
 have hpE:=q6.get Z (by(first|lia|omega))
 refine K mZ _ (pN (a:=256) rfl ?_) g.1 rfl rfl rfl rfl rfl ⟨q2,hpE,q3,q4,g.2.2⟩ (λj q=>⟨bo (pL Dt 0x11011101503034050540204003041020510004 a3 lB O b3 lD rfl) (g.2.1 j q).1,(g.2.1 j q).2⟩) ⟨iI O,xG⟩ ⟨iI LY,mq⟩
  ⟨bo fP FF.1,λj hj Y=>(FF.2 j (bN hj fP) (Nat.not_le.mpr hj)).trans (lJ hj)⟩
 exists call Xz λt=>t n0 nM x0 t0 e0 x1 t1 e1 x2 t2 e2 x3 t3 e3 x4 t4 e4 x5 t5 e5 x6 t6 e6 x7 t7 e7 x8 t8 e8 x9 t9 e9 Mc Mm a1 mA sB Me Mm b1 mC sD (bM V rfl rfl) q1
end
section
variable {k:Nat}{σ:AH}
noncomputable def pS:RW:=⟨0,4294967295,0,1,#[]⟩
theorem afI:kY pS 0:=⟨⟨by decide,by decide,by decide,by decide⟩,by decide,by decide⟩
theorem jb:(σ++[c]).length=σ.length+1:=bZ
theorem afJ:mu (ae (k+1)) 464 [] σ=some (.ref σ.length,σ++[wO pS (σ.length+1) false]++[AC.ba #[]]):=by
 refine pN (a:=398) rfl ?_
 have a0:(σ++[AC.obj 464 []]++[AC.ba #[]])[σ.length]?=some (.obj 464 []):=aN new
 have U:fk .q8 [] (σ++[AC.obj 464 []])=some (.ref (σ.length+1),σ++[AC.obj 464 []]++[AC.ba #[]]):=by rw [←jb (σ:=σ) (c:=AC.obj 464 [])];rfl
 have a1 (L:List (bu×V)):(σ++[AC.obj 464 L]++[AC.ba #[]])[σ.length]?=some (.obj 464 L):=aN new
 exists call XN λt=>t U (a1 _) pW (a1 _) pW (a1 _) pW (a1 _) pW (a1 _) pW (a1 _) pW
theorem acn:mu (ae (k+1)) 3895 [] σ=some (.ref σ.length,σ++[AC.obj 3895 [(31,.int 0)]]):=by
 refine pN (a:=3864) rfl ?_
 exists call Yj λt=>t new nM
theorem abG(h:σ[b]?=some (.list l))(V:l.length<=1000):fk .listOf [.ref b] σ=some (.ref σ.length,σ++[.list l]):=gV rfl (bI h (if_pos V))
theorem FW(O:σ[b]?=some (.list l))(V:l.length<=1000):mu (ae (k+1)) 352 [.ref b] σ=some (.ref σ.length,σ++[AC.obj 352 [(23,.ref (σ.length+1))]]++[AC.list l]):=by
 refine pN (a:=314) rfl ?_
 have H:=abG (aN (l:=[AC.obj 352 []]) O) V
 rw [jb] at H
 have J:(σ++[AC.obj 352 []]++[AC.list l])[σ.length]?=some (.obj 352 []):=aN new
 exists call XW λt=>t H J pW
theorem afo:mu (ae (k+1)) 352 [] σ=some (.ref σ.length,σ++[AC.obj 352 [(23,.ref (σ.length+1))]]++[AC.list [.int 1,.int 1,.int 1,.int 1]]):=by
 refine pN (a:=314) rfl ?_
 have H:fk .listOf [.tup [.int 1,.int 1,.int 1,.int 1]] (σ++[AC.obj 352 []])=some (.ref (σ.length+1),σ++[AC.obj 352 []]++[AC.list [.int 1,.int 1,.int 1,.int 1]]):=by rw [←jb];rfl
 have J:(σ++[AC.obj 352 []]++[AC.list [.int 1,.int 1,.int 1,.int 1]])[σ.length]?=some (.obj 352 []):=aN new
 exists call XX λt=>t H J pW
theorem BL:(σ++[c]++l++l').set σ.length d=σ++[d]++l++l':=by simp [CH]
theorem Nl:mu (ae (k+2)) 4021 [.ref m,.ref w] σ=some (.ref σ.length,σ++[AC.obj 4021 [(29,.ref m),(30,.ref w),(32,.int 0),(33,.int 0),(34,.ref (σ.length+1))]]++[AC.obj 352 [(23,.ref (σ.length+2))]]++[AC.list [.int 1,.int 1,.int 1,.int 1]]):=by
 refine pN (a:=3913) rfl ?_
 have a1 (L:List (bu×V)):(σ++[AC.obj 4021 L])[σ.length]?=some (.obj 4021 L):=new
 have H:am (ae (k+1)) 3780 [.ref σ.length,.ref m,.ref w] (σ++[AC.obj 4021 []])=some (.none,σ++[AC.obj 4021 [(29,.ref m),(30,.ref w)]]):=by
  exists call Yc λt=>t (a1 _) nM (a1 _) nM
 have J:=afo (k:=k) (σ:=σ++[AC.obj 4021 [(29,.ref m),(30,.ref w),(32,.int 0),(33,.int 0)]])
 rw [jb] at J
 have O:(σ++[AC.obj 4021 [(29,.ref m),(30,.ref w),(32,.int 0),(33,.int 0)]]++[AC.obj 352 [(23,.ref (σ.length+2))]]++[AC.list [.int 1,.int 1,.int 1,.int 1]])[σ.length]?=some (AC.obj 4021 [(29,.ref m),(30,.ref w),(32,.int 0),(33,.int 0)]):=aN (aN new)
 exists call Xq λt=>t H (a1 _) nM (a1 _) nM J O BL
theorem aeG{S:fK}{R:MR}{W:Nat}(H:σ[W]?=some (fG S R place state r))(J:0<=c):am (ae (k+3)) 3934 [.ref W,.int c] σ=some (.none,σ.set W (fG S R (place+c) state r)):=by
 have O:=ad5 (k:=k) (σ:=σ) (x:=c) (lo:=0) (.str 0) J
 exists call Xu λt=>t O H H rfl
noncomputable def nN:Nat->RW->RW
 |0,x=>x
 |n+1,x=>tO (nN n x)
theorem BN(h:kY x n):∀i,kY (nN i x) (n+i)
 |0=>h
 |i+1=>O4 (BN h i).toRWok0 (BN h i).span
theorem Wk(h:σ[n]?=some (.ba b))(V:b.size<=10000):fk .bytesOf [.ref n] σ=some (.bytes b,σ):=gV (bI h rfl) (bI h (if_pos V))
theorem Xb(h:lS w b x n σ)(hn:n+10<=900){G:Prop}(K:∀σ',am (ae (k+2)) 461 [.ref w] σ=some (.bytes (nN 5 x).made,σ')->ak (jq w b) σ σ'->G):G:=by
 have U:=h.1
 have J:=h.2.1
 have ok:=h.2.2
 have V:w≠b:=by intro q;subst q;replace J:=U▸J;cases J
 refine mF (φ:=ae (k+1)) (σ:=σ) (cZ:=σ) (ρ:=[some (.ref w),none]) (s:=XS.loop (.var 1) (.range (.cons (.const (.int 5)) .nil)) (.cons (.expr (.aZ (.var 0) 17 .nil)) .nil)) (l:=eV 0 5) rfl (by
   exists iter λt=>t rfl
   )
  (λi ρ σ'=>∀G:Prop,(∀a,ρ=[some (.ref w),a]->σ'[w]?=some (wO (nN i x) b false)->σ'[b]?=some (.ba (nN i x).made)->ak (jq w b) σ σ'->G)->G)
  (λY K=>K none rfl U J (ak.refl _ _)) (λi v ρ av Z hI G K=>hI G λa e H g2 g3=>?_) λaV σ' h1 h2=>h2 _ λa e H g2 g3=>?_
 ·subst e
  obtain⟨rfl,nH⟩:=mD Z
  refine O5 (k:=k) H g2 (BN ok i).toRWok0 (aq aJ 0x111384031100043001501151021384031a0110043 hn nH rfl) λaC f1 f2 f3 f4=>K _ .next _ aC rfl ?_ λG K=>K (some (.int (0+(i:Int)))) rfl f2 f3 (g3.trans f4)
  exists body λt=>t (bM H rfl rfl) f1
 ·subst e
  have O:=BN ok 5
  have jx:(nN 5 x).made.size<=10000:=by
   have:=O.made
   have:=O.held
   (first|lia|omega)
  have h3:(σ'.set w (wO (nN 5 x) b true))[w]?=some (wO (nN 5 x) b true):=gH H
  have h4:=Wk (iN (c:=wO (nN 5 x) b true) V g2) jx
  refine K (σ'.set w (wO (nN 5 x) b true)) ?_ (pD (.inl rfl) g3)
  exists call XM λt=>t U h1 H rfl h3 h4
end
section
variable {φ:bK}{σ:AH}{ρ:bc}
theorem JX{f:V->M V}:gT (.lst l) f none (n+1) i acc σ=(some l[i]?).bind λo=>match o with
  |none=>some (acc,σ)
  |some v=>((f v).bw λy=>gT (.lst l) f none n (i+1) (acc++[y])) σ:=rfl
theorem W0{f:V->M V}{r}(h:l[i]?=some v)(H:f v σ=some (y,σ'))(k:gT (.lst l) f none n (i+1) (acc++[y]) σ'=r):gT (.lst l) f none (n+1) i acc σ=r:=JX.trans (bI (congrArg some h) (bC H k))
theorem WZ{f:V->M V}(h:l[i]?=none):gT (.lst l) f none (n+1) i acc σ=some (acc,σ):=JX.trans (bI (congrArg some h) rfl)
theorem JW{f:V->M V}{I:Nat->List V->AH->Prop}(J:∀i v acc σ,l[i]?=some v->I i acc σ->∀G:Prop,(∀y σ',f v σ=some (y,σ')->I (i+1) (acc++[y]) σ'->G)->G):
  ∀n i acc σ,i+n=l.length->acc.length=i->I i acc σ->∀{G:Prop},(∀H σ',gT (.lst l) f none (n+1) i acc σ=some (H,σ')->H.length=l.length->I l.length H σ'->G)->G
 |0,i,acc,σ,O,U,h,G,K=>K acc σ (WZ (qv (kr O.symm))) (U.trans O) (O▸h)
 |n+1,i,acc,σ,O,U,h,G,K=>
  have q:i<l.length:=O▸Sp (Io n)
  have e:l[i]?=some l[i]:=iy q
  J i _ acc σ e h G λy av Y Z=>JW J n (i+1) (acc++[y]) av (by rw [←O,CP,CT 1]) (by rw [bZ,U];rfl) Z λH σ' h3=>K H σ' (W0 e Y h3)
theorem DL(O:xi φ ρ it σ=some (.lst l,cZ))(U:l.length<=1000)(I:Nat->List V->AH->Prop)(Y:I 0 [] cZ)
  (H:∀i v acc σ,l[i]?=some v->I i acc σ->∀G:Prop,(∀y σ',xe φ (ρ.set s (some v)) e σ=some (y,σ')->I (i+1) (acc++[y]) σ'->G)->G) {G:Prop}
  (K:∀acc σ',acc.length=l.length->xe φ ρ (.comp s e it) σ=some (.ref σ'.length,σ'++[AC.list acc])->I l.length acc σ'->G):G:=
 JW (f:=λv=>xe φ (ρ.set s (some v)) e) H l.length 0 [] cZ (CX _) rfl Y λacc σ' Z J h3=>K acc σ' J (bC O (bC Z (if_pos (show acc.length<=most from J▸U)))) h3
theorem uZ(g:Nat->V)(H:xi φ ρ it σ=some (.lst l,σ))(J:l.length<=1000)(U:∀i v,l[i]?=some v->xe φ (ρ.set s (some v)) e σ=some (g i,σ)):
  xe φ ρ (.comp s e it) σ=some (.ref σ.length,σ++[AC.list ((bV l.length).map g)]):=
 DL H J (λi acc σ'=>σ'=σ/\acc=(bV i).map g) ⟨rfl,rfl⟩ (λi v acc σ' e h G K=>K (g i) σ' (h.1.symm▸U i v e) ⟨h.1,by rw [h.2,CC,ko];rfl⟩) λacc σ' Y Z O=>by rw [Z,O.1,O.2]
end
noncomputable def bG(e:Ev):V:=.tup [.int (e.1:Int),.int e.2.1,.int e.2.2]
section
variable {k:Nat}{σ:AH}
theorem rm{x:Int}{n:Nat}(h:x=n)(H:n<=8):intOp .Pow 2 x=some (2^n):=by
 subst h;rw [tH ⟨by exact(bx au 0x10020010 rfl),by exact(aa au 0x113e803100208011003 H rfl),by decide⟩];rfl
theorem vd(H:j<=8):intOp .FloorDiv value (2^j)=some (value/2^j):=qM ⟨g7 ∅,by have:(2:Int)^j<=2^8:=iw H;exact(aa az 0x1140000000081001100031000 this rfl)⟩
theorem tF{row many:Nat}{begin value:Int}(H:many<=8){G:Prop}(K:∀σ' r,am (ae (k+1)) 4061 [.int (row:Nat),.int begin,.int (many:Nat),.int value] σ=some (.ref r,σ')->σ'[r]?=some (.list ((eU row begin many value).map bG))->ak F0 σ σ'->σ.length<=r->G):G:=by
 have J:(eV 0 (many:Nat)).length=many:=by rw [oT];exact(aa aJ 0x111011000500110250022 (be (bx au 0x100100250010 rfl)) rfl)
 have U:=uZ (φ:=ae k) (σ:=σ) (ρ:=[some (.int (row:Nat)),some (.int begin),some (.int (many:Nat)),some (.int value),none,none]) (s:=5)
  (e:=.bin .Add (.bin .Pow (.const (.int 2)) (.var 5)) (.bin .FloorDiv (.var 3) (.bin .Pow (.const (.int 2)) (.bin .Sub (.var 2) (.var 5))))) (l:=eV 0 (many:Nat)) (it:=.range (.cons (.var 2) .nil)) (λi=>.int (bU many value i))
  (by
   exists iter λt=>t (nP (nA (aa au 0x1101100000000000b120021002100000000000b123178011003 H rfl)))
   ) (aq aJ 0x10113e8031103001058011003 H J rfl) (λi v e=>by
   obtain⟨rfl,Z⟩:=mD e
   have p1:=rm (x:=0+(i:Int)) (n:=i) (bx au 0x1100200200142 rfl) (aq aJ 0x1118011103001002510218011003 H Z rfl)
   have p2:=rm (x:=(many:Int) - (0+(i:Int))) (n:=many- i) (aa bL 0x10101100210200142025220100045 (cG (aa aJ 0x111000300110250021 Z rfl)) rfl) (aq bL 0x10118011103201040030010378011003 H (sN _ _) rfl)
   have O:=vd (value:=value) (j:=many- i) (aq bL 0x10118011103201040030010378011003 H (sN _ _) rfl)
   exists expr λt=>t p1 p2 O
   )
 rw [J] at U
 have hn:(σ++[AC.list ((bV many).map λi=>V.int (bU many value i))])[σ.length]?=some (.list ((bV many).map λi=>V.int (bU many value i))):=new
 have Y:=uZ (φ:=ae k) (σ:=σ++[AC.list ((bV many).map λi=>V.int (bU many value i))]) (ρ:=[some (.int (row:Nat)),some (.int begin),some (.int (many:Nat)),some (.int value),some (.ref σ.length),none]) (s:=5)
  (e:=.tup (.cons (.var 0) (.cons (.bin .Add (.var 1) (.sub (.var 4) (.var 5))) (.cons (.bin .Mod (.bin .FloorDiv (.var 3) (.bin .Pow (.const (.int 2)) (.bin .Sub (.bin .Sub (.var 2) (.const (.int 1))) (.var 5)))) (.const (.int 2))) .nil)))) (l:=eV 0 (many:Nat)) (it:=.range (.cons (.var 2) .nil)) (λi=>bG (row,begin+bU many value i,ej many value i))
  (by
   exists iter λt=>t (nP (nA (aa au 0x1101100000000000b120021002100000000000b123178011003 H rfl)))
   ) (aq aJ 0x10113e8031103001058011003 H J rfl) (λi v e=>by
   obtain⟨rfl,Z⟩:=mD e
   have hi:i<many:=(aa aJ 0x111000400110250021 Z rfl)
   have s1:=kN (φ:=ae k) (i:=0+(i:Int)) (v:=.int (bU many value i)) hn (by rw [bf,gO];exact(aa au 0x113e80310038011003 H rfl)) (by rw [bf,gO];exact(aa aJ 0x11011020020014100200140010700110250021 Z rfl)) (by rw [show(0+(i:Int)).toNat=i by exact(aa aJ 0x111011000510200140022 (be (bx au 0x100200140010 rfl)) rfl),eT,mS hi];rfl)
   have p3:=rm (x:=(many:Int) - 1- (0+(i:Int))) (n:=many- 1- i) (aq dR 0x101010101100210200141011302552301011204520100045 (cG (aq bL 0x110120003101120410310203700110250021 Z (sN _ _) rfl)) (cG (aa aJ 0x11101011300110250021 Z rfl)) rfl) (bB dR 0x10101180111031011204003002037301042032010378011003 H (sN _ _) (sN _ _) rfl)
   have O:=vd (value:=value) (j:=many- 1- i) (bB dR 0x10101180111031011204003002037301042032010378011003 H (sN _ _) (sN _ _) rfl)
   have q2:intOp .Mod (value/2^(many- 1- i)) 2=some (ej many value i):=li ∅
   exists expr λt=>t s1 p3 O q2
   )
 rw [J] at Y
 refine K (σ++[AC.list ((bV many).map λi=>V.int (bU many value i))]++[AC.list ((bV many).map λi=>bG (row,begin+bU many value i,ej many value i))]) (σ++[AC.list ((bV many).map λi=>V.int (bU many value i))]).length ?_ (new.trans ?_) (bE (bE (ak.refl _ _))) fP
 ·exists call Yt λt=>t U Y
 ·rw [eU,eE,qj,qj];rfl
end
theorem Op{α:Type}{g:Nat->α}(h:i<n):((bV n).map g)[((i:Nat):Int).toNat]?=some (g i):=by
 rw [eT,Ct,mS h];rfl
theorem aeH(h:i<many):((eU row b many v).map bG)[((i:Nat):Int).toNat]?=some (bG (row,b+bU many v i,ej many v i)):=by
 rw [eT,Ct,eU,eT,BA h];rfl
theorem M9(start o:Int):∀(c t:Nat),t+c=many->il start (bU many o t) o c=(zp t c).map λt=>((9:Nat),start+bU many o t,ej many o t)
 |0,t,_=>rfl
 |c+1,t,h=>by
  have e:ej many o t=o/2^c%2:=by unfold ej;rw [show many- 1- t=c by exact(bB nk 0x10010110110101103052010114045400030452010111040045 h (cG (aq dR 0x11013000310113042032030372010111040045 h (sN _ _) rfl)) (cG (aa bL 0x1120101132010111040045 h rfl)) rfl)]
  rw [il,HU,jk,←M9 start o c (t+1) (by exact(aa bL 0x1110120101011004452010111040045 h rfl)),rh (by exact(aa bL 0x11200042010111040045 h rfl)),e,rN]
theorem M8{start:Int}(h:0<=o/\o<=255):il start 1 o 8=eU 9 start 8 o:=by
 have:=M9 start o (many:=8) 8 0 rfl
 rw [vM (by exact(aa az 0x1010111000310010000107ff0210000000107 h rfl))] at this
 rw [this,eU,eE,qj,SW]
 rfl
abbrev fL(o m:Int)(t:Nat):Prop:=o/2^(8- t)=m/2^(8- t)
noncomputable def oO(start o m:Int)(t:Nat):Ev:=(9,start+bU 8 o t+256*(1+m/2^(7- t)%2)*(if fL o m t then 1 else 0),ej 8 o t)
theorem Vc(h:fL o m (t+1))(Z:t<8):fL o m t:=by
 unfold fL at*
 rw [show 8- t=(8- (t+1))+1 by exact(aq bL 0x11011001110112040058011101110420458011100045 (cG (aa au 0x1180110038011004 Z rfl)) (cG (aa au 0x118011101100438011004 Z rfl)) rfl),qk,←wd (uq ∅),←wd (uq ∅),h]
theorem MX(start o m:Int):∀(c t:Nat),t+c=8->¬fL o m t->il start (bU 8 o t) o c=(zp t c).map (oO start o m)
 |0,t,_,_=>rfl
 |c+1,t,h,q=>by
  have e:ej 8 o t=o/2^c%2:=by unfold ej;rw [show 8- 1- t=c by exact(aq bL 0x1001101101102057011002045801110111040045 h (cG (aa aJ 0x117011003801110111040045 h rfl)) rfl)]
  have H:il start (bU 8 o (t+1)) o c=(zp (t+1) c).map (oO start o m):=by
   cases c with
   |zero=>rfl
   |succ c=>exact MX start o m (c+1) (t+1) (aa aJ 0x111018011101110410110044580111011101110440045 h rfl) λz=>q (Vc z (aa aJ 0x11801100480111011101110440045 h rfl))
  rw [il,HU,jk,←H,rh (by exact(aa aJ 0x118011004801110111040045 h rfl)),e,rN 2]
  unfold oO
  rw [if_neg q,e];simp
theorem M5(start o m:Int):∀(c t:Nat),t+c=8->fL o m t->jX start o m (bU 8 o t) c=(zp t c).map (oO start o m)
 |0,t,_,_=>rfl
 |c+1,t,h,q=>by
  have e:ej 8 o t=o/2^c%2:=by unfold ej;rw [show 8- 1- t=c by exact(aq bL 0x1001101101102057011002045801110111040045 h (cG (aa aJ 0x117011003801110111040045 h rfl)) rfl)]
  have H:8- t=c+1:=(aq bL 0x100110110110111042058011002045801110111040045 h (cG (aa aJ 0x118011003801110111040045 h rfl)) rfl)
  have J:8- (t+1)=c:=(aq bL 0x100110110110205801110110042045801110111040045 h (cG (aa aJ 0x11801110110043801110111040045 h rfl)) rfl)
  have O:(if o/2^c%2=m/2^c%2 then jX start o m (bU 8 o (t+1)) c else il start (bU 8 o (t+1)) o c)=(zp (t+1) c).map (oO start o m):=by
   have key:fL o m (t+1)↔o/2^c%2=m/2^c%2:=by
    unfold fL at*
    rw [J]
    rw [H,qk,←wd (uq ∅),←wd (uq ∅)] at q
    (first|lia|omega)
   split
   ·rename_i z;exact M5 start o m c (t+1) (aa aJ 0x11101801110101100445801110111040045 h rfl) (key.mpr z)
   ·rename_i z;exact MX start o m c (t+1) (aa aJ 0x11101801110101100445801110111040045 h rfl) λy=>z (key.mp y)
  rw [M6,HU,jk,←O,rh (by exact(aa aJ 0x118011004801110111040045 h rfl)),e,rN 2]
  unfold oO
  rw [if_pos q,e,show 7- t=c by exact(aq bL 0x1001101101102057011002045801110111040045 h (cG (aa aJ 0x117011003801110111040045 h rfl)) rfl)]
  congr 3
  exact(bx cF 0x111010114100036101720004420101011410003700442 rfl)
theorem M4{start:Int}(h:0<=o/\o<=255)(H:0<=m/\m<=255):jX start o m 1 8=(bV 8).map (oO start o m):=by
 have:=M5 start o m 8 0 rfl (by unfold fL;rw [wg h.1 (by exact(aa az 0x101100031001ff0210000000107 h rfl)),wg H.1 (by exact(aa az 0x101100031001ff0210000000107 H rfl))])
 rw [vM (by exact(aa az 0x1010111000310010000107ff0210000000107 h rfl))] at this
 rw [this,SW]
section
variable {k:Nat}{σ:AH}
def qz(σ:AH)(r:Nat)(l:List Ev)(σ':AH):Prop:=σ'[r]?=some (.list (l.map bG))/\ak F0 σ σ'/\σ.length<=r
theorem mz(n:Int)(h:0<=n/\n<=1000):intOp .Pow 2 n=some (2^n.toNat):=tH ⟨h.1,h.2,by decide⟩
theorem tG(n:Int)(h:0<=n/\n<=8):0<(2:Int)^n.toNat/\(2:Int)^n.toNat<1073741824:=by
 refine⟨g7 ∅,?_⟩
 have:(2:Int)^n.toNat<=2^8:=iw (aq aX 0x10011801110300102280110000000107 h (be (aa az 0x1100001080110000000107 h rfl)) rfl)
 exact(aa az 0x1140000000081001100031000 this rfl)
theorem MY{start:Int}(J:0<=o/\o<=255){G:Prop}(K:∀σ' r,am (ae (k+2)) 4066 [.int start,.int o,.none] σ=some (.ref r,σ')->qz σ r (il start 1 o 8) σ'->G):G:=by
 rw [M8 J] at K
 refine tF (k:=k) (σ:=σ) (row:=9) (begin:=start) (many:=8) (value:=o) ∅ λσ' r H O U V=>K σ' r ?_ ⟨O,U,V⟩
 exists call Kz λt=>t H rfl
theorem vE:(eV 0 8).length=8:=by rw [oT];rfl
theorem Jd{φ:bK}{g:Nat->V}{n r i:Nat}(h:σ[r]?=some (.list ((bV n).map g)))(H:n<=1000)(O:i<n):cP φ (.ref r) (.int (0+(i:Int))) σ=some (g i,σ):=
 kN h (by rw [bf,gO];exact H) (by rw [bf,gO];exact(aa aJ 0x11011020020014100200140010710004 O rfl)) (by rw [nU];exact Op O)
theorem MZ{start o m:Int}(ho:0<=o/\o<=255)(hm:0<=m/\m<=255){G:Prop}(K:∀σ' r,am (ae (k+2)) 4066 [.int start,.int o,.int m] σ=some (.ref r,σ')->qz σ r (jX start o m 1 8) σ'->G):G:=by
 rw [M4 ho hm] at K
 refine tF (k:=k) (σ:=σ) (row:=9) (begin:=start) (many:=8) (value:=o) ∅ λav r h1 Y h3 h4=>?_
 have c1:=uZ (φ:=ae (k+1)) (σ:=av) (ρ:=[some (.int start),some (.int o),some (.int m),some (.ref r),none,none,none]) (s:=6)
  (e:=.cmp .Eq (.bin .FloorDiv (.var 1) (.bin .Pow (.const (.int 2)) (.bin .Sub (.const (.int 8)) (.var 6)))) (.bin .FloorDiv (.var 2) (.bin .Pow (.const (.int 2)) (.bin .Sub (.const (.int 8)) (.var 6))))) (l:=eV 0 8) (it:=.range (.cons (.const (.int 8)) .nil)) (λi=>.bool (decide (fL o m i)))
  (by
   exists iter λt=>t rfl
   ) (by rw [vE];decide) (λi v e=>by
   obtain⟨rfl,Z⟩:=mD e
   have p1:=rm (x:=8- (0+(i:Int))) (n:=8- i) (by exact(aa aJ 0x10101100210200148011528011100045 (cG (aa au 0x118011003001801150021 Z rfl)) rfl)) (by exact(aa aJ 0x118011003100048011380110037 (sN _ _) rfl))
   have J:=vd (value:=o) (j:=8- i) (by exact(aa aJ 0x118011003100048011380110037 (sN _ _) rfl))
   have O:=vd (value:=m) (j:=8- i) (by exact(aa aJ 0x118011003100048011380110037 (sN _ _) rfl))
   exists expr λt=>t p1 J p1 O (JS _ _)
   )
 rw [vE] at c1
 have f1:(av++[AC.list ((bV 8).map λi=>V.bool (decide (fL o m i)))])[av.length]?=some (.list ((bV 8).map λi=>V.bool (decide (fL o m i)))):=new
 have f2:=aN (l:=[AC.list ((bV 8).map λi=>V.bool (decide (fL o m i)))]) Y
 have F1:=h3.trans (ak.cU (F:=F0) av [AC.list ((bV 8).map λi=>V.bool (decide (fL o m i)))])
 have L1:=bo h4 (iI (cK Y))
 generalize av++[AC.list ((bV 8).map λi=>V.bool (decide (fL o m i)))]=aC at*
 have c2:=uZ (φ:=ae (k+1)) (σ:=aC) (ρ:=[some (.int start),some (.int o),some (.int m),some (.ref r),some (.ref av.length),none,none]) (s:=6)
  (e:=.bin .Mult (.bin .Mult (.const (.int 256)) (.bin .Add (.const (.int 1)) (.bin .Mod (.bin .FloorDiv (.var 2) (.bin .Pow (.const (.int 2)) (.bin .Sub (.const (.int 7)) (.var 6)))) (.const (.int 2))))) (.prim .jU (.cons (.sub (.var 4) (.var 6)) .nil))) (l:=eV 0 8) (it:=.range (.cons (.const (.int 8)) .nil)) (λi=>.int (256*(1+m/2^(7- i)%2)*(if fL o m i then 1 else 0)))
  (by
   exists iter λt=>t rfl
   ) (by rw [vE];decide) (λi v e=>by
   obtain⟨rfl,Z⟩:=mD e
   have H:=Jd (φ:=ae (k+1)) f1 ∅ (show i<8 by exact(aa au 0x118011004001801150021 Z rfl))
   have p2:=rm (x:=7- (0+(i:Int))) (n:=7- i) (by exact(aa aJ 0x10101100210200147011527011100045 (cG (aa au 0x117011003001801150021 Z rfl)) rfl)) (by exact(aa aJ 0x118011003100047011370110037 (sN _ _) rfl))
   have J:=vd (value:=m) (j:=7- i) (by exact(aa aJ 0x118011003100047011370110037 (sN _ _) rfl))
   have O:intOp .Mod (m/2^(7- i)) 2=some (m/2^(7- i)%2):=li ∅
   have e8:intOp .Mult (256*(1+m/2^(7- i)%2)) (if fL o m i then 1 else 0)=some (256*(1+m/2^(7- i)%2)*(if fL o m i then 1 else 0)):=nJ (.inr (by split<;>decide))
   have e9:fk .jU [.bool (decide (fL o m i))] aC=some (.int (if fL o m i then 1 else 0),aC):=by
    by_cases z:fL o m i
    ·rw [if_pos z,decide_eq_true z];rfl
    ·rw [if_neg z,decide_eq_false z];rfl
   exists expr λt=>t p2 J O (fi rfl) H e9 e8
   )
 rw [vE] at c2
 have g1:(aC++[AC.list ((bV 8).map λi=>V.int (256*(1+m/2^(7- i)%2)*(if fL o m i then 1 else 0)))])[aC.length]?=some (.list ((bV 8).map λi=>V.int (256*(1+m/2^(7- i)%2)*(if fL o m i then 1 else 0)))):=new
 have g2:=aN (l:=[AC.list ((bV 8).map λi=>V.int (256*(1+m/2^(7- i)%2)*(if fL o m i then 1 else 0)))]) f2
 have G1:=F1.trans (ak.cU (F:=F0) aC [AC.list ((bV 8).map λi=>V.int (256*(1+m/2^(7- i)%2)*(if fL o m i then 1 else 0)))])
 generalize aC++[AC.list ((bV 8).map λi=>V.int (256*(1+m/2^(7- i)%2)*(if fL o m i then 1 else 0)))]=U at*
 have c3:=uZ (φ:=ae (k+1)) (σ:=U) (ρ:=[some (.int start),some (.int o),some (.int m),some (.ref r),some (.ref av.length),some (.ref aC.length),none]) (s:=6)
  (e:=.tup (.cons (.const (.int 9)) (.cons (.bin .Add (.sub (.sub (.var 3) (.var 6)) (.const (.int 1))) (.sub (.var 5) (.var 6))) (.cons (.sub (.sub (.var 3) (.var 6)) (.const (.int 2))) .nil)))) (l:=eV 0 8) (it:=.range (.cons (.const (.int 8)) .nil)) (λi=>bG (oO start o m i))
  (by
   exists iter λt=>t rfl
   ) (by rw [vE];decide) (λi v e=>by
   obtain⟨rfl,Z⟩:=mD e
   have H:cP (ae (k+1)) (.ref r) (.int (0+(i:Int))) U=some (bG (9,start+bU 8 o i,ej 8 o i),U):=kN g2 (by rw [bf,jY];decide) (by rw [bf,jY];exact(aa au 0x11018011200200141002001400107001801150021 Z rfl)) (by rw [nU];exact aeH (aa au 0x118011004001801150021 Z rfl))
   have s2:=Jd (φ:=ae (k+1)) g1 ∅ (show i<8 by exact(aa au 0x118011004001801150021 Z rfl))
   exists expr λt=>t H rfl s2 H rfl
   )
 rw [vE] at c3
 refine K (U++[AC.list ((bV 8).map λi=>bG (oO start o m i))]) U.length ?_ ⟨new.trans (congrArg (λl=>some (AC.list l)) qj.symm),bE G1,G1.1⟩
 exists call Kz λt=>t h1 rfl c1 c2 c3
theorem Nm{G:Prop}(K:∀σ' r,am (ae (k+2)) 4073 [.int (row:Nat),.int spot,.int size] σ=some (.ref r,σ')->qz σ r (iC row spot size) σ'->G):G:=by
 unfold iC at K
 have J:intOp .Mult 8 spot=some (8*spot):=fi rfl
 by_cases H:size<10
 ·replace K:=(if_pos H)▸K
  refine tF (k:=k) (σ:=σ++[AC.list [bG (row,0,0)]]) (row:=row+1) (begin:=8*spot) (many:=3) (value:=size- 2) ∅ λav r U V O h4=>?_
  have Y:=gS (O.get (new (c:=AC.list [bG (row,0,0)])) (λq=>q)) V (by rw [bf,jY];show 1+3<=1000;decide)
  refine K _ _ ?_ ⟨new,bE (ak.trans (ak.cU _ _) O),bo fP O.1⟩
  exists call DU λt=>t (iR H) rfl J U Y
 ·rw [if_neg H] at K
  by_cases Z:size<18
  ·rw [if_pos Z] at K
   refine tF (k:=k) (σ:=σ++[AC.list [bG (row,0,1),bG (row,1,0)]]) (row:=row+2) (begin:=8*spot) (many:=3) (value:=size- 10) ∅ λav r U V O h4=>?_
   have Y:=gS (O.get (new (c:=AC.list [bG (row,0,1),bG (row,1,0)])) (λq=>q)) V (by rw [bf,jY];show 2+3<=1000;decide)
   refine K _ _ ?_ ⟨new,bE (ak.trans (ak.cU _ _) O),bo fP O.1⟩
   exists call DU λt=>t (gJ H) (iR Z) rfl J U Y
  ·rw [if_neg Z] at K
   refine tF (k:=k) (σ:=σ++[AC.list [bG (row,0,1),bG (row,1,1)]]) (row:=row+3) (begin:=0) (many:=8) (value:=size- 18) ∅ λav r U V O h4=>?_
   have Y:=gS (O.get (new (c:=AC.list [bG (row,0,1),bG (row,1,1)])) (λq=>q)) V (by rw [bf,jY];show 2+8<=1000;decide)
   refine K _ _ ?_ ⟨new,bE (ak.trans (ak.cU _ _) O),bo fP O.1⟩
   exists call DU λt=>t (gJ H) (gJ Z) rfl U Y
end
theorem EO{α:Type}(g:α->Int):∀l:List α,sM (l.map λx=>V.int (g x))=some (l.map g)
 |[]=>rfl
 |a::l=>congrArg (fu (g a:: ·)) (EO g l)
theorem aeW(a b:Int):fk .min2 [.int a,.int b] σ=some (.int (if b<a then b else a),σ):=rfl
noncomputable def Aw(aA:Int):Nat->Int->Int->Nat->Option (Int×Int×Nat)
 |0,_,_,_=>none
 |n+1,bH,low,wide=>if wide<=8 then if aA- 1>=low+2^wide then Aw aA n (bH+1) (low+2^wide) ((bH+1)/2- 1).toNat else some (bH,low,wide) else none
noncomputable def acf(w:Nat)(v:Int):List Int:=(bV w).map λt=>v/2^t%2*2^(w- 1- t)
theorem YX:∀d:Fin 129,1<=d.val->Aw d.val 200 0 0 0=some ((gf d.val).1,(gf d.val).2.2,(gf d.val).2.1.toNat)/\
  (acf (gf d.val).2.1.toNat (d.val- 1- (gf d.val).2.2)).sum=turn (gf d.val).2.1.toNat (d.val- 1- (gf d.val).2.2):=by decide+kernel
section
variable {k:Nat}{σ:AH}
theorem aiz{c:bc->M V}{body:bc->M (Fl×bc)}{r}(h:c ρ σ=some (.bool true,av))(J:body ρ av=some ((.next,mX),aC))(k:rG c body n mX aC=r):rG c body (n+1) ρ σ=r:=bC h (bC J k)
theorem aiy{c:bc->M V}{body:bc->M (Fl×bc)}(h:c ρ σ=some (.bool false,av)):rG c body (n+1) ρ σ=some ((.next,ρ),av):=bC h rfl
theorem Qm:∀(n:Nat) (bH low:Int) (wide:Nat) {s l:Int} {w:Nat},Aw aA n bH low wide=some (s,l,w)->
  rG (λρ=>xe φ ρ (.cmp .GtE (.bin .Sub (.var 0) (.const (.int 1))) (.bin .Add (.var 3) (.bin .Pow (.const (.int 2)) (.var 4))))) (λρ=>xb φ (.cons (.assign (.tup [3,2]) (.tup (.cons (.bin .Add (.var 3) (.bin .Pow (.const (.int 2)) (.var 4))) (.cons (.bin .Add (.var 2) (.const (.int 1))) .nil)))) (.cons (.assign (.var 4) (.prim .max2 (.cons (.const (.int 0)) (.cons (.bin .Sub (.bin .FloorDiv (.var 2) (.const (.int 2))) (.const (.int 1))) .nil)))) .nil)) ρ) n
   [some (.int aA),some (.int size),some (.int bH),some (.int low),some (.int (wide:Nat)),none,none] σ=some ((.next,[some (.int aA),some (.int size),some (.int s),some (.int l),some (.int (w:Nat)),none,none]),σ)
 |0,_,_,_,_,_,_,h=>by cases h
 |n+1,bH,low,wide,s,l,w,h=>by
  rw [Aw] at h
  by_cases O:wide<=8
  ·replace h:=(if_pos O)▸h
   have hp:=rm (x:=(wide:Int)) (n:=wide) rfl O
   by_cases q:aA- 1>=low+2^wide
   ·rw [if_pos q] at h
    have H:fk .max2 [.int 0,.int ((bH+1)/2- 1)] σ=some (.int ((((bH+1)/2- 1).toNat:Nat):Int),σ):=by
     show some (V.int (if(bH+1)/2- 1>0 then(bH+1)/2- 1 else 0),σ)=_
     rw [show(if(bH+1)/2- 1>0 then(bH+1)/2- 1 else 0)=((((bH+1)/2- 1).toNat:Nat):Int) by split<;>first|exact(be (iA ‹_›)).symm|exact congrArg Nat.cast (Int.toNat_eq_zero.mpr (ky.mp ‹_›)).symm]
    have J:intOp .FloorDiv (bH+1) 2=some ((bH+1)/2):=qM ∅
    refine aiz (mX:=[some (.int aA),some (.int size),some (.int (bH+1)),some (.int (low+2^wide)),some (.int ((((bH+1)/2- 1).toNat:Nat):Int)),none,none]) (aC:=σ) (av:=σ) ?_ ?_ (Qm n _ _ _ h)
    ·show xe φ _ _ σ=_
     exists expr λt=>t hp (AD q)
    ·show xb φ _ _ σ=_
     exists body λt=>t hp J H
   ·replace h:=(if_neg q)▸h
    cases h
    refine aiy ?_
    show xe φ _ _ σ=_
    exists expr λt=>t hp (AB q)
  ·replace h:=(if_neg O)▸h;cases h
theorem ahC{g:Nat->Int}(h:σ[r]?=some (.list ((bV n).map λi=>V.int (g i))))(H:((bV n).map g).sum=z):fk .sum [.ref r] σ=some (.int z,σ):=
 bI h ((congrArg (fu λxs:List Int=>(V.int xs.sum,σ)) (EO g _)).trans (H▸rfl))
theorem YY(O:1<=aA/\aA<=128)(hs:2<=size){G:Prop}(K:∀σ' r,am (ae (k+2)) 4078 [.int aA,.int size] σ=some (.ref r,σ')->qz σ r (jS aA size) σ'->G):G:=by
 have hS:=BP ⟨aA.toNat,(aq aX 0x10011810211040010228002100000101107 O (be (aa az 0x110000108002100000101107 O rfl)) rfl)⟩ (by show 1<=aA.toNat;exact(aq aX 0x11110101131020008002100000101107 O (jj _) rfl))
 have hA:=YX ⟨aA.toNat,(aq aX 0x10011810211040010228002100000101107 O (be (aa az 0x110000108002100000101107 O rfl)) rfl)⟩ (by show 1<=aA.toNat;exact(aq aX 0x11110101131020008002100000101107 O (jj _) rfl))
 rw [show(((⟨aA.toNat,(aq aX 0x10011810211040010228002100000101107 O (be (aa az 0x110000108002100000101107 O rfl)) rfl)⟩:Fin 129).val:Nat):Int)=aA by show((aA.toNat:Nat):Int)=aA;exact(aa aX 0x11101001022001022 (be (aa az 0x110000108002100000101107 O rfl)) rfl)] at hS hA
 unfold jS at K
 generalize gf aA=f at*
 obtain⟨bH,H,J⟩:=f
 dsimp only at hS hA K
 obtain⟨s1,s2,s3,Y,s5,s6,s7,s8,s9⟩:=hS
 obtain⟨hA,hB⟩:=hA
 obtain⟨U,rfl⟩:∃U:Nat,H=U:=⟨H.toNat,(aa aX 0x101011102002001022 (be (aa az 0x11000010000010 s3 rfl)) rfl)⟩
 rw [Ct] at hA hB K
 have hw:xs (ae (k+1)) (GY.stmt 1) [some (.int aA),some (.int size),some (.int 0),some (.int 0),some (.int 0),none,none] σ=_:=Qm (φ:=ae (k+1)) (σ:=σ) (size:=size) 200 0 0 0 hA
 have hL:(eV 0 (U:Nat)).length=U:=by rw [oT];exact(aa aJ 0x111011000500110250022 (be (bx au 0x100100250010 rfl)) rfl)
 have c1:=uZ (φ:=ae (k+1)) (σ:=σ) (ρ:=[some (.int aA),some (.int size),some (.int bH),some (.int J),some (.int (U:Nat)),none,none]) (s:=6)
  (e:=.bin .Mult (.bin .Mod (.bin .FloorDiv (.bin .Sub (.bin .Sub (.var 0) (.const (.int 1))) (.var 3)) (.bin .Pow (.const (.int 2)) (.var 6))) (.const (.int 2))) (.bin .Pow (.const (.int 2)) (.bin .Sub (.bin .Sub (.var 4) (.const (.int 1))) (.var 6)))) (l:=eV 0 (U:Nat)) (it:=.range (.cons (.var 4) .nil)) (λi=>.int ((aA- 1- J)/2^i%2*2^(U- 1- i)))
  (by
   exists iter λt=>t (nP (nA (aa au 0x1101100000000000b120021002100000000000b1231750110020 Y rfl)))
   ) (aq aJ 0x10113e80311030010550110020 Y hL rfl) (λi v e=>by
   obtain⟨rfl,Z⟩:=mD e
   have p1:=rm (x:=0+(i:Int)) (n:=i) (bx au 0x1100200200142 rfl) (aq aJ 0x11180111030010025102150110020 Y Z rfl)
   have p2:=rm (x:=(U:Int) - 1- (0+(i:Int))) (n:=U- 1- i) (aq dR 0x101010101100210200141011302552301011204520100045 (cG (aq bL 0x110120003101120410310203700110250021 Z (sN _ _) rfl)) (cG (aa aJ 0x11101011300110250021 Z rfl)) rfl) (bB dR 0x101011801110310112040030020373010420320103750110020 Y (sN _ _) (sN _ _) rfl)
   have q1:=vd (value:=aA- 1- J) (j:=i) (aq aJ 0x11180111030010025102150110020 Y Z rfl)
   have q2:intOp .Mod ((aA- 1- J)/2^i) 2=some ((aA- 1- J)/2^i%2):=li ∅
   have q3:intOp .Mult ((aA- 1- J)/2^i%2) (2^(U- 1- i))=some ((aA- 1- J)/2^i%2*2^(U- 1- i)):=nJ (.inl (nA (aa cF 0x1010001110000000000000000111200100100000000000000001112317200010201642201100170000107 (mI _ 2 ∅) rfl)))
   exists expr λt=>t p1 q1 q2 p2 q3
   )
 rw [hL] at c1
 have g1:(σ++[AC.list ((bV U).map λi=>V.int ((aA- 1- J)/2^i%2*2^(U- 1- i)))])[σ.length]?=some (.list ((bV U).map λi=>V.int ((aA- 1- J)/2^i%2*2^(U- 1- i)))):=new
 have G1:ak F0 σ (σ++[AC.list ((bV U).map λi=>V.int ((aA- 1- J)/2^i%2*2^(U- 1- i)))]):=ak.cU _ _
 generalize σ++[AC.list ((bV U).map λi=>V.int ((aA- 1- J)/2^i%2*2^(U- 1- i)))]=av at*
 have c2:=ahC g1 hB
 refine tF (k:=k) (σ:=av) (row:=6) (begin:=64*min (size- 2) 3) (many:=6) (value:=bH) ∅ λaC r2 d1 d2 d3 d4=>?_
 refine tF (k:=k) (σ:=aC) (row:=7) (begin:=J- bH) (many:=U) (value:=turn U (aA- 1- J)) (aa au 0x11801100350110020 Y rfl) λdH r3 e1 e2 e3 e4=>?_
 have aak:fk .min2 [.int (size- 2),.int 3] av=some (.int (min (size- 2) 3),av):=by
  rw [aeW,show(if 3<size- 2 then 3 else size- 2)=min (size- 2) 3 by split<;>first|exact(TM (iA ‹_›)).symm|exact(TZ (ky.mp ‹_›)).symm]
 have a1:=gS (e3.get d2 (λq=>q)) e2 (by rw [bf,bf,jY,jY];exact(aa au 0x113e80310060114350110020 Y rfl))
 refine K _ dH.length ?_ ⟨new.trans (congrArg (λl=>some (AC.list l)) ko.symm),bE ((G1.trans d3).trans e3),bo G1.1 (bo d3.1 e3.1)⟩
 exists call Yq λt=>t hw c1 c2 aak (fi rfl) d1 e1 a1
noncomputable def aK.isLit:aK->Bool
 |.lit=>true
 |_=>false
noncomputable def aK.ajj:aK->Bool
 |.dU=>true
 |_=>false
theorem ahs(st:aK):Internal.dX .NotEq st.v (.tup [.str 35]) σ=some (!st.isLit):=by cases st<;>rfl
theorem Li(a b c:AC):qz σ (σ++[a]++[b]++[c]).length l (σ++[a]++[b]++[c]++[AC.list (l.map bG)]):=⟨new,bE (bE (bE (bE (ak.refl _ _)))),bo fP (bo fP fP)⟩
theorem Vb{G:Prop}(K:∀σ' r,am (ae (k+1)) 4085 [aK.dU.v,.int state,.int spot] σ=some (.ref r,σ')->qz σ r [(1,state,1),(2,state,0),(5,16*state+spot,0)] σ'->G):G:=by
 refine K (σ++[AC.list ([((1:Nat),state,(1:Int)),(2,state,0),(5,16*state+spot,0)].map bG)]) σ.length ?_ ⟨new,ak.cU _ _,cY _⟩
 exists call Aq λt=>t rfl (fi rfl) rfl rfl rfl
theorem Va(Y:0<=i/\i<=3)(H:spot=bO pb place){G:Prop}(K:∀σ' r,am (ae (k+1)) 4085 [(aK.rep i s).v,.int state,.int spot] σ=some (.ref r,σ')->qz σ r ((1,state,1)::kG pb state place i) σ'->G):G:=by
 subst H
 unfold kG at K
 by_cases q:i=0
 ·rw [if_pos q] at K
  refine K (σ++[AC.list ([((1:Nat),state,(1:Int)),(2,state,0),(5,16*state+bO pb place,1)].map bG)]) σ.length ?_ ⟨new,ak.cU _ _,cY _⟩
  exists call Aq λt=>t rfl rfl (eqT q) (fi rfl) rfl rfl rfl
 ·rw [if_neg q] at K
  by_cases J:i=1
  ·rw [if_pos J] at K
   have O:¬i>1:=(aa az 0x11001011161011002 J rfl)
   have U:=Bp (c:=0) (new (σ:=σ++[AC.list ([((1:Nat),state,(1:Int)),(2,state,1),(3,state,0)].map bG)]) (c:=AC.list [bG (4,state,i- 2)])) ⟨lK rfl,by decide,by decide⟩
   have V:=gS (aN (l:=[AC.list []]) (aN (l:=[AC.list [bG (4,state,i- 2)]]) (new (σ:=σ) (c:=AC.list ([((1:Nat),state,(1:Int)),(2,state,1),(3,state,0)].map bG))))) (new (c:=AC.list [])) (lK rfl)
   refine K _ _ ?_ (Li (AC.list ([((1:Nat),state,(1:Int)),(2,state,1),(3,state,0)].map bG)) (AC.list [bG (4,state,i- 2)]) (AC.list []))
   exists call Aq λt=>t rfl rfl (gy q) rfl (gU O) rfl rfl rfl rfl rfl (gU O) rfl U V
  ·rw [if_neg J] at K
   have O:i>1:=by(first|lia|omega)
   have U:=Bp (c:=1) (new (σ:=σ++[AC.list ([((1:Nat),state,(1:Int)),(2,state,1),(3,state,1)].map bG)]) (c:=AC.list [bG (4,state,i- 2)])) ⟨lK rfl,by decide,by decide⟩
   have V:=gS (aN (l:=[AC.list [bG (4,state,i- 2)]]) (aN (l:=[AC.list [bG (4,state,i- 2)]]) (new (σ:=σ) (c:=AC.list ([((1:Nat),state,(1:Int)),(2,state,1),(3,state,1)].map bG))))) (new (c:=AC.list [bG (4,state,i- 2)])) (lK rfl)
   refine K _ _ ?_ (Li (AC.list ([((1:Nat),state,(1:Int)),(2,state,1),(3,state,1)].map bG)) (AC.list [bG (4,state,i- 2)]) (AC.list [bG (4,state,i- 2)]))
   exists call Aq λt=>t rfl rfl (gy q) rfl (nE O) rfl rfl rfl rfl rfl (nE O) rfl U V
end
structure eO where
 lc:Int
 lp:Int
 pb:Int
 state:Int
 ahead:Int
 place:Int
 text:List Int
 back:List Int
 steps:List aK
 tx:Nat
 bk:Nat
 st:Nat
noncomputable def OU(q:eO):AC:=.gX [(10,.tup [.int q.lc,.int q.lp,.int q.pb]),(33,.int q.state),(39,.int q.ahead),(40,.ref q.tx),(41,.ref q.bk),(32,.int q.place),(42,.ref q.st)]
structure eZ(σ:AH)(sc:Nat)(q:eO):Prop where
 o:σ[sc]?=some (OU q)
 tx:σ[q.tx]?=some (.list (q.text.map .int))
 bk:σ[q.bk]?=some (.list (q.back.map .int))
 st:σ[q.st]?=some (.list (q.steps.map aK.v))
theorem eZ.bW(h:eZ σ sc q)(F:ak F0 σ σ'):eZ σ' sc q:=⟨F.get h.o λx=>x,F.get h.tx λx=>x,F.get h.bk λx=>x,F.get h.st λx=>x⟩
noncomputable def eO.pt(q:eO)(place:Int):Pt:=⟨place,q.state,q.ahead,q.back⟩
theorem j8(h:σ[m]?=some (.gX l))(O:pY l x=some v):cP φ (.ref m) (.str x) σ=some (v,σ):=fQ (gV rfl (bI h (congrArg (fu λv=>(v,σ)) O)))
section
variable {φ:bK}{σ:AH}{sc:Nat}{q:eO}(h:eZ σ sc q)
include h
theorem eZ.FJ:cP φ (.ref sc) (.str 10) σ=some (.tup [.int q.lc,.int q.lp,.int q.pb],σ):=j8 h.o rfl
theorem eZ.state:cP φ (.ref sc) (.str 33) σ=some (.int q.state,σ):=j8 h.o rfl
theorem eZ.ahead:cP φ (.ref sc) (.str 39) σ=some (.int q.ahead,σ):=j8 h.o rfl
theorem eZ.text:cP φ (.ref sc) (.str 40) σ=some (.ref q.tx,σ):=j8 h.o rfl
theorem eZ.back:cP φ (.ref sc) (.str 41) σ=some (.ref q.bk,σ):=j8 h.o rfl
theorem eZ.place:cP φ (.ref sc) (.str 32) σ=some (.int q.place,σ):=j8 h.o rfl
theorem eZ.steps:cP φ (.ref sc) (.str 42) σ=some (.ref q.st,σ):=j8 h.o rfl
end
theorem U9{s:Int}(h:0<=s/\s<12):[V.int 0,.int 0,.int 0,.int 0,.int 1,.int 2,.int 3,.int 4,.int 5,.int 6,.int 4,.int 5][s.toNat]?=some (.int (kD s)):=by
 have:s=0\/s=1\/s=2\/s=3\/s=4\/s=5\/s=6\/s=7\/s=8\/s=9\/s=10\/s=11:=by(first|lia|omega)
 rcases this with rfl|rfl|rfl|rfl|rfl|rfl|rfl|rfl|rfl|rfl|rfl|rfl<;>rfl
noncomputable def jE(s:Int):Int:=if s>6 then 1 else 0
theorem E0(a b s:Int):a+b*jE s=if s<7 then a else a+b:=by
 unfold jE
 by_cases h:s<7
 ·rw [if_pos h,if_neg (ky.mpr (Int.le_of_lt_add_one h)),uw,uv]
 ·rw [if_neg h,if_pos (Int.lt_of_add_one_le (ky.mp h)),Int.mul_one]
noncomputable def XS.zT:XS->XB
 |.loop _ _ b=>b
 |_=>.nil
noncomputable def XS.thn:XS->XB
 |.bj _ a _=>a
 |_=>.nil
noncomputable def wV:XB:=(B9.stmt 2).zT
noncomputable def mh(sc:Nat)(b:Array UInt8)(q:eO)(p:Pt)(bk fn:Nat)(dm cW bS cJ bA bJ:Option V):bc:=
 [some (.ref sc),some (.int p.place),some (.bytes b),some (.int q.lc),some (.int q.lp),some (.int q.pb),some (.int p.state),some (.ref bk),some (.int p.at'),some (.ref fn),dm,cW,bS,cJ,bA,bJ]
section
variable {k:Nat}{σ:AH}{sc bk fn:Nat}{q:eO}{b:Array UInt8}{p:Pt}{F:List Ev}
theorem Pk(h:0<=q.pb/\q.pb<=4)(x:Int):intOp .Mod x (2^q.pb.toNat)=some (bO q.pb x):=li (g7 ∅)
theorem Ny{bk fn:Nat}{F:List Ev}{B:List Int}(O:σ[bk]?=some (.list (B.map .int)))(J:σ[fn]?=some (.list (F.map bG)))(U:B.length=4):bk≠fn:=by
 intro q
 subst q
 replace J:=O▸J
 have e:B.map V.int=F.map bG:=by injection J with J;injection J
 cases B with
 |nil=>exact absurd U ∅
 |cons b B=>cases F with
  |nil=>exact nomatch e
  |cons x F=>exact nomatch (rM e).1
noncomputable abbrev yM:List V:=[.int 0,.int 0,.int 0,.int 0,.int 1,.int 2,.int 3,.int 4,.int 5,.int 6,.int 4,.int 5]
theorem Bg{av aC:AH}{r:Nat}{e:Ev}{Z:List Ev}{B:List Int}(O:σ[bk]?=some (.list (B.map .int)))(V:σ[fn]?=some (.list (F.map bG)))(H:fn≠bk)(e1:av=σ.set fn (.list (F.map bG++[bG e])))(h:qz av r Z aC)(hl:F.length+Z.length<=990){G:Prop}
  (K:∀U,kZ .Add (.ref fn) (.ref r) aC=some (.ref aC.length,U)->(∀φ s,0<=s/\s<12->cP φ (.ref U.length) (.int s) (U++[AC.list yM])=some (.int (kD s),U++[AC.list yM]))->
   (U++[AC.list yM])[aC.length]?=some (.list ((F++e::Z).map bG))->(U++[AC.list yM])[bk]?=some (.list (B.map .int))->σ.length<=aC.length->ak (λm=>m=fn) σ (U++[AC.list yM])->G):G:=by
 subst e1
 have g1:=h.2.1.get (gH (c:=.list (F.map bG++[bG e])) V) (λx=>x)
 have g2:=h.2.1.get (iN (c:=.list (F.map bG++[bG e])) H O) (λx=>x)
 refine K _ (gS g1 h.1 (by rw [bZ,bf,bf,fW];exact(aa aJ 0x113e8031101011004433de031100043 hl rfl))) (λφ s J=>kN new ∅ ⟨J.1,J.2⟩ (U9 J)) ((aN new).trans ?_) (aN (aN g2)) (lN (as:=σ)▸h.2.1.1) (bE (bE ((ak.set (F:=λm=>m=fn) _ _ _ rfl).trans (h.2.1.wide λY x=>x.elim))))
 rw [ko,jk,iX];rfl
theorem VZ(O:0<=q.lc/\q.lc<=8/\0<=q.lp/\q.lp<=4/\0<=q.pb/\q.pb<=4)(Y:b.size<=1000)(hb:σ[bk]?=some (.list (p.B.map .int)))(hf:σ[fn]?=some (.list (F.map bG)))(hF:F.length<=900)(V':VS b p.place p.state p.B p.at' .lit)(cW bS cJ bA bJ:Option V){G:Prop}
  (K:∀σ' eQ aX cQ dQ jR fz,xb (ae (k+2)) wV (mh sc b q p bk fn (some aK.lit.v) cW bS cJ bA bJ) σ=some ((.next,mh sc b q (p.next .lit) bk eQ (some aK.lit.v) aX cQ dQ jR fz),σ')->
   σ'[eQ]?=some (.list ((F++aK.ev q.lc q.lp q.pb b p.place p.state p.B p.at' .lit).map bG))->σ'[bk]?=some (.list (p.B.map .int))->σ.length<=eQ->ak (λm=>m=fn) σ σ'->G):G:=by
 have J:1<=p.at'/\p.at'+1<=b.size:=V'.pC
 have hs:=V'.s
 have p1:intOp .Pow 2 q.pb=some (2^q.pb.toNat):=mz _ (aa cF 0x100000101000013e8031200200010740112002000107401110071000107801100070000107 O rfl)
 have p2:intOp .Pow 2 q.lp=some (2^q.lp.toNat):=mz _ (aa cF 0x1000100010013e8031100100010740112002000107401110071000107801100070000107 O rfl)
 have p3:intOp .Pow 2 q.lc=some (2^q.lc.toNat):=mz _ (aa cF 0x10100000113e8031000000010740112002000107401110071000107801100070000107 O rfl)
 have p4:intOp .Pow 2 (8- q.lc)=some (2^(8- q.lc).toNat):=mz _ (aa cF 0x1100001013e80310080115000801150010740112002000107401110071000107801100070000107 O rfl)
 have m1:=Pk (q:=q) ⟨O.2.2.2.2.1,O.2.2.2.2.2⟩ p.place
 have m2:intOp .Mod p.place (2^q.lp.toNat)=some (p.place%2^q.lp.toNat):=li (g7 ∅)
 have pl:=tG q.lc (aa cF 0x10100000118011000000010740112002000107401110071000107801100070000107 O rfl)
 have pl2:=tG (8- q.lc) (aa cF 0x11000010180110080115000801150010740112002000107401110071000107801100070000107 O rfl)
 have m3:∀x,intOp .Mult x (2^q.lc.toNat)=some (x*2^q.lc.toNat):=λx=>nJ (.inr (nA (aa az 0x10101110000000000000000111200100100000000000000001112317400000000810010000117 pl rfl)))
 have m4:∀x,intOp .FloorDiv x (2^(8- q.lc).toNat)=some (x/2^(8- q.lc).toNat):=λx=>qM pl2
 have m5:∀x,intOp .Mult 768 x=some (768*x):=λx=>fi rfl
 have m6:intOp .Mult 16 p.state=some (16*p.state):=fi rfl
 have H:=Bj (φ:=ae (k+2)) (v:=bG (0,16*p.state+bO q.pb p.place,0)) hf hf (by rw [bf];exact(aa au 0x113e8031003384031003 hF rfl))
 have U:=(Ny hb hf V'.B4).symm
 have f2:=iN (c:=.list (F.map bG++[bG (0,16*p.state+bO q.pb p.place,0)])) U hb
 generalize e1:σ.set fn (.list (F.map bG++[bG (0,16*p.state+bO q.pb p.place,0)]))=av at*
 have ho:=pP b p.at'
 have s1:∀φ,cP φ (.bytes b) (.int (p.at'- 1)) av=some (.int (oct b (p.at'- 1)),av):=λφ=>tQ Y (aa aX 0x101011102101100511011005001071021011004000101107 J rfl)
 have s2:∀φ σ,cP φ (.bytes b) (.int p.at') σ=some (.int (oct b p.at'),σ):=λφ σ=>tQ Y (aa aX 0x10101110200100001071021011004000101107 J rfl)
 unfold aK.ev litE at K
 by_cases z:p.state<7
 ·simp only [if_pos z] at K
  have z':¬p.state>6:=(aa az 0x11006011167011001 z rfl)
  by_cases Z:p.place>0
  ·simp only [if_pos Z] at K
   refine MY (k:=k) (σ:=av) (start:=i7 q.lc q.lp p.place (oct b (p.at'- 1))) ho λaC r h1 h2=>Bg hb hf U e1.symm h2 (by rw [ye];exact(aa au 0x113de03180110043384031003 hF rfl)) λdH t1 t2 t3 t4 t5 t6=>?_
   refine K _ aC.length (some (.int 0)) (some (.int (bO q.pb p.place))) (some (.int 1)) (some (.int (oct b (p.at'- 1)))) (some (.int (i7 q.lc q.lp p.place (oct b (p.at'- 1))))) ?_ t3 t4 t5 t6
   exists body λt=>t (gU z') rfl p1 m1 rfl (gy ∅) m6 rfl rfl H rfl (nE Z) (s1 _) p2 m2 p3 (m3 _) p4 (m4 _) (m5 _) (s2 _ _) (gy ∅) h1 t1 rfl (t2 _ _ hs)
  ·simp only [if_neg Z] at K
   refine MY (k:=k) (σ:=av) (start:=i7 q.lc q.lp p.place 0) ho λaC r h1 h2=>Bg hb hf U e1.symm h2 (by rw [ye];exact(aa au 0x113de03180110043384031003 hF rfl)) λdH t1 t2 t3 t4 t5 t6=>?_
   refine K _ aC.length (some (.int 0)) (some (.int (bO q.pb p.place))) (some (.int 1)) (some (.int 0)) (some (.int (i7 q.lc q.lp p.place 0))) ?_ t3 t4 t5 t6
   exists body λt=>t (gU z') rfl p1 m1 rfl (gy ∅) m6 rfl rfl H rfl (gU Z) p2 m2 p3 (m3 _) p4 (m4 _) (m5 _) (s2 _ _) (gy ∅) h1 t1 rfl (t2 _ _ hs)
 ·simp only [if_neg z] at K
  have z':p.state>6:=(aa az 0x11006011170110016 z rfl)
  have Ef:=V'.B0 (aa az 0x11007011070110016 z rfl)
  have sE:=V'.B4
  have s3:∀φ,cP φ (.ref bk) (.int 0) av=some (.int (p.B.getD 0 0),av):=λφ=>kN f2 (by rw [bf];exact(aa au 0x113e80310034011005 sE rfl)) ⟨qn _,by rw [bf];exact(aa au 0x10100200114011005 sE rfl)⟩ (by
   match p.B,sE with
   |[_,_,_,_],_=>rfl)
  have s4:∀φ,cP φ (.bytes b) (.int (p.at'- p.B.getD 0 0)) av=some (.int (oct b (p.at'- p.B.getD 0 0)),av):=λφ=>tQ Y (aq iB 0x1001100101202100051100050010700100101011072021011004000101107 J Ef rfl)
  by_cases Z:p.place>0
  ·simp only [if_pos Z] at K
   refine MZ (k:=k) (σ:=av) (start:=i7 q.lc q.lp p.place (oct b (p.at'- 1))) (m:=oct b (p.at'- p.B.getD 0 0)) ho (pP b _) λaC r h1 h2=>Bg hb hf U e1.symm h2 (by rw [Bf];exact(aa au 0x113de03180110043384031003 hF rfl)) λdH t1 t2 t3 t4 t5 t6=>?_
   refine K _ aC.length (some (.int 1)) (some (.int (bO q.pb p.place))) (some (.int 1)) (some (.int (oct b (p.at'- 1)))) (some (.int (i7 q.lc q.lp p.place (oct b (p.at'- 1))))) ?_ t3 t4 t5 t6
   exists body λt=>t (nE z') rfl p1 m1 rfl (gy ∅) m6 rfl rfl H rfl (nE Z) (s1 _) p2 m2 p3 (m3 _) p4 (m4 _) (m5 _) (s2 _ _) (eqT ∅) (s3 _) (s4 _) h1 t1 rfl (t2 _ _ hs)
  ·simp only [if_neg Z] at K
   refine MZ (k:=k) (σ:=av) (start:=i7 q.lc q.lp p.place 0) (m:=oct b (p.at'- p.B.getD 0 0)) ho (pP b _) λaC r h1 h2=>Bg hb hf U e1.symm h2 (by rw [Bf];exact(aa au 0x113de03180110043384031003 hF rfl)) λdH t1 t2 t3 t4 t5 t6=>?_
   refine K _ aC.length (some (.int 1)) (some (.int (bO q.pb p.place))) (some (.int 1)) (some (.int 0)) (some (.int (i7 q.lc q.lp p.place 0))) ?_ t3 t4 t5 t6
   exists body λt=>t (nE z') rfl p1 m1 rfl (gy ∅) m6 rfl rfl H rfl (gU Z) p2 m2 p3 (m3 _) p4 (m4 _) (m5 _) (s2 _ _) (eqT ∅) (s3 _) (s4 _) h1 t1 rfl (t2 _ _ hs)
end
section
variable {k:Nat}{σ σ':AH}{sc bk fn eK eQ:Nat}{q:eO}{b:Array UInt8}{place state at':Int}{B B':List Int}{F:List Ev}{st:aK}{cW bS cJ bA bJ:Option V}
theorem EZ(φ:Unit):fk .jU [.bool (decide (state>6))] σ=some (.int (jE state),σ):=by
 unfold jE
 by_cases z:state>6
 ·rw [if_pos z,decide_eq_true z];rfl
 ·rw [if_neg z,decide_eq_false z];rfl
theorem Dn(O:0<=q.pb/\q.pb<=4)(U:σ[bk]?=some (.list (B.map .int)))(J:σ[fn]?=some (.list (F.map bG)))(V:F.length<=900)(H:B.length=4){G:Prop}
  (K:∀av,iS (ae (k+2)) (.ref fn) 0 (λY=>some ([bG (0,16*state+bO q.pb place,1)],σ)) σ=some (.none,av)->intOp .Mult 16 state=some (16*state)->intOp .Pow 2 q.pb=some (2^q.pb.toNat)->intOp .Mod place (2^q.pb.toNat)=some (bO q.pb place)->
   av[fn]?=some (.list ((F++[(0,16*state+bO q.pb place,1)]).map bG))->av[bk]?=some (.list (B.map .int))->ak (λm=>m=fn) σ av->σ.length<=av.length->G):G:=by
 have Z:=Bj (φ:=ae (k+2)) (v:=bG (0,16*state+bO q.pb place,1)) J J (by rw [bf];exact(aa au 0x113e8031003384031003 V rfl))
 refine K _ Z (fi rfl) (mz _ (aa az 0x1010113e8031000000010740110000000107 O rfl)) (Pk O place) ?_ (iN (Ny U J H).symm U) (ak.set _ _ _ rfl) (kr (lN ..).symm)
 rw [ko];exact gH J
theorem uL{L:List Ev}(h:σ[J]?=some (.list (L.map bG)))(h':σ[U]?=some (.list (L'.map bG)))(V:L.length+L'.length<=1000){G:Prop}
  (K:∀av,kZ .Add (.ref J) (.ref U) σ=some (.ref σ.length,av)->av[σ.length]?=some (.list ((L++L').map bG))->ak F0 σ av->σ.length<=av.length->G):G:=by
 refine K _ (gS h h' (by rw [bf,bf];exact V)) ?_ (ak.cU _ _) fP
 rw [ko];exact new
theorem V0(hq:0<=q.pb/\q.pb<=4)(hb:σ[bk]?=some (.list (B.map .int)))(hf:σ[fn]?=some (.list (F.map bG)))(hF:F.length<=900)(V':VS b place state B at' (.ez f s)){G:Prop}
  (K:∀σ' eK eQ aX cQ dQ,xb (ae (k+2)) wV (mh sc b q ⟨place,state,at',B⟩ bk fn (some (aK.ez f s).v) cW bS cJ bA bJ) σ=some ((.next,mh sc b q ⟨place+s,lV state,at'+s,f::B.take 3⟩ eK eQ (some (aK.ez f s).v) aX cQ dQ bA bJ),σ')->
   σ'[eQ]?=some (.list ((F++kI q.pb state place f s).map bG))->σ'[eK]?=some (.list ((f::B.take 3).map .int))->σ.length<=eQ->ak (λm=>m=fn) σ σ'->G):G:=by
 have H:1<=f/\f<=128/\_:=V'.aA nofun
 have jx:2<=s/\s<=273:=V'.size nofun nofun
 have O:=V'.B4
 refine Dn (k:=k) (state:=state) (place:=place) hq hb hf hF O λav m1 m2 m3 m4 f1 f2 F1 Z=>?_
 have L3:=yd 10 (bO q.pb place) s
 have L5:=K3 s (d:=f) ⟨H.1,H.2.1⟩
 refine uL (L:=F++[(0,16*state+bO q.pb place,1)]) (L':=[(1,state,0)]) (aN (l:=[AC.list [bG (1,state,0)]]) f1) new (by rw [bZ,fW,fW];exact(aa au 0x113e80311011101100443384031003 hF rfl)) λaC A1 g1 G1 M1=>?_
 refine Nm (k:=k) (σ:=aC) (row:=10) (spot:=bO q.pb place) (size:=s) λdH r3 c1 c2=>?_
 refine uL (c2.2.1.get g1 λx=>x) c2.1 (by rw [bZ,bZ,fW,fW];exact(aq aJ 0x1113e80311010111011004443a011103384031003 hF L3 rfl)) λjn A2 h1 H1 M2=>?_
 refine YY (k:=k) (σ:=jn) (aA:=f) (size:=s) ⟨H.1,H.2.1⟩ jx.1 λnZ r5 d1 d2=>?_
 refine uL (d2.2.1.get h1 λx=>x) d2.1 (by rw [bZ,bZ,bZ,fW,fW];exact(bB bL 0x11113e80312010101110110044443b011203a011103384031003 hF L3 L5 rfl)) λU A3 j1 J1 M3=>?_
 have J:ak F0 av U:=(bE (ak.refl _ _)).trans (G1.trans (c2.2.1.trans (H1.trans (d2.2.1.trans J1))))
 have j2:=J.get f2 λx=>x
 have Ex:σ.length<=nZ.length:=bo Z ((bE (ak.refl F0 _)).trans (G1.trans (c2.2.1.trans (H1.trans d2.2.1)))).1
 have hl:intOp .Mult 3 (jE state)=some (3*jE state):=fi rfl
 have mq:7+3*jE state=lV state:=E0 7 3 state
 have s1:=nO (front:=true) (i:=3) (c:=3) (aN (l:=[AC.list [.int f]]) j2) ∅ (by rw [bf];exact(aa au 0x113e80310034011005 O rfl)) (by rw [bf,O];decide)
 have s2:=gS (aN (l:=[AC.list ((B.map V.int).take 3)]) (new (σ:=U) (c:=AC.list [.int f]))) new (by rw [mU,bf,fW];exact(aa au 0x113e8031001011433011003 (CI _ _) rfl))
 have j3:(U++[AC.list [.int f]]++[AC.list ((B.map V.int).take 3)]++[AC.list ([V.int f]++(B.map V.int).take 3)])[nZ.length]?=some (.list ((F++kI q.pb state place f s).map bG)):=by
  rw [aN (aN (aN j1))]
  unfold kI
  rw [iX,iX,iX];rfl
 refine K _ _ _ (some (.int (jE state))) (some (.int (bO q.pb place))) (some (.int s)) ?_ j3 (new.trans (by rw [jk,uu];rfl)) Ex (bE (bE (bE (F1.trans (J.wide λY x=>x.elim)))))
 rw [←mq]
 exists body λt=>t rfl (EZ ()) m3 m4 rfl rfl rfl m2 rfl rfl m1 rfl rfl rfl rfl A1 c1 A2 rfl d1 A3 hl rfl rfl s1 s2
end
section
variable {k:Nat}{σ σ':AH}{sc bk fn eK eQ:Nat}{q:eO}{b:Array UInt8}{place state at':Int}{B B':List Int}{F:List Ev}{st:aK}{cW bS cJ bA bJ:Option V}
theorem V1(hq:0<=q.pb/\q.pb<=4)(hb:σ[bk]?=some (.list (B.map .int)))(hf:σ[fn]?=some (.list (F.map bG)))(hF:F.length<=900)(V':VS b place state B at' (.rep f s)){G:Prop}
  (K:∀σ' eK eQ aX cQ dQ,xb (ae (k+2)) wV (mh sc b q ⟨place,state,at',B⟩ bk fn (some (aK.rep f s).v) cW bS cJ bA bJ) σ=some ((.next,mh sc b q ⟨place+s,lW state,at'+s,rC B f.toNat⟩ eK eQ (some (aK.rep f s).v) aX cQ dQ bA bJ),σ')->
   σ'[eQ]?=some (.list ((F++kK q.pb state place f s).map bG))->σ'[eK]?=some (.list ((rC B f.toNat).map .int))->σ.length<=eQ->ak (λm=>m=fn) σ σ'->G):G:=by
 have O:=V'.spot f s rfl
 have jx:2<=s/\s<=273:=V'.size nofun nofun
 have Z:=V'.B4
 refine Dn (k:=k) (state:=state) (place:=place) hq hb hf hF Z λav m1 m2 m3 m4 f1 f2 F1 abB=>?_
 have L2:=EN q.pb state place f
 have L5:=yd 14 (bO q.pb place) s
 refine Va (k:=k+1) (σ:=av) (i:=f) (s:=s) (state:=state) (pb:=q.pb) (place:=place) O rfl λaC r2 a1 a2=>?_
 refine uL (a2.2.1.get f1 λx=>x) a2.1 (by rw [bZ,fJ,fJ,rK];exact(aq aJ 0x1113e8031101110410110014004433011103384031003 hF L2 rfl)) λdH A1 g1 G1 M1=>?_
 refine Nm (k:=k) (σ:=dH) (row:=14) (spot:=bO q.pb place) (size:=s) λnZ r5 d1 d2=>?_
 refine uL (d2.2.1.get g1 λx=>x) d2.1 (by rw [bZ,bZ,fJ,fJ,rK];exact(bB bL 0x11113e803120101110410110014004443a0112033011103384031003 hF L2 L5 rfl)) λU A3 j1 J1 M3=>?_
 have J:ak F0 av U:=a2.2.1.trans (G1.trans (d2.2.1.trans J1))
 have j2:=J.get f2 λx=>x
 have Ex:σ.length<=nZ.length:=bo abB (a2.2.1.trans (G1.trans d2.2.1)).1
 have hl:intOp .Mult 3 (jE state)=some (3*jE state):=fi rfl
 have mq:8+3*jE state=lW state:=E0 8 3 state
 have H:(B.map V.int).length=4:=by rw [bf,Z]
 have s3:cP (ae (k+2)) (.ref bk) (.int f) U=some (.int (B.getD f.toNat 0),U):=kN j2 (aa au 0x113e80310034011005 H rfl) (aq aX 0x10101010011020010000107401110530110000000107 O H rfl) (by
  rw [eT,jI,iy (by exact(bB cQ 0x101001110204002022401110530110000000107 O Z (be (aa az 0x1100001030110000000107 O rfl)) rfl))];rfl)
 have hu:rC B f.toNat=B.getD f.toNat 0::(B.take f.toNat++B.drop (f.toNat+1)):=rfl
 replace K:=hu▸K
 generalize B.getD f.toNat 0=x at*
 have i1:=aN (l:=[AC.list [.int x]]) j2
 have t1:=nO (front:=true) (i:=f) (c:=f.toNat) i1 (aa az 0x101011f424005100000f424005130730110000000107 O rfl) (aa au 0x113e80310034011005 H rfl) (by exact H▸xf (aa az 0x1010114011000000010730110000000107 O rfl))
 have t2:=gS (aN (l:=[AC.list ((B.map V.int).take f.toNat)]) (new (σ:=U) (c:=AC.list [.int x]))) new (by rw [mU,fW];exact(aq aJ 0x1113e803110101143001034011005 H (wm _ _) rfl))
 have i3:=aN (l:=[AC.list ([V.int x]++(B.map V.int).take f.toNat)]) (aN (l:=[AC.list ((B.map V.int).take f.toNat)]) i1)
 have t3:=nO (front:=false) (i:=f+1) (c:=f.toNat+1) i3 (by exact(aa az 0x101011f4240051101100401011004f424005130730110000000107 O rfl)) (by exact(aa au 0x113e80310034011005 H rfl)) (by rw [H,xf (by exact(aa az 0x10101140111011004010110040010730110000000107 O rfl))];exact(aq cQ 0x110110011101120410500202210110041022 (be (aa az 0x111011004001030110000000107 O rfl)) (be (aa az 0x1100001030110000000107 O rfl)) rfl))
 have t4:=gS (aN (l:=[AC.list ((B.map V.int).drop (f.toNat+1))]) (new (σ:=U++[AC.list [.int x]]++[AC.list ((B.map V.int).take f.toNat)]) (c:=AC.list ([V.int x]++(B.map V.int).take f.toNat)))) new (by rw [bZ,mU,wl,fW];exact(bB dR 0x210113e8031201010114431011304204003002037001034011005 H (wm _ _) (sN _ _) rfl))
 have j3:(U++[AC.list [.int x]]++[AC.list ((B.map V.int).take f.toNat)]++[AC.list ([V.int x]++(B.map V.int).take f.toNat)]++[AC.list ((B.map V.int).drop (f.toNat+1))]++[AC.list ([V.int x]++(B.map V.int).take f.toNat++(B.map V.int).drop (f.toNat+1))])[nZ.length]?=some (.list ((F++kK q.pb state place f s).map bG)):=by
  rw [aN (aN (aN (aN (aN j1))))]
  unfold kK
  rw [iX,iX];rfl
 refine K _ _ _ (some (.int (jE state))) (some (.int (bO q.pb place))) (some (.int s)) ?_ j3 (new.trans (by rw [jk,ko,uu,CQ];rfl)) Ex (bE (bE (bE (bE (bE (F1.trans (J.wide λY x=>x.elim)))))))
 rw [←mq]
 exists body λt=>t rfl (EZ ()) m3 m4 rfl rfl rfl m2 rfl rfl m1 rfl rfl rfl rfl rfl a1 A1 d1 A3 hl rfl s3 rfl rfl t1 t2 rfl t3 t4
theorem V2(O:0<=q.pb/\q.pb<=4)(V:σ[bk]?=some (.list (B.map .int)))(hf:σ[fn]?=some (.list (F.map bG)))(hF:F.length<=900)(V':VS b place state B at' .dU){G:Prop}
  (K:∀σ' eQ aX cQ dQ,xb (ae (k+2)) wV (mh sc b q ⟨place,state,at',B⟩ bk fn (some aK.dU.v) cW bS cJ bA bJ) σ=some ((.next,mh sc b q ⟨place+1,lY state,at'+1,B⟩ bk eQ (some aK.dU.v) aX cQ dQ bA bJ),σ')->
   σ'[eQ]?=some (.list ((F++pZ q.pb state place).map bG))->σ'[bk]?=some (.list (B.map .int))->σ.length<=eQ->ak (λm=>m=fn) σ σ'->G):G:=by
 refine Dn (k:=k) (state:=state) (place:=place) O V hf hF V'.B4 λav m1 m2 m3 m4 f1 f2 F1 Z=>?_
 refine Vb (k:=k+1) (σ:=av) (state:=state) (spot:=bO q.pb place) λaC r2 a1 a2=>?_
 refine uL (a2.2.1.get f1 λx=>x) a2.1 (by rw [bZ,fW];show _+1+3<=1000;(first|lia|omega)) λU A1 j1 J M1=>?_
 have hl:intOp .Mult 2 (jE state)=some (2*jE state):=fi rfl
 have H:9+2*jE state=lY state:=E0 9 2 state
 refine K U aC.length (some (.int (jE state))) (some (.int (bO q.pb place))) (some (.int 1)) ?_ (j1.trans (by rw [iX];rfl)) (J.get (a2.2.1.get f2 λx=>x) λx=>x) (bo Z a2.2.1.1) (F1.trans ((a2.2.1.trans J).wide λY x=>x.elim))
 rw [←H]
 exists body λt=>t rfl (EZ ()) m3 m4 rfl (gy ∅) m2 rfl rfl m1 rfl rfl rfl rfl rfl a1 A1 hl
theorem V4(Z:0<=q.lc/\q.lc<=8/\0<=q.lp/\q.lp<=4/\0<=q.pb/\q.pb<=4)(Y:b.size<=1000)(O:σ[bk]?=some (.list (p.B.map .int)))(J:σ[fn]?=some (.list (F.map bG)))(U:F.length<=900)(V:VS b p.place p.state p.B p.at' st){G:Prop}
  (K:∀σ' eK eQ aX cQ dQ jR fz,xb (ae (k+2)) wV (mh sc b q p bk fn (some st.v) cW bS cJ bA bJ) σ=some ((.next,mh sc b q (p.next st) eK eQ (some st.v) aX cQ dQ jR fz),σ')->
   σ'[eQ]?=some (.list ((F++st.ev q.lc q.lp q.pb b p.place p.state p.B p.at').map bG))->σ'[eK]?=some (.list ((p.next st).B.map .int))->σ.length<=eQ->ak (λm=>m=fn) σ σ'->G):G:=by
 have H:0<=q.pb/\q.pb<=4:=Z.2.2.2.2
 cases st with
 |lit=>exact VZ (k:=k) (sc:=sc) Z Y O J U V cW bS cJ bA bJ λσ' eQ=>K σ' bk eQ
 |ez f s=>exact V0 (k:=k) (sc:=sc) (cW:=cW) (bS:=bS) (cJ:=cJ) (bA:=bA) (bJ:=bJ) H O J U V λσ' eK eQ aX cQ dQ=>K σ' eK eQ aX cQ dQ bA bJ
 |rep f s=>exact V1 (k:=k) (sc:=sc) (cW:=cW) (bS:=bS) (cJ:=cJ) (bA:=bA) (bJ:=bJ) H O J U V λσ' eK eQ aX cQ dQ=>K σ' eK eQ aX cQ dQ bA bJ
 |dU=>exact V2 (k:=k) (sc:=sc) (cW:=cW) (bS:=bS) (cJ:=cJ) (bA:=bA) (bJ:=bJ) H O J U V λσ' eQ aX cQ dQ=>K σ' bk eQ aX cQ dQ bA bJ
theorem V3(U:eZ σ sc q)(hq:0<=q.lc/\q.lc<=8/\0<=q.lp/\q.lp<=4/\0<=q.pb/\q.pb<=4)(ZI:b.size<=1000)(V':Vs b (q.pt place) q.steps)(hn:q.steps.length<=30){G:Prop}
  (K:∀σ' fn r bk,am (ae (k+3)) 4092 [.ref sc,.int place,.bytes b] σ=some (.tup [.ref fn,.ref r],σ')->σ'[fn]?=some (.list ((fZ q.lc q.lp q.pb b (q.pt place) q.steps).map bG))->
   σ'[r]?=some (.list [.int ((q.pt place).fin q.steps).place,.int ((q.pt place).fin q.steps).state,.ref bk])->σ'[bk]?=some (.list (((q.pt place).fin q.steps).B.map .int))->ak F0 σ σ'->G):G:=by
 have h0:(σ++[AC.list []])[σ.length]?=some (.list []):=new
 have Z:ak F0 σ (σ++[AC.list []]):=ak.cU _ _
 have J:eZ (σ++[AC.list []]) sc q:=U.bW Z
 have w1:=J.steps (φ:=ae (k+2))
 have w2:=J.st
 refine yT (φ:=ae (k+2)) (σ:=σ++[AC.list []]) (cZ:=σ++[AC.list []]) (ρ:=mh sc b q (q.pt place) q.bk σ.length none none none none none none) (s:=B9.stmt 2) (l:=q.steps.map aK.v) (ls:=q.st) rfl (by
   exists iter λt=>t w1 w2
   )
  (λi ρ σ'=>∀G:Prop,(∀bk fn dm cW bS cJ bA bJ,ρ=mh sc b q ((q.pt place).fin (q.steps.take i)) bk fn dm cW bS cJ bA bJ->σ'[fn]?=some (.list ((fZ q.lc q.lp q.pb b (q.pt place) (q.steps.take i)).map bG))->
   σ'[bk]?=some (.list (((q.pt place).fin (q.steps.take i)).B.map .int))->σ.length<=fn->ak F0 σ σ'->G)->G)
  (λY K=>K q.bk σ.length none none none none none none rfl h0 J.bk (cY _) Z)
  (λi ρ av hI=>hI _ λbk fn dm cW bS cJ bA bJ e g1 g2 g3 H=>bI (U.bW H).st rfl)
  (λi v ρ av gc hI G K=>hI G λbk fn dm cW bS cJ bA bJ e g1 g2 g3 H=>sY gc λst O hv=>?_)
  λaV σ' h1 h2=>h2 _ λbk fn dm cW bS cJ bA bJ e g1 g2 g3 H=>?_
 ·subst e hv
  have hi:i<q.steps.length:=(gC.mp O).1
  have V:=xx (lc:=q.lc) (lp:=q.lp) (pb:=q.pb) (V'.take i)
  rw [Sx (iI hi)] at V
  rw [Gz O,DZ,Ax] at K
  exact V4 (k:=k) (sc:=sc) (cW:=cW) (bS:=bS) (cJ:=cJ) (bA:=bA) (bJ:=bJ) hq ZI g2 g1 (bB bL 0x1702f1702f113840312031017026203001041e021003 hn hi V rfl) (V'.at O) λaC eK eQ aX cQ dQ jR fz f1 f2 f3 f4 f5=>
   K _ .next _ aC rfl f1 λG K=>K eK eQ (some st.v) aX cQ dQ jR fz rfl f2 f3 (bo H.1 f4) ⟨bo H.1 f5.1,λm hm Y=>(f5.2 m (bN hm H.1) (dW (bN hm g3))).trans (H.2 m hm λx=>x)⟩
 ·subst e
  rw [bf,Cz] at h1 g1 g2
  refine K (σ'++[AC.list [.int ((q.pt place).fin q.steps).place,.int ((q.pt place).fin q.steps).state,.ref bk]]) fn σ'.length bk ?_ (aN g1) new (aN g2) (bE H)
  have u1:=U.FJ (φ:=ae (k+2))
  have u2:=U.state (φ:=ae (k+2))
  have u3:=U.back (φ:=ae (k+2))
  have u4:=U.ahead (φ:=ae (k+2))
  exists call Yo λt=>t u1 u2 u3 u4 rfl h1 rfl
end
section
variable {φ:bK}{σ:AH}{ρ:bc}
theorem RQ{s:XS}{t:XT}{it:XI}{b:XB}{l:List V}{src:Src}{cZ:AH}(U:s=.loop t it b)(Z:xi φ ρ it σ=some (src,cZ))(hf:src.sC cZ=l.length+1)(I:Nat->bc->AH->Prop)(h0:I 0 ρ cZ)(hI:∀i ρ σ,I i ρ σ->src.jf σ i=some l[i]?)
  (H:∀i v ρ σ,l[i]?=some v->I i ρ σ->∀G:Prop,(∀O J aV σ',xt φ t v ρ σ=some (O,σ)->xb φ b O σ=some ((J,aV),σ')->vh J (I (i+1) aV σ') (λY=>False)->G)->G)
  {G:Prop} (K:∀aV σ',xs φ s ρ σ=some ((.next,aV),σ')->I l.length aV σ'->G):G:=
 Cb (Q:=λY Y=>False) U Z hf h0 hI H K λY Y Y Y h=>h.elim
end
noncomputable def lG(D:Nat->DD)(e:Ev):Nat->DD:=upd D e.1 (fT (D e.1) e.2.1 (iT (getm (D e.1) e.2.1) e.2.2))
noncomputable def dc(l:List Ev):Nat->DD:=l.foldl lG λY=>[]
def C5(e:Ev):Prop:=e.1<18/\(e.2.2=0\/e.2.2=1)
inductive Uy(σ:AH)(lo r:Nat)(E:Nat->DD):Prop
 |mk (T:List Nat) (l:T.length=18) (e:σ[r]?=some (.list (T.map .ref))) (f:∀(j t:Nat),T[j]?=some t->σ[t]?=some (AC.bQ (dV (E j)))/\lo<=t)
def oh(σ:AH)(lo r:Nat)(E:Nat->DD):Prop:=lo<=r/\Uy σ lo r E
theorem oh.bW{F:Nat->Prop}{lo:Nat}{E:Nat->DD}(h:oh σ lo r E)(x:ak F σ σ')(J:∀m,F m->m<lo):oh σ' lo r E:=by
 obtain⟨H,T,U,V,O⟩:=h
 exact⟨H,T,U,x.get V λq=>by have:=J _ q;exact(aq aJ 0x1180010410003 H this rfl),λj t e=>⟨x.get (O j t e).1 λq=>gQ.mpr (O j t e).2 (J _ q),(O j t e).2⟩⟩
theorem Kf:∀(l:List Ev) (j:Nat),(dc l j).length<=l.length:=by
 intro l j
 have:∀(l:List Ev) (D:Nat->DD) (n:Nat),(∀j,(D j).length<=n)->(l.foldl lG D j).length<=n+l.length:=by
  intro l
  induction l with
  |nil=>intro D n h;exact h j
  |cons e l H=>
   intro D n h
   have:=H (lG D e) (n+1) (λj=>by
    unfold lG upd
    split
    ·have:=Gj e.2.1 (iT (getm (D e.1) e.2.1) e.2.2) (D e.1)
     have:=h e.1;(first|lia|omega)
    ·have:=h j;exact(aa aJ 0x11101110400310003 this rfl))
   rw [wq,fJ]
   exact(aa bL 0x1110112041040032010111044003 this rfl)
 have:=this l (λY=>[]) 0 (λY=>cY _)
 unfold dc;exact(aa aJ 0x1110003100014003 this rfl)
section
variable {k:Nat}{σ:AH}
theorem Xh(hl:σ[ls]?=some (.list (l.map bG)))(hE:∀e∈l,C5 e)(hn:l.length<=900){G:Prop}
  (K:∀σ' r,am (ae (k+1)) 4097 [.ref ls] σ=some (.ref r,σ')->oh σ' σ.length r (dc l)->ak F0 σ σ'->G):G:=by
 have Lo:(eV 0 18).length=18:=by rw [oT];rfl
 refine DL (φ:=ae k) (σ:=σ) (cZ:=σ) (ρ:=[some (.ref ls),none,none,none,none,none]) (s:=1) (e:=.oA) (it:=.range (.cons (.const (.int 18)) .nil)) (l:=eV 0 18)
  (by
   exists iter λt=>t rfl
   ) (by rw [Lo];decide) (λi acc σ'=>σ'=σ++dO i (.bQ [])/\acc=(bV i).map λj=>.ref (σ.length+j)) ⟨(qd _).symm,rfl⟩
  (λi v acc σ' e h G K=>K (.ref (σ.length+i)) (σ++dO (i+1) (.bQ [])) (by rw [h.1,List.replicate_succ',←iX,show σ.length+i=(σ++dO i (AC.bQ [])).length by rw [bZ,Ht]];rfl) ⟨rfl,by rw [h.2,CC,ko];rfl⟩) λacc cZ c1 c2 c3=>?_
 rw [Lo] at c3
 rw [c3.1,c3.2] at c2
 have J:∀j,j<18->(σ++dO 18 (AC.bQ [])++[AC.list ((bV 18).map λj=>V.ref (σ.length+j))])[σ.length+j]?=some (.bQ []):=λj O=>by
  refine aN ?_
  rw [yV (by exact(bx aJ 0x110004003 rfl)),Hj,if_pos (by exact(aq bL 0x1011120211040020420104512021004 O (cG (bx aJ 0x110004003 rfl)) rfl))]
 have iO:(σ++dO 18 (AC.bQ [])).length=σ.length+18:=by rw [bZ,Ht]
 have H:=new (σ:=σ++dO 18 (AC.bQ [])) (c:=.list ((bV 18).map λj=>V.ref (σ.length+j)))
 rw [iO] at c2 H
 have FF:ak F0 σ (σ++dO 18 (AC.bQ [])++[AC.list ((bV 18).map λj=>V.ref (σ.length+j))]):=bE (ak.cU _ _)
 generalize σ++dO 18 (AC.bQ [])++[AC.list ((bV 18).map λj=>V.ref (σ.length+j))]=av at*
 have xG:=FF.get hl (λx=>x)
 refine yT (φ:=ae k) (σ:=av) (cZ:=av) (ρ:=[some (.ref ls),none,some (.ref (σ.length+18)),none,none,none]) (s:=GX.stmt 1) (l:=l.map bG) (ls:=ls) rfl (by
   exists iter λt=>t xG
   )
  (λi ρ σ'=>∀G:Prop,(∀a1 a3 a4 a5,ρ=[some (.ref ls),a1,some (.ref (σ.length+18)),a3,a4,a5]->σ'[σ.length+18]?=some (.list ((bV 18).map λj=>V.ref (σ.length+j)))->
   (∀j,j<18->σ'[σ.length+j]?=some (.bQ (dV (dc (l.take i) j))))->ak F0 σ σ'->G)->G)
  (λY K=>K none none none none rfl H J FF)
  (λi ρ aC hI=>hI _ λa1 a3 a4 a5 e g1 U Z=>bI (Z.get hl λx=>x) rfl)
  (λi v ρ aC gc hI G K=>hI G λa1 a3 a4 a5 e' g1 U Z=>sY gc λe he hv=>?_)
  λaV σ' h1 h2=>h2 _ λa1 a3 a4 a5 e' g1 U Z=>?_
 ·subst e' hv
  have ok:=hE e (rR he)
  have hi:i<l.length:=(gC.mp he).1
  have vp:=Kf (l.take i) e.1
  rw [mU] at vp
  have et:dc (l.take (i+1))=lG (dc (l.take i)) e:=by unfold dc;rw [D8 _ _ he]
  have O:=U e.1 ok.1
  have s1:∀φ,cP φ (.ref (σ.length+18)) (.int (e.1:Nat)) aC=some (.ref (σ.length+e.1),aC):=λφ=>kN g1 (by rw [bf,gO];decide) (by have:=ok.1;rw [bf,gO];exact(aa au 0x110112021200210020010712021004 this rfl)) (Op (g:=λj=>V.ref (σ.length+j)) ok.1)
  generalize dc (l.take i)=D at*
  have Z1:(jy (dV (D e.1)) e.2.1).getD (.int 1024)=.int (getm (D e.1) e.2.1):=by rw [A0];unfold getm;cases gG (D e.1) e.2.1<;>rfl
  have hg:=Nh (φ:=ae k) (k:=e.2.1) (d:=.int 1024) O O
  rw [Z1] at hg
  have hs:=BK (φ:=ae k) (k:=e.2.1) (v:=.int (iT (getm (D e.1) e.2.1) e.2.2)) O (by unfold dV;rw [bf];exact(gI dR 0x111113e8031203103033020300104384031003 hn hi vp (CI _ _) rfl))
  rw [xU] at hs
  refine K [some (.ref ls),some (.int (e.1:Nat)),some (.ref (σ.length+18)),some (.int e.2.1),some (.int e.2.2),a5] .next _ (aC.set (σ.length+e.1) (.bQ (dV (fT (D e.1) e.2.1 (iT (getm (D e.1) e.2.1) e.2.2))))) rfl ?_
   λG K=>K (some (.int (e.1:Nat))) (some (.int e.2.1)) (some (.int e.2.2)) (some (.int (getm (D e.1) e.2.1))) rfl (iN (by have:=ok.1;exact(aa aJ 0x11012021104001045612021004 this rfl)) g1) (λj Z7=>?_) ⟨by rw [lN];exact Z.1,λm hm Y=>(qw (aa bL 0x10100201045610004 hm rfl)).trans (Z.2 m hm λx=>x)⟩
  ·have d1:∀x,intOp .FloorDiv x 32=some (x/32):=λx=>qM ∅
   unfold iT at hs⊢
   rcases ok.2 with q|q
   ·rw [q] at hs⊢
    exists body λt=>t (s1 _) hg (gy ∅) (d1 _) (s1 _) hs
   ·rw [q] at hs⊢
    exists body λt=>t (s1 _) hg (eqT ∅) (d1 _) (s1 _) hs
  ·rw [et]
   unfold lG upd
   by_cases z:j=e.1
   ·rw [if_pos z,z];exact gH O
   ·rw [if_neg z];exact iN (by(first|lia|omega)) (U j Z7)
 ·subst e'
  rw [bf,Cz] at U
  refine K σ' (σ.length+18) ?_ ⟨ki ..,(bV 18).map λj=>σ.length+j,by rw [bf,gO],by rw [g1,qj];rfl,λj t e=>?_⟩ Z
  ·exists call Yp λt=>t c2 h1
  ·exact sY e λa ha hv=>by
    obtain⟨nH,rfl⟩:=gC.mp ha
    rw [gO] at nH
    rw [hv,HD]
    exact⟨U j nH,ki ..⟩
theorem De{R:MR}{L:List V}(h:σ[J]?=some (.list ((bV n).map λj=>V.ref (R.rr j))))(H:(bV n).map (λj=>V.ref (R.rr j))++L=(bV m).map λj=>V.ref (R.rr j))(O:n+L.length<=1000){G:Prop}
  (K:∀av,kZ .Add (.ref J) (.ref σ.length) (σ++[AC.list L])=some (.ref (σ++[AC.list L]).length,av)->av[(σ++[AC.list L]).length]?=some (.list ((bV m).map λj=>V.ref (R.rr j)))->ak F0 σ av->σ.length<=(σ++[AC.list L]).length->G):G:=
 K _ (gS (aN h) new (by rw [bf,gO];exact O)) (H▸new) (bE (ak.cU _ _)) fP
theorem afF{R:MR}{D:Nat->DD}(M:iK R D σ){G:Prop}(K:∀σ' r,am (ae (k+1)) 4104 [.ref R.m] σ=some (.ref r,σ')->σ'[r]?=some (.list ((bV 18).map λj=>V.ref (R.rr j)))->ak F0 σ σ'->σ.length<=r->G):G:=by
 have J:=M.m
 have g1:(σ++[AC.list [.ref (R.rr 0),.ref (R.rr 1),.ref (R.rr 2),.ref (R.rr 3),.ref (R.rr 4),.ref (R.rr 5)]])[σ.length]?=some (.list ((bV 6).map λj=>V.ref (R.rr j))):=new
 have H:=aN (l:=[AC.list [.ref (R.rr 0),.ref (R.rr 1),.ref (R.rr 2),.ref (R.rr 3),.ref (R.rr 4),.ref (R.rr 5)]]) J
 refine De (m:=10) (L:=[.ref (R.rr 6),.ref (R.rr 7),.ref (R.rr 8),.ref (R.rr 9)]) g1 rfl (lK rfl) λaC A1 g2 F2 L2=>?_
 have FF:=(ak.cU (F:=F0) σ _).trans F2
 have Z:=FF.get J (λx=>x)
 refine mF (φ:=ae k) (σ:=aC) (cZ:=aC) (s:=G0.stmt 2) (l:=[.ref R.l1,.ref R.l2]) (ρ:=[some (.ref R.m),some (.ref _),none]) rfl (by
   exists iter λt=>t Z Z
   )
  (λi ρ σ'=>∀G:Prop,(∀r a,ρ=[some (.ref R.m),some (.ref r),a]->σ'[r]?=some (.list ((bV (10+4*i)).map λj=>V.ref (R.rr j)))->ak F0 σ σ'->σ.length<=r->G)->G)
  (λY K=>K _ none rfl g2 FF (bo fP L2)) (λi v ρ dH hv hI G K=>hI G λr a e e1 O e3=>?_) λaV σ' h1 h2=>h2 _ λr a e e1 O e3=>?_
 ·subst e
  cases i with
  |zero=>
   cases hv
   have l1:=O.get M.l1 λx=>x
   refine De (m:=14) (L:=[.ref (R.rr 10),.ref (R.rr 11),.ref (R.rr 12),.ref (R.rr 13)]) e1 rfl (lK rfl) λU A3 g3 F3 L3=>?_
   refine K _ .next _ U rfl ?_ λG K=>K _ (some (.ref R.l1)) rfl g3 (O.trans F3) (bo O.1 L3)
   exists body λt=>t l1 l1 l1 l1 rfl A3
  |succ i=>
   cases i with
   |succ i=>exact absurd hv nofun
   |zero=>
   cases hv
   have l1:=O.get M.l2 λx=>x
   refine De (m:=18) (L:=[.ref (R.rr 14),.ref (R.rr 15),.ref (R.rr 16),.ref (R.rr 17)]) e1 rfl (lK rfl) λU A3 g3 F3 L3=>?_
   refine K _ .next _ U rfl ?_ λG K=>K _ (some (.ref R.l2)) rfl g3 (O.trans F3) (bo O.1 L3)
   exists body λt=>t l1 l1 l1 l1 rfl A3
 ·subst e
  refine K σ' r ?_ e1 O e3
  exists call Yu λt=>t J J J J J J rfl H H H H rfl A1 h1
end
structure Wf(D:DD)(c:Int):Prop where
 nd:(D.map (·.1)).Nodup
 rng:∀p∈D,0<=p.1/\p.1<c
theorem Gk:∀{D:DD},(∀p∈D,p.1≠k)->fT D k v=D++[(k,v)]
 |[],_=>rfl
 |(H,v')::r,h=>by
  unfold fT
  rw [if_neg (h (H,v') (by simp)),Gk λp hp=>h p (by simp [hp])];rfl
theorem K9(H:(D.map (·.1)).Nodup)(h:(k,v)∈D):gG D k=some v:=by
 induction D with
 |nil=>cases h
 |cons p r O=>
  obtain⟨J,v'⟩:=p
  rw [jk,iz] at H
  unfold gG
  rw [T8]
  rcases eJ.mp h with q|q
  ·cases q;simp
  ·have:¬J=k:=λz=>H.1 (z▸mQ (f:=(·.1)) q)
   have:(J==k)=false:=by simpa using this
   simp only [this]
   exact O H.2 q
theorem ab8(h:gG D k=some v):(k,v)∈D:=by
 unfold gG at h
 cases e:D.find? (λp=>p.1==k) with
 |none=>rw [e] at h;cases h
 |some p=>
  rw [e] at h
  cases h
  have:=G9 e
  have q:=HW e
  simp at q
  subst q;exact this
theorem Zi(H:(D.map (·.1)).Nodup)(h:(k,v)∈D):getm D k=v:=by unfold getm;rw [K9 H h];rfl
noncomputable def gY(D:DD)(n:Nat):DD:=((bV n).filter λ(j:Nat)=>decide (getm D (j:Int)≠1024)).map λ(j:Nat)=>((j:Int),getm D (j:Int))
theorem ah4(D:DD)(n:Nat):gY D (n+1)=gY D n++(if getm D n≠1024 then[((n:Int),getm D n)] else[]):=by
 unfold gY
 rw [CC,List.filter_append,ko]
 congr 1
 by_cases h:getm D n=1024<;>simp [h]
theorem PP(h:p∈gY D n):0<=p.1/\p.1<n/\p.2=getm D p.1/\p.2≠1024:=by
 unfold gY at h
 obtain⟨j,H,rfl⟩:=jN.mp h
 have:=CD.mp H
 simp at this
 exact⟨by simp,by simpa using this.1,rfl,this.2⟩
noncomputable def lC(c:Int)(D:DD):DD:=if c<=64 then gY D c.toNat else D
theorem DX(n:Nat):∀l l':List Int,l.length=l'.length->nu (i8 (n+1) σ) (l.map .int) (l'.map .int)=some (decide (l=l'))
 |[],[],_=>rfl
 |a::l,b::l',h=>
  (bI (o:=i8 (n+1) σ (.int a) (.int b)) (a:=a==b) rfl (congrArg (fu λy=>(a==b)&&y) (DX n l l' (rO h)))).trans (congrArg some ((Bool.decide_and ..).symm.trans (decide_eq_decide.mpr List.cons_eq_cons.symm)))
section
variable {k:Nat}{σ:AH}
theorem WR{a b:Nat}{l l':List Int}(J:σ[a]?=some (.list (l.map .int)))(O:σ[b]?=some (.list (l'.map .int)))(H:a≠b)(V:l.length=l'.length):Internal.dX .NotEq (.ref a) (.ref b) σ=some (!decide (l=l')):=
 congrArg (fu not) (show sq σ (.ref a) (.ref b)=some (decide (l=l')) from gV rfl ((if_pos H).trans (fQ (bI J (bI O ((if_pos (by rw [bf,bf];exact V)).trans (DX 2 l l' V)))))))
theorem ah5{a1:Option V}(hφ:∀σ' i,cD σ' r d c D->0<=i/\i<c->cP φ (.ref r) (.int i) σ'=some (.int (getm D i),σ'))(hc:¬c<=64)(hR:cD σ r d c D)(W:Wf D c)(hD:D.length<=900)(ht:σ[t]?=some (.bQ []))(hr:r≠t)(hd:d≠t){G:Prop}
  (K:∀σ' U,xs φ (.loop (.var 4) (.val (.attr (.var 2) 1)) (.cons (.assign (.sub (.var 3) (.var 4)) (.sub (.var 2) (.var 4))) .nil)) [a0,a1,some (.ref r),some (.ref t),a4,a5] σ=some ((.next,[a0,a1,some (.ref r),some (.ref t),U,a5]),σ')->σ'[t]?=some (.bQ (dV D))->ak (λj=>j=t) σ σ'->G):G:=by
 have H:=hR
 unfold cD at H
 rw [if_neg hc] at H
 have Zw:=H.1
 have Ls:=H.2.1
 have vp:(dV D).length=D.length:=bf ..
 refine RQ (φ:=φ) (σ:=σ) (cZ:=σ) (ρ:=[a0,a1,some (.ref r),some (.ref t),a4,a5]) (src:=.keys d (dV D).length) (l:=D.map λp=>.int p.1)
  (s:=.loop (.var 4) (.val (.attr (.var 2) 1)) (.cons (.assign (.sub (.var 3) (.var 4)) (.sub (.var 2) (.var 4))) .nil)) rfl
  (by
   exists iter λt=>t Zw Ls
   ) (by rw [bf,←vp];rfl)
  (λi ρ σ'=>∀G:Prop,(∀U,ρ=[a0,a1,some (.ref r),some (.ref t),U,a5]->σ'[t]?=some (.bQ (dV (D.take i)))->ak (λj=>j=t) σ σ'->G)->G)
  (λY K=>K a4 rfl ht (ak.refl _ _))
  (λi ρ av hI=>hI _ λU e Z g2=>bI (g2.get Ls hd) ((if_pos rfl).trans (congrArg some (by rw [dV,eT,eT,Ud];rfl))))
  (λi v ρ av gc hI G K=>hI G λU e' Z g2=>sY gc λp e hv=>?_)
  λaV σ' h1 h2=>h2 _ λU e' Z g2=>?_
 ·subst e' hv
  obtain⟨k',v'⟩:=p
  have J:=rR e
  have hs:=hφ av k' (g2.row hR hr hd) (W.rng _ J)
  rw [Zi W.nd J] at hs
  have hi:i<D.length:=(gC.mp e).1
  have Ey:fT (D.take i) k' v'=D.take (i+1):=by
   rw [Gz e]
   refine Gk λp hp q=>?_
   have fO:=W.nd
   have Eh:D=D.take i++(k',v')::D.drop (i+1):=by
    have:=List.take_append_drop i D
    rw [List.drop_eq_getElem_cons hi,(gC.mp e).2] at this
    exact this.symm
   rw [Eh,ko,jk] at fO
   exact(Tw.mp fO).2.2 p.1 (mQ (f:=(·.1)) hp) k' (gh ..) q
  have O:=BK (φ:=φ) (k:=k') (v:=.int v') Z (by unfold dV;rw [bf,mU];exact(bB bL 0x11113e80312031020300104384031003 hD hi (CI _ _) rfl))
  rw [xU,Ey] at O
  refine K _ .next _ (av.set t (.bQ (dV (D.take (i+1))))) rfl ?_ λG K=>K (some (.int k')) rfl (gH Z) (pD rfl g2)
  exists body λt=>t hs O
 ·subst e'
  rw [bf,Cz] at Z
  exact K σ' U h1 Z g2
theorem ah7{a1:Option V}(hc:0<=c/\c<=64)(hR:σ[r]?=some (.list (jh c D)))(ht:σ[t]?=some (.bQ []))(hr:r≠t){G:Prop}
  (K:∀σ' J O,xs φ (.loop (.tup [4,5]) (.gv (.var 2)) (.cons (.bj (.cmp .NotEq (.var 5) (.const (.int 1024))) (.cons (.assign (.sub (.var 3) (.var 4)) (.var 5)) .nil) .nil) .nil)) [a0,a1,some (.ref r),some (.ref t),a4,a5] σ=some ((.next,[a0,a1,some (.ref r),some (.ref t),J,O]),σ')->σ'[t]?=some (.bQ (dV (gY D c.toNat)))->ak (λj=>j=t) σ σ'->G):G:=by
 refine RQ (φ:=φ) (σ:=σ) (cZ:=σ) (ρ:=[a0,a1,some (.ref r),some (.ref t),a4,a5]) (src:=.gv r) (l:=(bV c.toNat).map λ(i:Nat)=>.tup [.int (i:Int),.int (getm D (i:Int))])
  (s:=.loop (.tup [4,5]) (.gv (.var 2)) (.cons (.bj (.cmp .NotEq (.var 5) (.const (.int 1024))) (.cons (.assign (.sub (.var 3) (.var 4)) (.var 5)) .nil) .nil) .nil)) rfl
  (by
   exists iter λt=>t hR
   ) (by
   show(ie σ r λl=>some (l.length+1)).getD 0=_
   rw [show(ie σ r λl=>some (l.length+1))=some ((jh c D).length+1) from bI hR rfl,bf,gO];exact congrArg (· +1) (yG c D))
  (λi ρ σ'=>∀G:Prop,(∀J O,ρ=[a0,a1,some (.ref r),some (.ref t),J,O]->σ'[t]?=some (.bQ (dV (gY D i)))->ak (λj=>j=t) σ σ'->G)->G)
  (λY K=>K a4 a5 rfl ht (ak.refl _ _))
  (λi ρ av hI=>hI _ λJ O e U Z=>bI (Z.get hR hr) (congrArg some (by
   unfold jh
   rw [eT,eT,Ud]
   rcases ux i c.toNat with q|q
   ·rw [mS q];rfl
   ·rw [qv (by rw [gO];exact q)];rfl)))
  (λi v ρ av gc hI G K=>hI G λJ O e' U Z=>sY gc λp e hv=>?_)
  λaV σ' h1 h2=>h2 _ λJ O e' U Z=>?_
 ·subst e' hv
  obtain⟨q,rfl⟩:=gC.mp e
  rw [gO] at q
  rw [HD] at K
  have hs:=ah4 D i
  by_cases z:getm D (i:Int)=1024
  ·rw [if_neg (λh=>h z),qd] at hs
   refine K [a0,a1,some (.ref r),some (.ref t),some (.int (i:Int)),some (.int (getm D (i:Int)))] .next _ av rfl ?_ λG K=>K (some (.int (i:Int))) (some (.int (getm D (i:Int)))) rfl (hs▸U) Z
   exists body λt=>t (tn z)
  ·rw [if_pos z] at hs
   have Ey:fT (gY D i) (i:Int) (getm D (i:Int))=gY D (i+1):=by
    rw [hs]
    exact Gk λp hp w=>by have:=PP hp;exact(aq jt 0x1000108400031102620102730200170000107302002 w this rfl)
   have iO:(gY D i).length<=i:=by
    unfold gY
    rw [bf]
    exact bo (SE _ _) (kr gO)
   have H:=BK (φ:=φ) (k:=(i:Int)) (v:=.int (getm D (i:Int))) U (by unfold dV;rw [bf];exact(gI dQ 0x10110113e80313030020221030320104400210000000107 hc q iO (be (aa az 0x11000010400210000000107 hc rfl)) rfl))
   rw [xU,Ey] at H
   refine K [a0,a1,some (.ref r),some (.ref t),some (.int (i:Int)),some (.int (getm D (i:Int)))] .next _ (av.set t (.bQ (dV (gY D (i+1))))) rfl ?_ λG K=>K (some (.int (i:Int))) (some (.int (getm D (i:Int)))) rfl (gH U) (pD rfl Z)
   exists body λt=>t (neT z) H
 ·subst e'
  rw [bf,gO] at U
  exact K σ' J O h1 U Z
theorem aaV(h:σ[r]?=some (.list l)):fk .qV [.ref r] σ=some (.bool false,σ):=fQ (bI h rfl)
theorem aaW(h:σ[r]?=some (.obj 104 l)):fk .qV [.ref r] σ=some (.bool true,σ):=gV (bI h rfl) (bI h rfl)
theorem E1(h:σ[r]?=some (.list l))(V:l.length<=1000):fk .len [.ref r] σ=some (.int l.length,σ):=fQ (bI h (if_pos V))
theorem ah9{r d O:Nat}{T:List Nat}{c:Int}{D:DD}{a0 a3 a4 a5:Option V}(hc:0<=c)(hR:cD σ r d c D)(W:Wf D c)(hD:D.length<=900)(hL:σ[O]?=some (.list (T.map .ref)))(hT:T.length<=100){G:Prop}
  (K:∀σ' Z b5,xb (ae (k+1)) (yS.stmt 1).zT [a0,some (.ref O),some (.ref r),a3,a4,a5] σ=some ((.next,[a0,some (.ref O),some (.ref r),some (.ref σ.length),Z,b5]),σ')->σ'[O]?=some (.list ((T++[σ.length]).map .ref))->σ'[σ.length]?=some (.bQ (dV (lC c D)))->ak (λj=>j=O) σ σ'->G):G:=by
 have ht:(σ++[AC.bQ []])[σ.length]?=some (.bQ []):=new
 have Lr:=cK hL
 have J:∀U Z b5,U[σ.length]?=some (.bQ (dV (lC c D)))->ak (λj=>j=σ.length) (σ++[AC.bQ []]) U->
   (iS (ae (k+1)) (.ref O) 0 (λY=>some ([.ref σ.length],U)) U=some (.none,U.set O (.list (T.map .ref++[.ref σ.length])))->xb (ae (k+1)) (yS.stmt 1).zT [a0,some (.ref O),some (.ref r),a3,a4,a5] σ=some ((.next,[a0,some (.ref O),some (.ref r),some (.ref σ.length),Z,b5]),U.set O (.list (T.map .ref++[.ref σ.length]))))->G:=λU Z b5 f2 f3 X=>by
  have p1:=f3.get (aN hL) (dW Lr)
  refine K _ Z b5 (X (Bj p1 p1 (by rw [bf];exact(aa au 0x113e803100364021003 hT rfl)))) (by rw [ko];exact gH p1) (iN (dW Lr) f2) ⟨by rw [lN];exact bo fP f3.1,λm hm jw=>?_⟩
  rw [qw (eN jw),f3.2 m (bN hm fP) (dW hm),lJ hm]
 by_cases q:c<=64
 ·have H:=hR
  unfold cD at H
  rw [if_pos q] at H
  have AS:=cK H
  have c1:=aaV (aN (l:=[AC.bQ []]) H)
  have Lw:=aN (l:=[AC.list [.int 1024]]) (aN (l:=[AC.bQ []]) H)
  have c2:=E1 Lw (by rw [yG];exact(aq aX 0x10113e803110300102240021000 q (be (aa az 0x11000010000010 hc rfl)) rfl))
  rw [yG,be hc] at c2
  have c3:=Bp (c:=c) (new (σ:=σ++[AC.bQ []]) (c:=AC.list [.int 1024])) ⟨by rw [fW];show _<=1000;exact(aq aX 0x10113e8031101016300102240021000 q (be (aa az 0x11000010000010 hc rfl)) rfl),(aa az 0x11003e803130000010 hc rfl),(aa az 0x113e803100040021000 q rfl)⟩
  rw [show(dO c.toNat [V.int 1024]).flatten=(dO c.toNat 1024).map .int by simp] at c3
  have Lu:=aN (l:=[AC.list ((dO c.toNat 1024).map .int)]) Lw
  have aaz:jh c D=((bV c.toNat).map λ(j:Nat)=>getm D (j:Int)).map .int:=by unfold jh;rw [qj];rfl
  have c4:=WR (aaz▸Lu) (new (σ:=σ++[AC.bQ []]++[AC.list [.int 1024]]) (c:=AC.list ((dO c.toNat 1024).map .int))) (dW (bN AS (bo fP fP))) (by rw [bf,gO,Ht])
  have Mn:=aN (l:=[AC.list ((dO c.toNat 1024).map .int)]) (aN (l:=[AC.list [.int 1024]]) ht)
  have F2:ak (λj=>j=σ.length) (σ++[AC.bQ []]) (σ++[AC.bQ []]++[AC.list [.int 1024]]++[AC.list ((dO c.toNat 1024).map .int)]):=bE (ak.cU _ _)
  have EL:lC c D=gY D c.toNat:=if_pos q
  rw [EL] at J
  by_cases z:((bV c.toNat).map λ(j:Nat)=>getm D (j:Int))=dO c.toNat 1024
  ·rw [decide_eq_true z] at c4
   have aao:gY D c.toNat=[]:=by
    unfold gY
    rw [List.map_eq_nil_iff,List.filter_eq_nil_iff]
    intro j hj
    have:=congrArg (λl=>l[j]?) z
    simp only [eT,Hj] at this
    rw [mS (zh.mp hj),if_pos (zh.mp hj)] at this
    have h2:getm D (j:Int)=1024:=bT this
    simp [h2]
   rw [aao] at J
   refine J _ a4 a5 Mn F2 λhm=>?_
   exists body λt=>t rfl c1 rfl c2 c3 c4 hm
  ·rw [decide_eq_false z] at c4
   refine ah7 (φ:=ae (k+1)) (a0:=a0) (a1:=some (.ref O)) (a4:=a4) (a5:=a5) ⟨hc,q⟩ Lu Mn (dW AS) λσ' Z b5 f1 f2 f3=>J _ Z b5 f2 (F2.trans f3) λhm=>?_
   exists body λt=>t rfl c1 rfl c2 c3 c4 f1 hm
 ·have H:=hR
  unfold cD at H
  rw [if_neg q] at H
  have AS:=cK H.1
  have vp:=cK H.2.1
  have c1:=aaW (aN (l:=[AC.bQ []]) H.1)
  have EL:lC c D=D:=if_neg q
  rw [EL] at J
  refine ah5 (φ:=ae (k+1)) (a0:=a0) (a1:=some (.ref O)) (a4:=a4) (a5:=a5) (λσ' i h hi=>BF h hi) q ((ak.cU (F:=F0) _ _).row hR (λx=>x) λx=>x) W hD ht (dW AS) (dW vp) λσ' Z f1 f2 f3=>J _ Z a5 f2 f3 λhm=>?_
  exists body λt=>t rfl c1 f1 hm
theorem iK.bW{R:MR}{D:Nat->DD}(M:iK R D σ)(F:ak F0 σ σ'):iK R D σ':=⟨F.get M.m λx=>x,F.get M.p λx=>x,F.get M.l1 λx=>x,F.get M.l2 λx=>x,λi O=>F.row (M.row i O) (λx=>x) λx=>x⟩
theorem ah'{R:MR}{D:Nat->DD}(M:iK R D σ)(ZP:∀i,0<=R.cnt i)(W:∀i,i<18->Wf (D i) (R.cnt i))(hD:∀i,(D i).length<=900){G:Prop}
  (K:∀σ' r,am (ae (k+2)) 4111 [.ref R.m] σ=some (.ref r,σ')->oh σ' σ.length r (λi=>lC (R.cnt i) (D i))->ak F0 σ σ'->G):G:=by
 refine afF (k:=k) (M.bW (ak.cU σ [AC.list []])) λav rs r1 r2 r3 r4=>?_
 have F1:ak F0 σ av:=ak.trans (ak.cU _ _) r3
 have J:av[σ.length]?=some (.list []):=r3.get new λx=>x
 have nH:=bN (cK (new (σ:=σ) (c:=AC.list []))) r4
 refine yT (φ:=ae (k+1)) (σ:=σ++[AC.list []]) (cZ:=av) (ρ:=[some (.ref R.m),some (.ref σ.length),none,none,none,none]) (s:=yS.stmt 1) (l:=(bV 18).map λj=>V.ref (R.rr j)) (ls:=rs) rfl
  (by
   exists iter λt=>t r1 r2
   )
  (λi ρ σ'=>∀G:Prop,(∀a2 a3 a4 a5 (T:List Nat),ρ=[some (.ref R.m),some (.ref σ.length),a2,a3,a4,a5]->T.length=i->σ'[σ.length]?=some (.list (T.map .ref))->(∀(j t:Nat),T[j]?=some t->σ'[t]?=some (AC.bQ (dV (lC (R.cnt j) (D j))))/\σ.length<t)->
   ak F0 σ σ'->σ'[rs]?=some (.list ((bV 18).map λj=>V.ref (R.rr j)))->G)->G)
  (λY K=>K none none none none [] rfl rfl J (λj t e=>nomatch e) F1 r2)
  (λi ρ aC hI=>hI _ λa2 a3 a4 a5 T e H U Z O g5=>bI g5 rfl)
  (λi v ρ aC gc hI G K=>hI G λa2 a3 a4 a5 T e' H U Z O g5=>sY gc λp e hv=>?_)
  λaV σ' h1 h2=>h2 _ λa2 a3 a4 a5 T e' H U Z O g5=>?_
 ·subst e' hv
  obtain⟨hi,rfl⟩:=gC.mp e
  rw [gO] at hi
  rw [HD] at K
  refine ah9 (k:=k) (a0:=some (.ref R.m)) (a3:=a3) (a4:=a4) (a5:=a5) (ZP i) (O.row (M.row i hi) (λx=>x) λx=>x) (W i hi) (hD i) U (aq aJ 0x111640210031202110410005 H hi rfl) λdH b4 b5 f1 f2 f3 f4=>?_
  have L2:=cK U
  refine K _ .next _ dH rfl f1 λG K=>K (some (.ref (R.rr i))) (some (.ref aC.length)) b4 b5 (T++[aC.length]) rfl (by rw [bZ,H];rfl) f2 (λj t e=>?_) ⟨bo O.1 f4.1,λm hm Y=>(f4.2 m (bN hm O.1) (dW hm)).trans (O.2 m hm λx=>x)⟩ (f4.get g5 (gZ nH))
  rcases Tz j i with q|q|q
  ·rw [lJ (by exact(aq bL 0x1011002041020410005 H q rfl))] at e
   have h3:=Z j t e
   exact⟨f4.get h3.1 (gZ h3.2),h3.2⟩
  ·rw [q,←H,Cc] at e
   cases e
   rw [q]
   exact⟨f3,L2⟩
  ·rw [qv (by rw [bZ,H,fW];exact(aa aJ 0x11101011004310004 q rfl))] at e;cases e
 ·subst e'
  rw [bf,gO] at H
  refine K σ' σ.length ?_ ⟨cY _,T,H,U,λj t e=>⟨(Z j t e).1,iI (Z j t e).2⟩⟩ O
  exists call Yy λt=>t rfl h1
end
section
def gk(R:MR)(e:Ev):Prop:=C5 e/\0<=e.2.1/\e.2.1<R.cnt e.1
noncomputable def ct(l:List Ev)(r:Nat)(k:Int):Nat:=l.countP λe=>decide (e.1=r/\e.2.1=k)
theorem J7(l l':List Ev)(r:Nat)(k:Int):ct (l++l') r k=ct l r k+ct l' r k:=List.countP_append ..
noncomputable def i9(r:Nat):Bool:=[1,2,3,4,8,10,11,12,14,15,16].contains r
noncomputable def lv(x:Int):Nat:=if x=0 then 3 else if x=1 then 0 else if x<4 then 1 else 2
noncomputable def kind(r:Nat)(k:Int):Nat×Nat:=(r,if r<9 then 0 else lv (k%8))
noncomputable def dK:List Ev->List (Nat×Nat)
 |[]=>[]
 |e::l=>if i9 e.1=true then kind e.1 e.2.1::dK l else dK l
theorem Ba:∀(l l':List Ev),dK (l++l')=dK l++dK l'
 |[],_=>rfl
 |e::l,l'=>by
  show(if i9 e.1=true then kind e.1 e.2.1::dK (l++l') else dK (l++l'))=(if i9 e.1=true then kind e.1 e.2.1::dK l else dK l)++dK l'
  rw [Ba l l']
  split<;>rfl
theorem sQ(h:i9 r=false):∀l:List Ev,(∀e∈l,e.1=r)->dK l=[]
 |[],_=>rfl
 |e::l,q=>(if_neg (by rw [q e (gh ..),h];exact jK)).trans (sQ h l λH J=>q H (ib _ J))
theorem J8(V:i9 r=true):∀l:List Ev,ct l r k<=(dK l).count (kind r k)
 |[]=>cY _
 |e::l=>by
  have H:=J8 (k:=k) V l
  have J:ct (e::l) r k=ct l r k+if e.1=r/\e.2.1=k then 1 else 0:=by
   unfold ct;rw [TN];simp only [decide_eq_true_eq]
  rw [J]
  by_cases q:e.1=r/\e.2.1=k
  ·rw [if_pos q,show dK (e::l)=kind r k::dK l from(if_pos (q.1▸V)).trans (by rw [q.1,q.2]),List.count_cons_self]
   exact HM H
  ·rw [if_neg q]
   refine bo H ?_
   show _<=List.count _ (if i9 e.1=true then kind e.1 e.2.1::dK l else dK l)
   split
   ·exact List.count_le_count_cons
   ·exact cY _
theorem By(h:e∈eU row b m v):e.1=row:=by obtain⟨p,_,q⟩:=jN.mp h;exact q▸rfl
theorem Na{start:Int}:∀{node:Int},e∈il start node o c->e.1=9:=by
 induction c with
 |zero=>exactλh=>absurd h Cy
 |succ c H=>exactλh=>(eJ.mp h).elim (λq=>q▸rfl) H
theorem abI{start:Int}:∀{node:Int},e∈jX start o m node c->e.1=9:=by
 induction c with
 |zero=>exactλh=>absurd h Cy
 |succ c H=>
  intro node h
  refine(eJ.mp h).elim (λq=>q▸rfl) λh=>?_
  split at h
  ·exact H h
  ·exact Na h
theorem m8{s n:Int}(h:0<=n/\n<8):(8*s+n)%8=n:=by rw [Ig,Sf];exact Int.emod_eq_of_lt h.1 h.2
theorem A9{row:Nat}{s v:Int}(h:i9 row=true)(Y:¬row<9)(V:0<=v/\v<8):dK (eU row (8*s) 3 v)=[(row,0),(row,1),(row,2)]:=by
 have H:bU 3 v 0=1:=vM (aa az 0x1010118011001000010780110010000107 V rfl)
 have J:2<=bU 3 v 1/\bU 3 v 1<4:=by
  rw [show bU 3 v 1=bU 3 v 0*2+ej 3 v 0 from rh ∅,H]
  rcases qF 3 v 0 with e|e<;>rw [e]<;>decide
 have U:4<=bU 3 v 2/\bU 3 v 2<8:=by
  have O:bU 3 v 2=bU 3 v 1*2+ej 3 v 1:=rh ∅
  rcases qF 3 v 1 with e|e
  ·exact(bB cF 0x20010110210101801110110401107001202200020174102401100100201107 J O e rfl)
  ·exact(bB cF 0x200101102101018011101104011071011202200020174102401100100201107 J O e rfl)
 have Z:kind row (8*s+bU 3 v 0)=(row,0):=by unfold kind lv;rw [if_neg Y,H,m8 ∅,if_neg ∅,if_pos rfl]
 have k1:kind row (8*s+bU 3 v 1)=(row,1):=by unfold kind lv;rw [if_neg Y,m8 (by exact(aa az 0x10101180110010000107401100100201107 J rfl)),if_neg (by exact(aa az 0x1010010026401100100201107 J rfl)),if_neg (by exact(aa az 0x10110110026401100100201107 J rfl)),if_pos (by exact(aa az 0x1014011001401100100201107 J rfl))]
 have k2:kind row (8*s+bU 3 v 2)=(row,2):=by unfold kind lv;rw [if_neg Y,m8 (by exact(aa az 0x10101180110010000107801100100401107 U rfl)),if_neg (by exact(aa az 0x1010010026801100100401107 U rfl)),if_neg (by exact(aa az 0x10110110026801100100401107 U rfl)),if_neg (by exact(aa az 0x1140110016801100100401107 U rfl))]
 show(if i9 row=true then kind row (8*s+bU 3 v 0)::(if i9 row=true then kind row (8*s+bU 3 v 1)::(if i9 row=true then[kind row (8*s+bU 3 v 2)] else[]) else(if i9 row=true then[kind row (8*s+bU 3 v 2)] else[])) else _)=_
 rw [if_pos h,if_pos h,if_pos h,Z,k1,k2]
theorem Bb(O:b=10\/b=14)(V:2<=J/\J<=273){P:List (Nat×Nat)->Prop}(U:P [(b,3),(b+1,0),(b+1,1),(b+1,2)])(Y:P [(b,3),(b,0),(b+2,0),(b+2,1),(b+2,2)])(Z:P [(b,3),(b,0)]):P (dK (iC b spot J)):=by
 unfold iC
 split
 ·rename_i q
  rcases O with rfl|rfl
  ·rw [show dK ((10,0,0)::eU (10+1) (8*spot) 3 (J- 2))=(10,3)::dK (eU 11 (8*spot) 3 (J- 2)) from rfl,A9 rfl ∅ (by exact(aq az 0x110101801120110051201100500107a01100111103100000201107 V q rfl))];exact U
  ·rw [show dK ((14,0,0)::eU (14+1) (8*spot) 3 (J- 2))=(14,3)::dK (eU 15 (8*spot) 3 (J- 2)) from rfl,A9 rfl ∅ (by exact(aq az 0x110101801120110051201100500107a01100111103100000201107 V q rfl))];exact U
 ·split
  ·rename_i q q2
   rcases O with rfl|rfl
   ·rw [show dK ((10,0,1)::(10,1,0)::eU (10+2) (8*spot) 3 (J- 10))=(10,3)::(10,0)::dK (eU 12 (8*spot) 3 (J- 10)) from rfl,A9 rfl ∅ (by exact(aq az 0x111018011a0110051a0110050010712021001a0110016 q q2 rfl))];exact Y
   ·rw [show dK ((14,0,1)::(14,1,0)::eU (14+2) (8*spot) 3 (J- 10))=(14,3)::(14,0)::dK (eU 16 (8*spot) 3 (J- 10)) from rfl,A9 rfl ∅ (by exact(aq az 0x111018011a0110051a0110050010712021001a0110016 q q2 rfl))];exact Y
  ·rcases O with rfl|rfl
   ·rw [show dK ((10,0,1)::(10,1,1)::eU (10+3) 0 8 (J- 18))=(10,3)::(10,0)::dK (eU 13 0 8 (J- 18)) from rfl,sQ (r:=13) rfl _ λe H=>By H];exact Z
   ·rw [show dK ((14,0,1)::(14,1,1)::eU (14+3) 0 8 (J- 18))=(14,3)::(14,0)::dK (eU 17 0 8 (J- 18)) from rfl,sQ (r:=17) rfl _ λe H=>By H];exact Z
theorem abh(d l:Int):dK (jS d l)=[]:=by
 unfold jS
 rw [Ba,sQ (r:=6) rfl _ λe H=>By H,sQ (r:=7) rfl _ λe H=>By H]
 rfl
theorem abi(lc lp pb s p J o m:Int):dK (litE lc lp pb s p J o m)=[]:=by
 unfold litE
 refine(if_neg jK:dK _=dK _).trans ?_
 split
 ·exact sQ (r:=9) rfl _ λe H=>Na H
 ·exact sQ (r:=9) rfl _ λe H=>abI H
theorem YO{lc:Int}{st:aK}(V:VS b place state B at' st):(dK (st.ev lc lp pb b place state B at')).Nodup:=by
 cases st with
 |lit=>rw [show aK.ev lc lp pb b place state B at' .lit=litE .. from rfl,abi];exact zg
 |dU=>exact(by decide:[(1,0),(2,0)].Nodup)
 |ez f s=>
  rw [show dK (aK.ev lc lp pb b place state B at' (.ez f s))=(1,0)::dK (iC 10 (bO pb place) s++jS f s) from rfl,Ba,abh,qd]
  exact Bb (P:=λl=>((1,0)::l).Nodup) (.inl rfl) (V.size nofun nofun) ∅ ∅ ∅
 |rep f s=>
  rw [show dK (aK.ev lc lp pb b place state B at' (.rep f s))=(1,0)::dK (kG pb state place f++iC 14 (bO pb place) s) from rfl,Ba]
  unfold kG
  split
  ·exact Bb (P:=λl=>((1,0)::([(2,0)]++l)).Nodup) (.inr rfl) (V.size nofun nofun) ∅ ∅ ∅
  ·split
   ·exact Bb (P:=λl=>((1,0)::([(2,0),(3,0)]++l)).Nodup) (.inr rfl) (V.size nofun nofun) ∅ ∅ ∅
   ·exact Bb (P:=λl=>((1,0)::([(2,0),(3,0),(4,0)]++l)).Nodup) (.inr rfl) (V.size nofun nofun) ∅ ∅ ∅
theorem KZ{lc:Int}(V:i9 r=true):∀{l:List aK} {p:Pt},Vs b p l->ct (fZ lc lp pb b p l) r k<=l.length
 |[],_,_=>cY _
 |st::l,p,h=>by
  show ct (_++_) r k<=_
  rw [J7,CT]
  exact Nat.add_le_add (KZ V h.2) (bo (J8 V _) (List.nodup_iff_count.mp (YO h.1) _))
section
variable {R:MR}
theorem oE(h:a<18)(O:x=0\/x=1)(H:0<=s/\s<R.cnt a):gk R (a,s,x):=⟨⟨h,O⟩,H⟩
theorem hU(h:gk R a)(h':∀e∈l,gk R e):∀e∈a::l,gk R e:=List.forall_mem_cons.mpr ⟨h,h'⟩
theorem zP{l l':List Ev}(h:∀e∈l,gk R e)(h':∀e∈l',gk R e):∀e∈l++l',gk R e:=List.forall_mem_append.mpr ⟨h,h'⟩
theorem yk:∀e∈([]:List Ev),gk R e:=λY h=>nomatch h
theorem vQ(V:row<18)(H:0<=v/\v<2^m)(O:0<=b/\b+2^m<=R.cnt row):∀e∈eU row b m v,gk R e:=by
 intro e J
 obtain⟨p,hp,rfl⟩:=jN.mp J
 obtain⟨t,Z,rfl⟩:=jN.mp hp
 have Z:=zh.mp Z
 have U:=yn H (iI Z)
 have Y:(2:Int)^(t+1)<=2^m:=iw Z
 exact oE V (qF ..) (by show 0<=b+bU m v t/\b+bU m v t<R.cnt row;exact(bB nq 0x101011010101203000413000400107104004030130101107201000400000107 O U Y rfl))
variable (G:R.Good)
include G
theorem MV(Z:b=10\/b=14)(V:2<=J/\J<=273):∀e∈iC b (bO R.pb place) J,gk R e:=by
 have H:=yI G place
 have hc:b+3<18/\R.cnt b=2/\R.cnt (b+1)=8*2^R.pb.toNat/\R.cnt (b+2)=8*2^R.pb.toNat/\R.cnt (b+3)=256:=by rcases Z with rfl|rfl<;>exact⟨by decide,rfl,rfl,rfl,rfl⟩
 obtain⟨h,U,c1,c2,c3⟩:=hc
 have hz:∀{x:Int},(x=0\/x=1)->gk R (b,0,x):=λO=>oE (aa au 0x11120210041202130110044 h rfl) O (by rw [U];decide)
 have hy:∀{x:Int},(x=0\/x=1)->gk R (b,1,x):=λO=>oE (aa au 0x11120210041202130110044 h rfl) O (by rw [U];decide)
 unfold iC
 split<;>rename_i z
 ·exact hU (hz (.inl rfl)) (vQ (aa au 0x1112021101100441202130110044 h rfl) (aq az 0x110101801120110051201100500107a01100111103100000201107 V z rfl) (aq cF 0x8001010080012080110080164000801600107108016202100011002100170000107 H c1 rfl))
 ·split<;>rename_i Y
  ·exact hU (hz (.inr rfl)) (hU (hy (.inl rfl)) (vQ (aa au 0x1112021201100441202130110044 h rfl) (aq az 0x111018011a0110051a0110050010712021001a0110016 z Y rfl) (aq cF 0x8001010080012080110080164000801600107108016202100011002100170000107 H c2 rfl)))
  ·exact hU (hz (.inr rfl)) (hU (hy (.inr rfl)) (vQ h (aq az 0x10010011100031120210051120210050010712021001611103100000201107 V Y rfl) (by rw [c3];decide)))
omit G in
theorem YW{d l:Int}(O:1<=d/\d<=128)(V:2<=l):∀e∈jS d l,gk R e:=by
 have H:=BP ⟨d.toNat,(aq aX 0x10011810211040010228002100000101107 O (be (aa az 0x110000108002100000101107 O rfl)) rfl)⟩ (by show 1<=d.toNat;exact(aq aX 0x11110101131020008002100000101107 O (jj _) rfl))
 replace H:=(show(((⟨d.toNat,(aq aX 0x10011810211040010228002100000101107 O (be (aa az 0x110000108002100000101107 O rfl)) rfl)⟩:Fin 129).val:Nat):Int)=d by show((d.toNat:Nat):Int)=d;exact(aa aX 0x11101001022001022 (be (aa az 0x110000108002100000101107 O rfl)) rfl))▸H
 unfold jS
 generalize gf d=f at*
 obtain⟨bH,J,U⟩:=f
 dsimp only at H⊢
 obtain⟨Y,Z,s3,s4,s5,s6,s7,s8,s9⟩:=H
 exact zP (vQ ∅ (aq az 0x11101400210010000107e011001000010 Y Z rfl) (Pf (aa az 0x11201100500100020110 V rfl))) (vQ ∅ (yO _ _) (by show 0<=_/\_<=(115:Int);exact(aq cF 0x1110173021201000540100050010773021201000540100050010 s7 s8 rfl)))
theorem abJ(V:∀{x:Int},(x=0\/x=1)->gk R (0,16*s+bO R.pb p,x))(U:0<=H/\H<=255)(J:0<=o/\o<=255)(Y:0<=m/\m<=255):∀e∈litE R.lc R.lp R.pb s p H o m,gk R e:=by
 have O:=Jm G (place:=p) U
 unfold litE
 refine hU (V (.inl rfl)) ?_
 split
 ·rw [M8 J]
  exact vQ ∅ (aa az 0x1010111000310010000107ff0210000000107 J rfl) (aa dB 0x10101110100031004000001071030003100400000107 O rfl)
 ·rw [M4 J Y]
  intro e he
  obtain⟨t,Z,rfl⟩:=jN.mp he
  have Z:=zh.mp Z
  have hn:=yn (many:=8) (value:=o) (aa az 0x1010111000310010000107ff0210000000107 J rfl) (iI Z)
  have h2:(2:Int)^(t+1)<=2^8:=iw Z
  have hb:=l8 (m/2^(7- t))
  unfold oO
  refine oE ∅ (qF ..) ?_
  split<;>first|lia|omega
theorem YN{b:Array UInt8}{place state at':Int}{B:List Int}{st:aK}(V:VS b place state B at' st):∀e∈st.ev R.lc R.lp R.pb b place state B at',gk R e:=by
 have O:=yI G place
 have H:=V.s
 have hz:0<=16*state+bO R.pb place/\16*state+bO R.pb place<(192:Int):=(aq cF 0x101002f0100101002f1c002100201002641002010026400107c0112012000107100011002100170000107 O H rfl)
 have J:∀{x:Int},(x=0\/x=1)->gk R (0,16*state+bO R.pb place,x):=λh=>oE ∅ h hz
 have k5:∀{x:Int},(x=0\/x=1)->gk R (5,16*state+bO R.pb place,x):=λh=>oE ∅ h hz
 have Z:∀{x:Int},(x=0\/x=1)->gk R (1,state,x):=λh=>oE ∅ h H
 have U:∀{x:Int},(x=0\/x=1)->gk R (2,state,x):=λh=>oE ∅ h H
 have k3:∀{x:Int},(x=0\/x=1)->gk R (3,state,x):=λh=>oE ∅ h H
 cases st with
 |lit=>
  refine abJ G J ?_ (pP _ _) ?_
  ·split
   ·exact pP _ _
   ·decide
  ·split
   ·decide
   ·exact pP _ _
 |dU=>exact hU (J (.inr rfl)) (hU (Z (.inr rfl)) (hU (U (.inl rfl)) (hU (k5 (.inl rfl)) yk)))
 |ez f s=>
  have hF:=V.aA nofun
  have hS:=V.size nofun nofun
  exact hU (J (.inr rfl)) (hU (Z (.inl rfl)) (zP (MV G (.inl rfl) hS) (YW ⟨hF.1,hF.2.1⟩ hS.1)))
 |rep f s=>
  have hi:=V.spot f s rfl
  refine hU (J (.inr rfl)) (hU (Z (.inr rfl)) (zP ?_ (MV G (.inr rfl) (V.size nofun nofun))))
  unfold kG
  split
  ·exact hU (U (.inl rfl)) (hU (k5 (.inr rfl)) yk)
  ·split
   ·exact hU (U (.inr rfl)) (hU (k3 (.inl rfl)) yk)
   ·exact hU (U (.inr rfl)) (hU (k3 (.inr rfl)) (hU (oE ∅ (by omega) H) yk))
theorem K0{b:Array UInt8}:∀{l:List aK} {p:Pt},Vs b p l->∀e∈fZ R.lc R.lp R.pb b p l,gk R e
 |[],_,_=>yk
 |st::l,p,h=>zP (YN G h.1) (K0 h.2)
end
end
section
theorem aek:∀r,r<18->i9 r=false->r=0\/r=5\/r=6\/r=7\/r=9\/r=13\/r=17:=by decide
theorem aa0{R:MR}(G:R.Good)(H:(1:Int)<=2^(R.lc+R.lp).toNat)(V:r<18)(h:R.cnt r<=64):i9 r=true:=by
 cases q:i9 r with
 |true=>rfl
 |false=>
  rcases aek r V q with rfl|rfl|rfl|rfl|rfl|rfl|rfl
  ·exact absurd (show(192:Int)<=64 from h) ∅
  ·exact absurd (show(192:Int)<=64 from h) ∅
  ·exact absurd (show(256:Int)<=64 from h) ∅
  ·exact absurd (show(115:Int)<=64 from h) ∅
  ·exact absurd (show 768*(2:Int)^(R.lc+R.lp).toNat<=64 from h) (aa az 0x30003f14002100300036060010110 H rfl)
  ·exact absurd (show(256:Int)<=64 from h) ∅
  ·exact absurd (show(256:Int)<=64 from h) ∅
theorem Gi(k v:Int):∀D:DD,(fT D k v).map (·.1)=if k∈D.map (·.1) then D.map (·.1) else D.map (·.1)++[k]
 |[]=>by simp [fT]
 |(H,v')::r=>by
  unfold fT
  by_cases h:H=k
  ·subst h;simp
  ·rw [if_neg h,jk,Gi k v r]
   have h':¬k=H:=λz=>h z.symm
   by_cases q:k∈r.map (·.1)
   ·simp only [jk,eJ,q,or_true,if_true]
   ·simp only [jk,eJ,q,h',or_false,if_false,List.cons_append]
theorem af7(k v:Int)(h:(D.map (·.1)).Nodup):((fT D k v).map (·.1)).Nodup:=by
 rw [Gi]
 split
 ·exact h
 ·rename_i q
  rw [Tw]
  refine⟨h,by simp,λa H b O z=>?_⟩
  simp at O
  subst O;subst z
  exact q H
theorem Ao(l:List Ev)(e:Ev):dc (l++[e])=lG (dc l) e:=by unfold dc;rw [Cv];rfl
theorem BR{α:Type}{P:List α->Prop}(H:P [])(J:∀l a,P l->P (l++[a])):∀l,P l:=by
 intro l
 have:∀l:List α,P l.reverse:=by
  intro l
  induction l with
  |nil=>exact H
  |cons a l O=>rw [za];exact J _ _ O
 have:=this l.reverse
 rwa [List.reverse_reverse] at this
theorem An(r:Nat):∀l:List Ev,((dc l r).map (·.1)).Nodup:=by
 refine BR (by simp [dc]) λl e H=>?_
 rw [Ao]
 unfold lG upd
 split
 ·rename_i q;subst q;exact af7 _ _ H
 ·exact H
theorem Kg(r:Nat):∀l:List Ev,∀k,k∈(dc l r).map (·.1)->∃e∈l,e.1=r/\e.2.1=k:=by
 refine BR (λk h=>by simp [dc] at h) λl e J k h=>?_
 rw [Ao] at h
 unfold lG upd at h
 have O:k∈(dc l r).map (·.1)->∃H∈l++[e],H.1=r/\H.2.1=k:=λh=>by
  obtain⟨H,U,V⟩:=J k h
  exact⟨H,SX _ U,V⟩
 split at h
 ·rename_i q
  subst q
  rw [Gi] at h
  split at h
  ·exact O h
  ·rcases kj.mp h with h|h
   ·exact O h
   ·simp at h
    exact⟨e,by simp,rfl,h.symm⟩
 ·exact O h
noncomputable def yD:Nat->List Int
 |0=>[1024]
 |n+1=>(yD n).flatMap λm=>[iT m 0,iT m 1]
theorem Xg(r:Nat)(k:Int):∀l:List Ev,(∀e∈l,C5 e)->getm (dc l r) k∈yD (ct l r k):=by
 refine BR (λY=>by simp [dc,ct,yD,getm,gG]) λl e H h=>?_
 have H:=H λO J=>h O (SX _ J)
 have J:=h e (by simp)
 rw [Ao,J7,show ct [e] r k=if e.1=r/\e.2.1=k then 1 else 0 by unfold ct;rw [TN,List.countP_nil,CX];simp only [decide_eq_true_eq]]
 unfold lG upd
 by_cases q:r=e.1
 ·rw [if_pos q,AG]
  by_cases z:k=e.2.1
  ·rw [if_pos z,if_pos ⟨q.symm,z.symm⟩]
   subst q;subst z
   show _∈(yD _).flatMap _
   rw [List.mem_flatMap]
   refine⟨_,H,?_⟩
   rcases J.2 with q|q<;>rw [q]<;>simp
  ·rw [if_neg z,if_neg λy=>z y.2.symm]
   subst q;exact H
 ·rw [if_neg q,if_neg λy=>q y.1.symm];exact H
theorem afe:∀n:Fin 5,1<=n.val->(yD n.val).all (λm=>decide (m≠1024))=true:=by decide+kernel
theorem E2{α:Type}[DecidableEq α]:∀{l l':List α},l.Nodup->(∀a∈l,a∈l')->l.length<=l'.length
 |[],_,_,_=>uy _
 |a::l,l',H,J=>by
  rw [iz] at H
  have O:=J a (by simp)
  have:=E2 (l':=l'.erase a) H.2 λb U=>(List.mem_erase_of_ne (λz=>H.1 (by subst z;exact U))).mpr (J b (by simp [U]))
  rw [List.length_erase_of_mem O] at this
  have:=List.length_pos_of_mem O
  rw [fJ];(first|lia|omega)
def rV(E O:DD):Prop:=E.length=O.length/\∀p∈E,gG O p.1=some p.2
theorem rV.refl(h:(E.map (·.1)).Nodup):rV E E:=⟨rfl,λp hp=>K9 h hp⟩
theorem PQ(D:DD)(n:Nat):((gY D n).map (·.1)).Nodup:=by
 unfold gY
 rw [qj]
 have h:((bV n).filter λ(j:Nat)=>decide (getm D (j:Int)≠1024)).Nodup:=List.Pairwise.filter _ List.nodup_range
 generalize (bV n).filter (λ(j:Nat)=>decide (getm D (j:Int)≠1024))=l at h
 unfold List.Nodup at h⊢
 rw [HH]
 exact h.imp λ{a b} h z=>h (by have z:(a:Int)=b:=z;exact(aa aJ 0x11101100051020022 z rfl))
theorem ah8(r:Nat):((lC c (dc l r)).map (·.1)).Nodup:=by
 unfold lC;split
 ·exact PQ _ _
 ·exact An _ _
theorem ah6{R:MR}(G:R.Good)(Y:∀e∈l,gk R e)(hc:∀r k,i9 r=true->ct l r k<=4)(hr:r<18):rV (lC (R.cnt r) (dc l r)) (dc l r):=by
 unfold lC
 split
 ·rename_i q
  have hL:=aa0 G (iw (uy _)) hr q
  have key:∀p∈dc l r,getm (dc l r) p.1≠1024/\0<=p.1/\p.1<R.cnt r:=λp hp=>by
   obtain⟨e,Z,h2,O⟩:=Kg r l p.1 (mQ (f:=(·.1)) hp)
   have H:=Y e Z
   refine⟨?_,by rw [←O];exact H.2.1,by rw [←O,←h2];exact H.2.2⟩
   have h4:=Xg r p.1 l λe he=>(Y e he).1
   have h5:=hc r p.1 hL
   have h6:1<=ct l r p.1:=by
    unfold ct
    exact List.countP_pos_iff.mpr ⟨e,Z,by simp [h2,O]⟩
   have h7:=jM.mp (afe ⟨ct l r p.1,(aa au 0x1150110044011003 h5 rfl)⟩ h6) _ h4
   exact of_decide_eq_true h7
  have J:∀p∈gY (dc l r) (R.cnt r).toNat,gG (dc l r) p.1=some p.2:=λp hp=>by
   have:=PP hp
   have V:getm (dc l r) p.1≠1024:=by exact this.2.2.1▸this.2.2.2
   rw [this.2.2.1]
   unfold getm at V⊢
   cases hf:gG (dc l r) p.1 with
   |none=>replace V:=hf▸V;exact absurd rfl V
   |some v=>rfl
  refine⟨TQ ?_ ?_,J⟩
  ·have:=E2 (PQ (dc l r) (R.cnt r).toNat) (l':=(dc l r).map (·.1)) λa U=>by
    obtain⟨p,hp,rfl⟩:=jN.mp U
    exact mQ (f:=(·.1)) (ab8 (J p hp))
   simpa using this
  ·have:=E2 (An r l) (l':=(gY (dc l r) (R.cnt r).toNat).map (·.1)) λa U=>by
    obtain⟨p,hp,rfl⟩:=jN.mp U
    have:=key p hp
    have hm:(p.1,getm (dc l r) p.1)∈gY (dc l r) (R.cnt r).toNat:=by
     unfold gY
     rw [jN]
     have e:((p.1.toNat:Nat):Int)=p.1:=(aa aX 0x11101001022001022 (be (aa cF 0x1110001020101100010740003100267 this rfl)) rfl)
     refine⟨p.1.toNat,CD.mpr ⟨zh.mpr (bB wY 0x1001114030440220010302220101100010740003100267 this e (jj _) rfl),?_⟩,?_⟩
     ·rw [e];simp [this.1]
     ·rw [e]
    exact mQ (f:=(·.1)) hm
   simpa using this
 ·exact rV.refl (An r l)
theorem Xi{R:MR}(U:∀e∈l,gk R e)(r:Nat):Wf (dc l r) (R.cnt r):=⟨An r l,λp hp=>by
 obtain⟨e,J,V,O⟩:=Kg r l p.1 (mQ (f:=(·.1)) hp)
 have H:=U e J
 exact⟨by rw [←O];exact H.2.1,by rw [←O,←V];exact H.2.2⟩⟩
theorem YJ(h:rV E O):nv (dV E) (dV O)=some true:=by
 unfold nv
 rw [if_pos (by simpa [dV] using h.1)]
 have:∀F:DD,(∀p∈F,gG O p.1=some p.2)->nv.go (dV O) (dV F)=some true:=by
  intro F
  induction F with
  |nil=>intro _;rfl
  |cons p F H=>
   intro J
   obtain⟨k,v⟩:=p
   have U:=J (k,v) (by simp)
   have V:=H λp hp=>J p (by simp [hp])
   show nv.go (dV O) ((k,.int v)::dV F)=some true
   unfold nv.go
   rw [A0,U]
   show(nv.go (dV O) (dV F)).map (decide (v=v)&& ·)=some true
   rw [V];simp
 exact this E h.2
theorem KO{f:V->V->Option Bool}:∀{l l':List V},l.length=l'.length->(∀(i:Nat) a b,l[i]?=some a->l'[i]?=some b->f a b=some true)->nu f l l'=some true
 |[],[],_,_=>rfl
 |a::l,b::l',H,h=>(bI (h 0 a b rfl rfl) (congrArg (fu _) (KO (rO H) λi a b J O=>h (i+1) a b J O)))
section
variable {σ:AH}
theorem Au(H:σ[x]?=some (.list l))(J:σ[y]?=some (.list l'))(V:l.length=l'.length)(h:nu (i8 n σ) l l'=some true):i8 (n+1) σ (.ref x) (.ref y)=some true:=
 gV rfl (by
  show(if x=y then some true else _)=_
  split
  ·rfl
  ·exact fQ (bI H (bI J ((if_pos V).trans h))))
theorem YK(H:σ[x]?=some (.bQ l))(J:σ[y]?=some (.bQ l'))(h:nv l l'=some true):i8 (n+1) σ (.ref x) (.ref y)=some true:=
 gV rfl (by
  show(if x=y then some true else _)=_
  split
  ·rfl
  ·exact gV (bI H rfl) (bI H (bI J h)))
theorem KW{lo:Nat}{E U:Nat->DD}(n:Nat)(h:oh σ lo a E)(h':oh σ lo' b U)(hE:∀j,j<18->rV (E j) (U j)):i8 (n+2) σ (.ref a) (.ref b)=some true:=by
 obtain⟨_,T,Y,t2,t3⟩:=h
 obtain⟨_,Z,u1,u2,u3⟩:=h'
 have hl:(T.map V.ref).length=(Z.map V.ref).length:=by rw [bf,bf,Y,u1]
 refine Au t2 u2 hl (KO hl λi x y O hy=>?_)
 rw [eT] at O hy
 cases J:T[i]? with
 |none=>replace O:=J▸O;cases O
 |some t=>
  cases H:Z[i]? with
  |none=>replace hy:=H▸hy;cases hy
  |some u=>
   replace O:=J▸O;replace hy:=H▸hy
   cases O;cases hy
   exact YK (t3 i t J).1 (u3 i u H).1 (YJ (hE i (Y▸(gC.mp J).1)))
theorem YL{a b:Nat}{l:List Int}(n:Nat)(H:σ[a]?=some (.list (l.map .int)))(J:σ[b]?=some (.list (l.map .int))):i8 (n+2) σ (.ref a) (.ref b)=some true:=
 Au H J rfl ((DX _ _ _ rfl).trans (congrArg some (decide_eq_true rfl)))
end
end
section
noncomputable def nS(q:eO)(o:Int):List Int:=q.text.take (q.ahead- 1).toNat++[o]++q.text.drop q.ahead.toNat
noncomputable def di(q:eO)(o:Int):Array UInt8:=byteArr (nS q o)
structure g8(q:eO):Prop where
 lc:0<=q.lc/\q.lc<=8
 lp:0<=q.lp/\q.lp<=4
 pb:0<=q.pb/\q.pb<=4
 state:0<=q.state/\q.state<12
 ahead:4<=q.ahead/\q.ahead<=q.text.length
 len:q.text.length<=200
 oct:∀x∈q.text,0<=x/\x<=255
 back:q.back.length=4
 place:0<=q.place
 steps:q.steps.length<=4
section
variable {k:Nat}{σ:AH}{sc:Nat}{q:eO}{o:Int}
theorem GA(Q:g8 q):(nS q o).length=q.text.length:=by
 have:=Q.ahead
 unfold nS
 simp only [bZ,mU,wl,fJ,rK]
 (first|lia|omega)
theorem Fg(Q:g8 q):(di q o).size=q.text.length:=by unfold di byteArr;rw [Tp,bf];exact GA Q
theorem PK(Q:g8 q)(J:0<=o/\o<=255):∀x∈nS q o,0<=x/\x<=255:=by
 intro x hx
 unfold nS at hx
 rcases kj.mp hx with hx|hx
 ·rcases kj.mp hx with hx|hx
  ·exact Q.oct x (SP hx)
  ·simp at hx;subst hx;exact J
 ·exact Q.oct x (SO hx)
theorem ahP(Q:g8 q){i:Nat}:(nS q o)[i]?=if(i:Int)=q.ahead- 1 then some o else q.text[i]?:=by
 have:=Q.ahead
 unfold nS
 have V:(q.text.take (q.ahead- 1).toNat).length=(q.ahead- 1).toNat:=by rw [mU];(first|lia|omega)
 rcases Tz i (q.ahead- 1).toNat with h|h|h
 ·rw [if_neg (by exact(aq cQ 0x101101011005102261011005202220104 h (be (aa aX 0x111011005001010200000401107 this rfl)) rfl)),iX,lJ (by exact(aq bL 0x1011002041020410005 V h rfl)),Ti,if_pos h]
 ·rw [if_pos (by exact(aq cQ 0x101110101101100510221011005202220105 h (be (aa aX 0x111011005001010200000401107 this rfl)) rfl)),iX,yV (by exact(aq bL 0x1101200031020510005 V h rfl)),V,h,CU];rfl
 ·rw [if_neg (by exact(aq cQ 0x11011011005202261021011005020104 h (jj _) rfl)),yV (by simp;exact(pL fz 0x1110101120101130430050225010114045102101100504030320104 h (CI _ _) (jj _) (cG (aq cQ 0x111201011320200010200000401107 this (jj _) rfl)) (be (aa aX 0x1100001010200000401107 this rfl)) rfl)),Tj]
  congr 1
  simp;(first|lia|omega)
theorem yp(Q:g8 q)(J:0<=o/\o<=255){i:Int}(H:0<=i/\i<q.text.length):oct (di q o) i=if i=q.ahead- 1 then o else q.text.getD i.toNat 0:=by
 have h:=ahP (o:=o) Q (i:=i.toNat)
 have Z:i.toNat<(nS q o).length:=by rw [GA Q];exact(aq cQ 0x10011102040020221020010000107 H (be (aa aX 0x110000101020010000107 H rfl)) rfl)
 have O:∃x,(nS q o)[i.toNat]?=some x:=⟨_,iy Z⟩
 obtain⟨x,O⟩:=O
 have V:=PK Q J x (rR O)
 have U:oct (di q o) i=x:=by
  unfold oct di byteArr
  rw [jI]
  simp only [eT,O,Option.map_some,Option.getD_some]
  rw [UInt8.toNat_ofNat']
  (first|lia|omega)
 rw [U]
 rw [O,show((i.toNat:Nat):Int)=i by exact(aa aX 0x11101001022001022 (be (aa aX 0x110000101020010000107 H rfl)) rfl)] at h
 split at h
 ·rename_i z;rw [if_pos z];cases h;rfl
 ·rename_i z;rw [if_neg z,jI,←h];rfl
theorem NQ(H:eZ σ sc q)(Q:g8 q)(ho:0<=o/\o<=255){G:Prop}(K:∀σ',am (ae (k+1)) 4118 [.ref sc,.int o] σ=some (.bytes (di q o),σ')->ak F0 σ σ'->G):G:=by
 have J:=Q.ahead
 have O:=Q.len
 have U:=GA (o:=o) Q
 have hx:=PK (o:=o) Q ho
 have Z:(q.text.map V.int).length=q.text.length:=bf ..
 have e:(q.text.map V.int).take (q.ahead- 1).toNat++[V.int o]++(q.text.map V.int).drop q.ahead.toNat=(nS q o).map .int:=by
  unfold nS;rw [ko,ko,uu,CQ];rfl
 generalize Y:q.text.map V.int=T at*
 have l1:(T.take (q.ahead- 1).toNat).length<=T.length:=List.length_take_le' ..
 have l2:(T.drop q.ahead.toNat).length<=T.length:=by rw [wl];exact Nat.sub_le ..
 have s1:ly true (.ref q.tx) (.int (q.ahead- 1)) σ=some (.ref σ.length,σ++[AC.list (T.take (q.ahead- 1).toNat)]):=nO (front:=true) (Y▸H.tx) (i:=q.ahead- 1) (c:=(q.ahead- 1).toNat) (aq aX 0x10110101f4240051101100501011005f4240051307c802110310200000401107 J O rfl) (aq aJ 0x10113e803110300105c8021003 O Z rfl) (clipAt_in (aa aX 0x111011005001010200000401107 J rfl) (aq cQ 0x10101202101100501020510200000401107 J Z rfl))
 have s2:=gS (aN (l:=[AC.list [V.int o]]) (new (σ:=σ) (c:=AC.list (T.take (q.ahead- 1).toNat)))) new (by show _+1<=_;(first|lia|omega))
 have F:=bE (l:=[AC.list (T.take (q.ahead- 1).toNat++[.int o])]) (bE (l:=[AC.list [V.int o]]) (ak.cU (F:=F0) σ [AC.list (T.take (q.ahead- 1).toNat)]))
 have h1:=H.text (φ:=ae k)
 have h2:=H.ahead (φ:=ae k)
 have h3:=(H.bW F).text (φ:=ae k)
 have h4:=(H.bW F).ahead (φ:=ae k)
 have s3:ly false (.ref q.tx) (.int q.ahead) (σ++[AC.list (T.take (q.ahead- 1).toNat)]++[AC.list [V.int o]]++[AC.list ((T.take (q.ahead- 1).toNat)++[.int o])])=some (.ref (σ++[AC.list (T.take (q.ahead- 1).toNat)]++[AC.list [V.int o]]++[AC.list ((T.take (q.ahead- 1).toNat)++[.int o])]).length,σ++[AC.list (T.take (q.ahead- 1).toNat)]++[AC.list [V.int o]]++[AC.list ((T.take (q.ahead- 1).toNat)++[.int o])]++[AC.list (T.drop q.ahead.toNat)]):=nO (front:=false) (Y▸(H.bW F).tx) (i:=q.ahead) (c:=q.ahead.toNat) (aq aX 0x10110101f424005100000f4240051307c802110310200000401107 J O rfl) (aq aJ 0x10113e803110300105c8021003 O Z rfl) (clipAt_in (aa aX 0x1100001010200000401107 J rfl) (aq cQ 0x101012020001020510200000401107 J Z rfl))
 have s4:=gS (aN (l:=[AC.list (T.drop q.ahead.toNat)]) (new (σ:=σ++[AC.list (T.take (q.ahead- 1).toNat)]++[AC.list [V.int o]]) (c:=AC.list (T.take (q.ahead- 1).toNat++[.int o])))) new (by rw [bZ];show _+1+_<=_;(first|lia|omega))
 have s5:=Oi new ((congrArg sM e).trans ((EO (λx=>x) _).trans (congrArg some (List.map_id' _)))) ⟨by rw [e,bf];exact(aq aJ 0x10113e803110300105c8021003 O U rfl),λn hn=>by have:=hx n hn;exact(aa az 0x1010111000310010000107ff0210000000107 this rfl)⟩ (σ:=σ++[AC.list (T.take (q.ahead- 1).toNat)]++[AC.list [V.int o]]++[AC.list (T.take (q.ahead- 1).toNat++[.int o])]++[AC.list (T.drop q.ahead.toNat)]++_)
 refine K (σ++[AC.list (T.take (q.ahead- 1).toNat)]++[AC.list [V.int o]]++[AC.list ((T.take (q.ahead- 1).toNat)++[.int o])]++[AC.list (T.drop q.ahead.toNat)]++[AC.list ((T.take (q.ahead- 1).toNat)++[.int o]++T.drop q.ahead.toNat)]) ?_ (bE (bE F))
 exists call Ys λt=>t h1 h2 s1 rfl s2 h3 h4 s3 s4 s5
end
end
section
noncomputable def pQ(l:List Ev)(D:Nat->DD):Int:=l.foldl (λx e=>stM x (getm (D e.1) e.2.1) e.2.2) 0
theorem OH(w:Nat)(D:Nat->DD):∀(l:List Ev) (x:Int),dN (q7 w) l (x,D)=(l.foldl (λx e=>stM x (getm (D e.1) e.2.1) e.2.2) x,D)
 |[],x=>rfl
 |e::l,x=>(congrArg (dN (q7 w) l) (show vX (q7 w) (x,D) e=(stM x (getm (D e.1) e.2.1) e.2.2,D) from congrArg (Prod.mk _) (P1 D e.1))).trans (OH w D l _)
section
variable {k:Nat}{σ:AH}
theorem W6{L:List V}(H:σ[r]?=some (.obj 352 [(23,.ref l)]))(J:σ[l]?=some (.list L))(O:L.length<=1000):am (ae (k+2)) 349 [.ref r] σ=some (.ref σ.length,σ++[AC.obj 352 [(23,.ref (σ.length+1))]]++[AC.list L]):=by
 have U:=FW (k:=k) J O
 exists call XU λt=>t H U
structure MR.oj(R:MR)(T:Nat):Prop where
 m:R.m<T
 p:R.p<T
 l1:R.l1<T
 l2:R.l2<T
 f:∀j,R.foot j->j<T
theorem MU:(σ++[c]++[d]++[e]).length=σ.length+3:=by simp only [bZ,fW]
theorem Gh{l1 l2:AH}:(σ++[c]++l1++l2++J++O).set σ.length d=σ++[d]++l1++l2++J++O:=by simp [CH]
theorem aeV{R:MR}{D:Nat->DD}{L:List aK}(G:R.Good)(M:iK R D σ)(low:R.oj σ.length)(hD:∀i,Dg (D i) n)(hr:σ[rp]?=some (.obj 352 [(23,.ref lp)]))(hl:σ[lp]?=some (.list (p.B.map .int)))(hB:p.B.length=4)
  (U:σ[ls]?=some (.list (L.map aK.v))) (Eu:¬R.foot ls) (hb:b.size<=1000) (V:Vs b p L) (hn:n+23*L.length<=900) {Q:Prop}
  (K:∀σ',am (ae (k+13)) 4030 [.ref R.m,.int p.state,.ref rp,.int p.place,.ref ls,.bytes b,.int p.at'] σ=some (.int (pQ (fZ R.lc R.lp R.pb b p L) D),σ')->iK R D σ'->ak R.foot σ σ'->Q):Q:=by
 have n1:=acn (k:=k+11) (σ:=σ)
 obtain⟨H,hA⟩:∃H,H=σ++[AC.obj 3895 [(31,.int 0)]]:=⟨_,rfl⟩
 have O:H.length=σ.length+1:=hA▸jb
 have wA:H[σ.length]?=some (.obj 3895 [(31,.int 0)]):=hA▸new
 have FA:ak F0 σ H:=hA▸ak.cU _ _
 rw [←hA] at n1
 have n2:=Nl (k:=k+10) (σ:=H) (m:=R.m) (w:=σ.length)
 have c (L:List (bu×Internal.V)) (l1 l2:AH):(H++[AC.obj 4021 L]++l1++l2)[H.length]?=some (AC.obj 4021 L):=aN (aN new)
 have c' (L:List (bu×Internal.V)) (l1 l2 l3 l4:AH):(H++[AC.obj 4021 L]++l1++l2++l3++l4)[H.length]?=some (AC.obj 4021 L):=aN (aN (c L l1 l2))
 have c3:=λL:List (bu×Internal.V)=>(aN (aN (aN (FA.get hr λx=>x))):(H++[AC.obj 4021 L]++[AC.obj 352 [(23,.ref (H.length+2))]]++[AC.list [.int 1,.int 1,.int 1,.int 1]])[rp]?=_)
 have n3:=λL:List (bu×Internal.V)=>MU▸W6 (k:=k+10) (c3 L) (aN (aN (aN (FA.get hl λx=>x)))) (by rw [bf,hB];decide)
 obtain⟨J,Y⟩:∃J,J=H++[fG (q7 σ.length) R p.place p.state (H.length+3)]++[AC.obj 352 [(23,.ref (H.length+2))]]++[AC.list [.int 1,.int 1,.int 1,.int 1]]++[AC.obj 352 [(23,.ref (H.length+4))]]++[AC.list (p.B.map .int)]:=⟨_,rfl⟩
 have F5:ak F0 σ J:=Y▸bE (bE (bE (bE (bE FA))))
 have l5:σ.length<J.length:=bN (cK wA) (by rw [Y];simp only [bZ];exact(bx nk 0x14030101120100044444003 rfl))
 have ajm:∀m,R.foot m->m<σ.length:=low.f
 have P:Sep (q7 σ.length) R:=⟨G,λi hi=>⟨λq=>qg _ (q▸low.f _ ⟨i,hi,.inl rfl⟩:σ.length<σ.length),λq=>qg _ (q▸low.f _ ⟨i,hi,.inr rfl⟩:σ.length<σ.length)⟩,
  λq=>dW low.m q,λq=>dW low.p q,λq=>dW low.l1 q,λq=>dW low.l2 q⟩
 have nf:∀i,¬Ft (q7 σ.length) R (H.length+i):=λi q=>q.elim (λq=>by have q:H.length+i=σ.length:=q;exact(aq bL 0x10018102000451011104005 O q rfl)) λq=>by have:=low.f _ q;exact(aq bL 0x1018102000441011104005 O this rfl)
 have E:Enc (q7 σ.length) R ((0:Int),D) n J:=⟨Y▸aN (aN (aN (aN (aN wA)))),M.bW F5,hD⟩
 have MK:Mk (q7 σ.length) R (σ.length+1) H.length (H.length+3) (H.length+4) p.place p.state p.B J:=⟨Y▸c' _ _ _ _ _,Y▸aN (tw (by simp only [bZ,fW])),Y▸tw (by simp only [bZ,fW]),nf 0,nf 3,nf 4,l5,λm q=>q.elim (λq=>by have q:m=σ.length:=q;exact(aa aJ 0x11101110400410005 q rfl)) λq=>HF (low.f m q)⟩
 refine Qo (k:=k) P E MK hb V (F5.get U λx=>x) (λq=>by
  have:=cK U
  rcases q with q|q|q
  ·exact q.elim (λq=>by have q:ls=σ.length:=q;exact(aq aJ 0x11081000510004 this q rfl)) Eu
  ·exact(bB bL 0x10110800205102041011104005 O this q rfl)
  ·exact(bB bL 0x1011083011004205102041011104005 O this q rfl)) hn λZ l6 f1 f2 f3 f4=>?_
 have hE:=OH σ.length D (fZ R.lc R.lp R.pb b p L) 0
 replace f2:=hE▸f2
 have f6:Z[σ.length]?=some (.obj 3895 [(31,.int (pQ (fZ R.lc R.lp R.pb b p L) D))]):=f2.ws
 have f8:=f3.w
 refine K Z ?_ f2.md ⟨bo (iI l5) f4.1,λm hm hF=>(f4.2 m (Nat.lt_trans hm l5) λq=>?_).trans (F5.2 m hm λx=>x)⟩
 ·subst Y
  exists call YF λt=>t n1 n2 (c _ _ _) BL (bM (c3 _) rfl rfl) (n3 _) (c' _ _ _ _ _) Gh (c' _ _ _ _ _) Gh (bM (c' _ _ _ _ _) rfl rfl) f1 f8 f6
 ·rcases q with q|q|q
  ·exact q.elim (dW hm) hF
  ·exact(bB bL 0x10110800205102041011104005 O hm q rfl)
  ·exact(bB bL 0x1011083011004205102041011104005 O hm q rfl)
end
end
section
section
variable {k:Nat}{σ:AH}{sc:Nat}{q:eO}{o place:Int}{R:MR}{D:Nat->DD}{n:Nat}
noncomputable def eO.ev(q:eO)(place o:Int):List Ev:=fZ q.lc q.lp q.pb (di q o) (q.pt place) q.steps
def eO.apart(q:eO)(sc:Nat)(F:Nat->Prop):Prop:=¬F sc/\¬F q.tx/\¬F q.bk/\¬F q.st
theorem eZ.AA{F:Nat->Prop}(h:eZ σ sc q)(x:ak F σ σ')(a:q.apart sc F):eZ σ' sc q:=⟨x.get h.o a.1,x.get h.tx a.2.1,x.get h.bk a.2.2.1,x.get h.st a.2.2.2⟩
theorem MR.oj.up{T:Nat}(low:R.oj T)(h:T<=O):R.oj O:=⟨bN low.m h,bN low.p h,bN low.l1 h,bN low.l2 h,λj z=>bN (low.f j z) h⟩
theorem Pj(hS:eZ σ sc q)(Q:g8 q)(ho:0<=o/\o<=255)(G:R.Good)(hR:R.lc=q.lc/\R.lp=q.lp/\R.pb=q.pb)(M:iK R D σ)(low:R.oj σ.length)(hD:∀i,Dg (D i) n)(ha:q.apart sc R.foot)(V:Vs (di q o) (q.pt place) q.steps)(hn:n<=600){X:Prop}
  (K:∀σ',am (ae (k+14)) 4125 [.ref sc,.ref R.m,.int place,.int o] σ=some (.int (pQ (q.ev place o) D),σ')->iK R D σ'->ak R.foot σ σ'->X):X:=by
 refine NQ (k:=k+12) hS Q ho λav a1 a2=>?_
 have J:=hS.bW a2
 have O:=Q.back
 have n2:=FW (k:=k+12) J.bk (by rw [bf,O];decide)
 obtain⟨aC,U⟩:∃aC,aC=av++[AC.obj 352 [(23,.ref (av.length+1))]]++[AC.list (q.back.map .int)]:=⟨_,rfl⟩
 have Z:ak F0 σ aC:=U▸bE (bE a2)
 have g1:aC[av.length]?=some (.obj 352 [(23,.ref (av.length+1))]):=U▸aN new
 have g2:aC[av.length+1]?=some (.list (q.back.map .int)):=U▸tw jb.symm
 rw [←U] at n2
 have H:=hS.bW Z
 have jx:=Fg (o:=o) Q
 have hl:=Q.len
 have fh:=Q.steps
 refine aeV (k:=k) (b:=di q o) (L:=q.steps) (p:=q.pt place) G (M.bW Z) (low.up Z.1) hD g1 g2 O H.st ha.2.2.2 (aq aJ 0x1113e8031003c802110310005 jx hl rfl) V (aq aJ 0x11702f1384031101702600434011103258031003 hn fh rfl) λdH b1 b2 b3=>?_
 rw [hR.1,hR.2.1,hR.2.2] at b1
 refine K dH ?_ b2 ((Z.wide λY z=>z.elim).trans b3)
 exists call Yw λt=>t a1 J.back n2 H.state H.steps H.ahead b1
noncomputable def yJ(z:RW×(Nat->DD))(e:Ev):RW×(Nat->DD):=(ig z.1 (getm (z.2 e.1) e.2.1) e.2.2,lG z.2 e)
noncomputable def yg(l:List Ev):Array UInt8:=(nN 5 (l.foldl yJ (pS,λY=>[])).1).made
theorem afG(w b:Nat)(l:List Ev)(z:RW×(Nat->DD)):dN (OI w b) l z=l.foldl yJ z:=by
 unfold dN
 congr 1
theorem Pq:∀(l:List Ev) (z:RW×(Nat->DD)),(l.foldl yJ z).2=l.foldl lG z.2
 |[],_=>rfl
 |e::l,z=>by rw [wq,Pq l];rfl
structure wM(σ:AH)(lo rf kp tl:Nat)(q:eO)(R:MR)(l:List Ev):Prop where
 hf:σ[rf]?=some (.gX [(43,.ref kp),(29,.ref R.m)])
 hk:σ[kp]?=some (.list [.bytes (yg l),.ref tl,.int (pQ l (dc l))])
 ht:oh σ lo tl λi=>lC (R.cnt i) (dc l i)
 md:iK R (dc l) σ
 good:R.Good
 p:R.lc=q.lc/\R.lp=q.lp/\R.pb=q.pb
 low:R.oj lo
 l1:lo<=kp
 l2:lo<=rf
end
end
section
section
variable {k:Nat}{σ:AH}{sc:Nat}{q:eO}{o place:Int}{R:MR}{D:Nat->DD}{n:Nat}
theorem iK.Zf{F:Nat->Prop}{lo:Nat}(M:iK R D σ)(low:R.oj lo)(x:ak F σ σ')(J:∀m,m<lo->¬F m):iK R D σ':=⟨x.get M.m (J _ low.m),x.get M.p (J _ low.p),x.get M.l1 (J _ low.l1),x.get M.l2 (J _ low.l2),λi O=>x.row (M.row i O) (J _ (low.f _ ⟨i,O,.inl rfl⟩)) (J _ (low.f _ ⟨i,O,.inr rfl⟩))⟩
noncomputable def yh(σ:AH)(c:AC)(B:List Int):AH:=σ++[c]++[AC.obj 352 [(23,.ref (σ.length+2))]]++[AC.list [.int 1,.int 1,.int 1,.int 1]]++[AC.obj 352 [(23,.ref (σ.length+4))]]++[AC.list (B.map .int)]
theorem Nq{F:Nat->Prop}(x:ak F cZ σ):ak F cZ (yh σ c B):=bE (bE (bE (bE (bE x))))
theorem acg{S:fK}(J:∀m,Ft S R m->m<σ.length):Mk S R σ.length σ.length (σ.length+3) (σ.length+4) place state B (yh σ (fG S R place state (σ.length+3)) B):=
 have U:∀i,¬Ft S R (σ.length+i):=λi z=>absurd (J _ z) (gQ.mpr (ki ..))
 ⟨aN (aN (aN (aN new))),aN (tw (by simp only [bZ,fW])),tw (by simp only [bZ,fW]),U 0,U 3,U 4,(Nq (ak.refl F0 σ)).1,J⟩
theorem vf{α:Type}{f:α->α->Option Bool}{a b:α}{l l':List α}(h:f a b=some true)(h':nu f l l'=some true):nu f (a::l) (b::l')=some true:=bI h (congrArg (fu _) h')
theorem DF(H:a≠b)(h:i8 4 σ (.ref a) (.ref b)=some true):Internal.dX .NotEq (.ref a) (.ref b) σ=some false:=
 have h:(if a=b then some true else xr (i8 3 σ) σ a b)=some true:=h
 congrArg (fu not) (show sq σ (.ref a) (.ref b)=some true from gV rfl ((if_pos H).trans ((if_neg H).symm.trans h)))
set_option maxHeartbeats 4000000 in
theorem afH(hS:eZ σ sc q)(Q:g8 q)(ho:0<=o/\o<=255)(hp:0<=place)(V:Vs (di q o) (q.pt place) q.steps)(ZX:((q.pt place).fin q.steps).at'=q.text.length){X:Prop}
  (K:∀σ' lo rf kp tl R,am (ae (k+15)) 4132 [.ref sc,.int place,.int o] σ=some (.ref rf,σ')->wM σ' lo rf kp tl q R (q.ev place o)->σ.length<=lo->(∀m,R.foot m->σ.length<=m)->ak F0 σ σ'->X):X:=by
 have jx:=Fg (o:=o) Q
 have hl:=Q.len
 have fh:=Q.steps
 have sE:=Q.back
 have EF:0<=q.lc/\q.lc<=8/\0<=q.lp/\q.lp<=4/\0<=q.pb/\q.pb<=4:=⟨Q.lc.1,Q.lc.2,Q.lp.1,Q.lp.2,Q.pb.1,Q.pb.2⟩
 refine NQ (k:=k+13) hS Q ho λav a1 a2=>?_
 have n1:=aeY (k:=k+13) (σ:=av) EF
 refine aci (k:=k+9) (new (σ:=av) (c:=AC.obj 154 [(2,.int q.lc),(3,.int q.lp),(4,.int q.pb)])) EF λH R n2 G Rm Rp R1 R2 R3 M3 Rf UP UQ F3=>?_
 have rW:ak F0 σ H:=(bE a2).trans F3
 have Zo:av.length<H.length:=bN (by rw [jb];exact jL _) F3.1
 have l12:(av++[AC.obj 154 [(2,.int q.lc),(3,.int q.lp),(4,.int q.pb)]]).length=av.length+1:=jb
 have J:R.oj H.length:=⟨cK M3.m,Rp▸Zo,UP.2,UQ.2,λj h=>(Rf j h).2⟩
 have LM:∀m,R.foot m->σ.length<=m:=λm h=>bo a2.1 (by have:=(Rf m h).1;exact(aq bL 0x101120103200031011104005 l12 this rfl))
 have n3:=afJ (k:=k+13) (σ:=H)
 obtain⟨U,h4⟩:∃U,U=H++[wO pS (H.length+1) false]++[AC.ba #[]]:=⟨_,rfl⟩
 have F4:ak F0 H U:=h4▸bE (ak.cU _ _)
 have w4:U[H.length]?=some (wO pS (H.length+1) false):=h4▸aN new
 have b4:U[H.length+1]?=some (AC.ba #[]):=h4▸tw jb.symm
 have l4:U.length=H.length+2:=by rw [h4,jb,jb]
 rw [←h4] at n3
 have n4:=Nl (k:=k+12) (σ:=U) (m:=R.m) (w:=H.length)
 let S:=OI H.length (H.length+1)
 have Zg:∀m,Ft S R m->m<U.length:=λm z=>z.elim (λz=>by rcases(show m=H.length\/m=H.length+1 from z) with z|z<;>(first|lia|omega)) λz=>bN (J.f m z) F4.1
 have c3 (L:List (bu×Internal.V)) (l1 l2:AH):(U++[AC.obj 4021 L]++l1++l2)[U.length]?=some (AC.obj 4021 L):=aN (aN new)
 have c5 (L:List (bu×Internal.V)) (l1 l2 l3 l4:AH):(U++[AC.obj 4021 L]++l1++l2++l3++l4)[U.length]?=some (AC.obj 4021 L):=aN (aN (c3 L l1 l2))
 have m6:=aeG (k:=k+11) (S:=S) (R:=R) (W:=U.length) (r:=U.length+1) (place:=0) (state:=0) (c3 _ [AC.obj 352 [(23,.ref (U.length+2))]] [AC.list [.int 1,.int 1,.int 1,.int 1]]) hp
 rw [nU,BL] at m6
 have S5 (c:AC):eZ (U++[c]++[AC.obj 352 [(23,.ref (U.length+2))]]++[AC.list [.int 1,.int 1,.int 1,.int 1]]) sc q:=hS.bW (bE (bE (bE (rW.trans F4))))
 have n8:=λc:AC=>MU▸FW (k:=k+13) (S5 c).bk (by rw [bf,sE];decide)
 have F9:ak F0 U (yh U (fG S R place q.state (U.length+3)) q.back):=Nq (ak.refl ..)
 have wJ:=rW.trans (F4.trans F9)
 have S9:=hS.bW wJ
 have E:Enc S R (pS,λY=>[]) 0 (yh U (fG S R place q.state (U.length+3)) q.back):=⟨⟨F9.get w4 λz=>z,F9.get b4 λz=>z,afI⟩,M3.bW (F4.trans F9),λY=>aef⟩
 have nF:∀m,m<H.length->¬jq H.length (H.length+1) m:=λm h z=>by rcases z with z|z<;>(first|lia|omega)
 have P:Sep S R:=⟨G,λi hi=>⟨nF _ (J.f _ ⟨i,hi,.inl rfl⟩),nF _ (J.f _ ⟨i,hi,.inr rfl⟩)⟩,nF _ J.m,nF _ J.p,nF _ J.l1,nF _ J.l2⟩
 have vt:∀m,m<σ.length->¬R.foot m:=λm h z=>gQ.mpr (LM m z) h
 have vn:∀m,m<σ.length->¬Fo S R U.length (U.length+3) m:=λm h z=>by
  have:=rW.1
  rcases z with z|z|z
  ·exact z.elim (nF m (aq bL 0x111200042010310004 h this rfl)) (vt m h)
  ·exact(gI dR 0x10111080020510303302042011104005 l4 h this z rfl)
  ·exact(gI dR 0x1011108301100420510303302042011104005 l4 h this z rfl)
 have Z:sc<σ.length/\q.tx<σ.length/\q.bk<σ.length/\q.st<σ.length:=⟨cK hS.o,cK hS.tx,cK hS.bk,cK hS.st⟩
 have ap:q.apart sc R.foot:=⟨vt _ Z.1,vt _ Z.2.1,vt _ Z.2.2.1,vt _ Z.2.2.2⟩
 refine Qo (k:=k+2) (p:=q.pt place) P E (acg Zg) (b:=di q o) (aq aJ 0x1113e8031003c802110310005 jx hl rfl) V S9.st (vn _ Z.2.2.2) (aa au 0x1702f13840310017026001434011003 fh rfl) λlQ lA f1 f2 f3 f4=>?_
 have sH:fZ R.lc R.lp R.pb (di q o) (q.pt place) q.steps=q.ev place o:=by rw [R1,R2,R3];rfl
 have sF:=xx (lc:=R.lc) (lp:=R.lp) (pb:=R.pb) V
 have AK:=K0 G V
 have En:∀r k,i9 r=true->ct (q.ev place o) r k<=4:=λr k hr=>sH▸bo (KZ hr V) fh
 rw [sH] at f2 sF AK
 rw [show dN S (q.ev place o) (pS,λY=>[])=(q.ev place o).foldl yJ (pS,λY=>[]) from afG _ _ _ _] at f2
 have Eh:((q.ev place o).foldl yJ (pS,λY=>[])).2=dc (q.ev place o):=Pq _ _
 have eM:=f2.md
 have eD:=f2.dg
 rw [Eh] at eM eD
 have eW:lS H.length (H.length+1) _ _ lQ:=f2.ws
 have SA:eZ lQ sc q:=S9.AA f4 ⟨vn _ Z.1,vn _ Z.2.1,vn _ Z.2.2.1,vn _ Z.2.2.2⟩
 have Zp:U.length<=lQ.length:=bo F9.1 f4.1
 have Ne:R.oj lQ.length:=J.up (aq bL 0x101120103200032011104005 l4 Zp rfl)
 generalize LX:q.ev place o=lE at*
 refine Pj (k:=k) (place:=place) SA Q ho G ⟨R1,R2,R3⟩ eM Ne eD ap V (aq aJ 0x1702f11258031100014300170261034011003 fh sF rfl) λmY s1 s2 s3=>?_
 rw [LX] at s1
 refine ah' (k:=k+12) s2 R.WT (λi hi=>Xi AK i) (λi=>bo (Kf lE i) (aq aJ 0x1702f1138403110300170261034011003 fh sF rfl)) λn9 tl t1 t2 t3=>?_
 have SC:eZ n9 sc q:=(SA.AA s3 ap).bW t3
 refine V3 (k:=k+11) (place:=place) (b:=di q o) SC EF (aq aJ 0x1113e8031003c802110310005 jx hl rfl) V (aa au 0x111e0210034011003 fh rfl) λσD fn br bk u1 u2 u3 u4 u5=>?_
 rw [show fZ q.lc q.lp q.pb (di q o) (q.pt place) q.steps=lE from LX] at u2
 refine Xh (k:=k+13) u2 (λe he=>(AK e he).1) (aq aJ 0x1702f1138403110300170261034011003 fh sF rfl) λmZ dl v1 v2 v3=>?_
 have O:ak F0 mY mZ:=ak.trans t3 (ak.trans u5 v3)
 have PN:oh mZ mY.length tl (λi=>lC (R.cnt i) (dc lE i)):=t2.bW (ak.trans u5 v3) λm z=>z.elim
 have tll:tl<n9.length:=by obtain⟨_,T,_,h,_⟩:=t2;exact cK h
 have AJ:=u5.1
 have c1:Internal.dX .NotEq (.ref tl) (.ref dl) mZ=some false:=DF (by have:=v2.1;exact(bB dR 0x11110300056302032010310004 tll AJ this rfl)) (KW 2 PN v2 λj hj=>ah6 G AK En hj)
 have fw:=O.get (s3.get f3.w λz=>f3.fw (Or.inr z)) λz=>z
 have fr:=O.get (s3.get f3.r λz=>f3.fr (Or.inr z)) λz=>z
 have fl:=O.get (s3.get f3.l λz=>f3.fl (Or.inr z)) λz=>z
 have LR:∀m,H.length<=m->¬R.foot m:=λm h z=>gQ.mpr h (J.f m z)
 have K4:=v3.get u3 λz=>z
 have YZ:=v3.get u4 λz=>z
 generalize ((q.pt place).fin q.steps).place=fp at*
 generalize ((q.pt place).fin q.steps).state=fs at*
 generalize ((q.pt place).fin q.steps).B=fB at*
 have FF:ak F0 mZ (mZ++[AC.list [.int fp,.int fs,.ref lA]]):=ak.cU _ _
 have one:∀x:Int,i8 3 (mZ++[AC.list [.int fp,.int fs,.ref lA]]) (.int x) (.int x)=some true:=λx=>congrArg some (beq_self_eq_true x)
 have c2:Internal.dX .NotEq (.ref mZ.length) (.ref br) (mZ++[AC.list [.int fp,.int fs,.ref lA]])=some false:=DF (eN (dW (cK K4))) (Au new (aN K4) rfl (vf (one fp) (vf (one fs) (vf (YL 1 (aN fl) (aN YZ)) rfl))))
 have Km:lS H.length (H.length+1) _ _ (mZ++[AC.list [.int fp,.int fs,.ref lA]]):=⟨aN (O.get (s3.get eW.1 (LR _ (cY _))) λz=>z),aN (O.get (s3.get eW.2.1 (LR _ (mH _))) λz=>z),eW.2.2⟩
 refine Xb (k:=k+12) Km (aq aJ 0x1702f11384031a0111000144300170261034011003 fh sF rfl) λrU d1 d2=>?_
 have YV:am (ae (k+14)) 4011 [.ref U.length,.ref q.st,.bytes (di q o),.int q.ahead] (yh U (fG S R place q.state (U.length+3)) q.back)=some (.int q.text.length,lQ):=ZX▸f1
 have iO:=jx▸sS (σ:=lQ) (b:=di q o) (aq aJ 0x1113e8031003c802110310005 jx hl rfl)
 rw [←Rm] at n2
 have FG:ak F0 rU (rU++[AC.list [.bytes (yg lE),.ref tl,.int (pQ lE (dc lE))]]++[AC.gX [(43,.ref rU.length),(29,.ref R.m)]]):=bE (ak.cU _ _)
 have Zx:∀m,jq H.length (H.length+1) m->m<mY.length:=λm z=>by
  have:=s3.1
  rcases z with z|z<;>(first|lia|omega)
 have Eg:mY.length<=rU.length:=bo O.1 (bo FF.1 d2.1)
 have vm:σ.length<=mY.length:=bo wJ.1 (bo f4.1 s3.1)
 exact K (rU++[AC.list [.bytes (yg lE),.ref tl,.int (pQ lE (dc lE))]]++[AC.gX [(43,.ref rU.length),(29,.ref R.m)]]) mY.length (rU++[AC.list [.bytes (yg lE),.ref tl,.int (pQ lE (dc lE))]]).length rU.length tl R
  (by exists call Yv λt=>t hS.FJ a1 n1 n2 n3 n4 (bM (c3 _ _ _) rfl rfl) m6 (S5 _).state (c3 _ _ _) BL (S5 _).back (n8 _) (c5 _ _ _ _ _) Gh (bM (c5 _ _ _ _ _) rfl rfl) S9.steps S9.ahead YV iO (tn rfl) s1 t1 u1 v1 c1 fw fw fw fr rfl c2 (aN fw) (bM Km.1 rfl rfl) d1 rfl rfl)
  ⟨new,aN new,(((PN.bW FF λm z=>z.elim).bW d2 Zx).bW FG λm z=>z.elim),((((s2.bW O).bW FF).Zf J d2 nF).bW FG),G,⟨R1,R2,R3⟩,Ne.up s3.1,Eg,bo Eg (bo (mH _) (kr jb.symm))⟩ vm LM
  (ak.trans ⟨bo vm Eg,λm hm Y=>(d2.2 m (bN hm (bo vm (bo O.1 FF.1))) (nF m (bN hm rW.1))).trans ((FF.2 m (bN hm (bo vm O.1)) id).trans ((O.2 m (bN hm vm) id).trans ((s3.2 m (bN hm (bo wJ.1 f4.1)) (vt m hm)).trans ((f4.2 m (bN hm wJ.1) (vn m hm)).trans (wJ.2 m hm id)))))⟩ FG)
end
end
structure GS(X:List Int)(a:Int)(p:Pt)(st:aK):Prop where
 pC:a<=p.at'/\p.at'+st.size<=X.length
 B4:p.B.length=4
 s:0<=p.state/\p.state<12
 B0:7<=p.state->1<=p.B.getD 0 0/\p.B.getD 0 0<=p.at'/\p.at'- p.B.getD 0 0≠a- 1
 aA:st≠.lit->1<=st.aA p.B/\st.aA p.B<=128/\st.aA p.B<=p.place/\st.aA p.B<=p.at'/\∀i,0<=i->i<st.size->X.getD (p.at'+i).toNat 0=X.getD (p.at'+i- st.aA p.B).toNat 0/\p.at'+i- st.aA p.B≠a- 1
 size:st≠.lit->st≠.dU->2<=st.size/\st.size<=273
 spot:∀i s,st=.rep i s->0<=i/\i<=3
def Gs(X:List Int)(a:Int):Pt->List aK->Prop
 |_,[]=>True
 |p,st::r=>GS X a p st/\Gs X a (p.next st) r
structure Alike(p p':Pt):Prop where
 s:p.state=p'.state
 a:p.at'=p'.at'
 B:p.B=p'.B
theorem Alike.next(h:Alike p U)(st:aK):Alike (p.next st) (U.next st):=by
 unfold Pt.next
 exact⟨by rw [h.s],by rw [h.a],by rw [h.B]⟩
theorem ag8{X:List Int}{st:aK}(g:GS X a p st):1<=st.size:=by
 cases st with
 |lit=>decide
 |dU=>decide
 |ez f s=>have:=g.size nofun nofun;exact(aa az 0x11001011011103100000201107 this rfl)
 |rep f s=>have:=g.size nofun nofun;exact(aa az 0x11001011011103100000201107 this rfl)
section
variable {q:eO}{o o':Int}
theorem GS.vs(Q:g8 q)(V:0<=o/\o<=255){st:aK}(g:GS q.text q.ahead p st)(h:Alike p U)(hp:p.place<=U.place):VS (di q o) U.place U.state U.B U.at' st:=by
 have hs:=Fg (o:=o) Q
 have Y:=Q.ahead
 have J:=g.pC
 refine⟨by rw [←h.a,hs];exact(aq jt 0x101010113022010401010110730220104010000730200000401107 Y J rfl),by exact h.B▸g.B4,by exact h.s▸g.s,λz=>by rw [←h.B,←h.a];have:=g.B0 (by exact h.s▸z);exact(aa cF 0x10101110000001011071011205001052610000700101107 this rfl),λz=>?_,g.size,g.spot⟩
 rw [←h.B,←h.a]
 obtain⟨Z,f2,f3,f4,f5⟩:=g.aA z
 refine⟨Z,f2,(aq cF 0x111102000020010000 hp f3 rfl),f4,λi H O=>?_⟩
 have:=f5 i H O
 rw [yp Q V (by exact(gI uS 0x10011010110140230104130104001072030130001040220104010000740200000401107 Y J H O rfl)),yp Q V (by exact(pL Dv 0x10100110001101502304010451304010450010720401400010103003010110502201040100007 J Z f4 H O rfl)),if_neg (by exact(aq uS 0x110110110053010426300010402201040100007 J H rfl)),if_neg this.2,this.1]
theorem Gs.vs(Q:g8 q)(J:0<=o/\o<=255):∀{L:List aK} {p U:Pt},Gs q.text q.ahead p L->Alike p U->p.place<=U.place->Vs (di q o) U L
 |[],_,_,_,_,_=>trivial
 |st::L,p,U,g,h,hp=>⟨g.1.vs Q J h hp,Gs.vs Q J g.2 (h.next st) (by show p.place+st.size<=U.place+st.size;exact(aa cF 0x112010420004010000 hp rfl))⟩
noncomputable def qD(b:Array UInt8)(p:Pt):Int:=if p.place>0 then oct b (p.at'- 1) else 0
theorem Av{lc:Int}(Q:g8 q)(ho:0<=o/\o<=255)(L7:0<=o'/\o'<=255):∀{L:List aK} {H p U:Pt},Gs q.text q.ahead H L->Alike H p->Alike H U->(0<=p.place/\0<=U.place)->
  p.place%2^pb.toNat=U.place%2^pb.toNat->(aK.lit∈L->p.place%2^lp.toNat=U.place%2^lp.toNat)->
  (L.head?=some .lit->qD (di q o) p/2^(8- lc).toNat=qD (di q o') U/2^(8- lc).toNat)->fZ lc lp pb (di q o) p L=fZ lc lp pb (di q o') U L
 |[],_,_,_,_,_,_,_,_,_,_=>rfl
 |st::L,H,p,U,g,h,h',hp,Mf,V,hb=>by
  have ha:=Q.ahead
  have J:=g.1.pC
  have O:=ag8 g.1
  have same:∀i:Int,0<=i->i<q.text.length->i≠q.ahead- 1->oct (di q o) i=oct (di q o') i:=λi h1 h2 h3=>by
   rw [yp Q ho ⟨h1,h2⟩,yp Q L7 ⟨h1,h2⟩,if_neg h3,if_neg h3]
  have Z:∀n:Int,p.place%n=U.place%n->(p.place+st.size)%n=(U.place+st.size)%n:=λn e=>by rw [Ip,e,←Ip]
  have aay:fZ lc lp pb (di q o) (p.next st) L=fZ lc lp pb (di q o') (U.next st) L:=by
   refine Av Q ho L7 g.2 (h.next st) (h'.next st) ⟨by show 0<=p.place+st.size;exact(aq cF 0x11120004001020101101000100000107 hp O rfl),by show 0<=U.place+st.size;exact(aq cF 0x101120104001020101101000100000107 hp O rfl)⟩ (Z _ Mf) (λz=>Z _ (V (ib _ z))) λz=>?_
   have e:qD (di q o) (p.next st)=qD (di q o') (U.next st):=by
    unfold qD
    have e1:(p.next st).place>0:=by show p.place+st.size>0;exact(aq cF 0x11120004001120101101000100000107 hp O rfl)
    have e2:(U.next st).place>0:=by show U.place+st.size>0;exact(aq cF 0x101120104001120101101000100000107 hp O rfl)
    rw [if_pos e1,if_pos e2]
    show oct (di q o) (p.at'+st.size- 1)=oct (di q o') (U.at'+st.size- 1)
    rw [←h'.a,←h.a]
    exact same _ (bB jt 0x1011110112010450010201011030220104010000730200000401107 ha J O rfl) (aa jt 0x10130210112010451302201040100007 J rfl) (aq jt 0x110110110051011201045262010110302201040100007 J O rfl)
   rw [e]
  have sH:st.ev lc lp pb (di q o) p.place p.state p.B p.at'=st.ev lc lp pb (di q o') U.place U.state U.B U.at':=by
   have Y:bO pb p.place=bO pb U.place:=Mf
   rw [←h.s,←h.B,←h.a,←h'.s,←h'.B,←h'.a]
   cases st with
   |lit=>
    have hb:=hb rfl
    have V:=V (by simp)
    unfold qD at hb
    rw [←h.a,←h'.a] at hb
    show litE lc lp pb H.state p.place (if p.place>0 then oct (di q o) (H.at'- 1) else 0) (oct (di q o) H.at') (if H.state<7 then 0 else oct (di q o) (H.at'- H.B.getD 0 0))=litE lc lp pb H.state U.place (if U.place>0 then oct (di q o') (H.at'- 1) else 0) (oct (di q o') H.at') (if H.state<7 then 0 else oct (di q o') (H.at'- H.B.getD 0 0))
    simp only [aK.size] at J
    have e1:oct (di q o) H.at'=oct (di q o') H.at':=same _ (aq iB 0x10111000102021011104010000720200000401107 ha J rfl) (aa iB 0x10120210120210111040100007 J rfl) (aa iB 0x1011011005102620210111040100007 J rfl)
    have e2:(if H.state<7 then 0 else oct (di q o) (H.at'- H.B.getD 0 0))=(if H.state<7 then 0 else oct (di q o') (H.at'- H.B.getD 0 0)):=by
     split
     ·rfl
     ·rename_i z
      have:=g.1.B0 (aa az 0x11007011070110016 z rfl)
      exact same _ (aa cF 0x1010010500101011205001052610000700101107 this rfl) (aq jt 0x10011302201051101100520105261020072010110730210111040100007 J this rfl) this.2.2
    unfold litE i7
    rw [Y,V,hb,e1,e2]
   |dU=>
    show pZ pb H.state p.place=pZ pb H.state U.place
    unfold pZ;rw [Y]
   |ez f s=>
    show kI pb H.state p.place f s=kI pb H.state U.place f s
    unfold kI;rw [Y]
   |rep f s=>
    show kK pb H.state p.place f s=kK pb H.state U.place f s
    unfold kK kG;rw [Y]
  show _++_=_++_
  rw [sH,aay]
theorem K8(p:Pt):∀{L:List aK} {U:Pt},Alike p U->(p.fin L).at'=(U.fin L).at'
 |[],_,h=>h.a
 |st::L,U,h=>K8 (p.next st) (L:=L) (h.next st)
end
inductive gq(σ:AH)(j n:Nat):Prop
 |mk (g m c:Int) (h:σ[j]?=some (.list [.int g,.int m,.int c])) (r:0<=g/\0<=m/\m<9973/\0<=c/\c<=n)
theorem gq.le(h:gq σ j n)(H:n<=J):gq σ j J:=by
 obtain⟨g,m,c,O,U⟩:=h
 exact⟨g,m,c,O,(aq wY 0x11000010010001000100100001010000011402200200010726f5041101710001070000107302200200010726f504110171000107000010740303 H U rfl)⟩
theorem gq.bW{F:Nat->Prop}(h:gq σ j n)(x:ak F σ σ')(H:¬F j):gq σ' j n:=by
 obtain⟨g,m,c,J,O⟩:=h
 exact⟨g,m,c,x.get J H,O⟩
theorem VX:100000<=bitsLine:=by decide+kernel
theorem VO(O:x.natAbs<2^a)(hy:y.natAbs<2^b)(h:a+b<=100000):intOp .Mult x y=some (x*y):=if_pos (by
 have H:=intBits_le O
 have J:=intBits_le hy
 have U:=VX
 unfold yi
 rw [HE,Hs]
 exact .inr (decide_eq_false (bB dR 0x1111302202480000000712161030300203186a0051100043 h H J rfl)))
section
variable {k:Nat}{σ:AH}{φ:bK}{j:Nat}{a b c:Int}
theorem xV(h:σ[j]?=some (.list [.int a,.int b,.int c])):cP φ (.ref j) (.int 0) σ=some (.int a,σ):=lz h (show 3<=1000 by decide) rfl rfl
theorem MD(h:σ[j]?=some (.list [.int a,.int b,.int c])):cP φ (.ref j) (.int 1) σ=some (.int b,σ):=lz h (show 3<=1000 by decide) rfl rfl
theorem vC(h:σ[j]?=some (.list [.int a,.int b,.int c])):cP φ (.ref j) (.int 2) σ=some (.int c,σ):=lz h (show 3<=1000 by decide) rfl rfl
theorem iu(h:gq σ j n)(hn:n<=1000000)(V:1<=many/\many<=1000000000){G:Prop}
  (K:∀σ' v,am (ae (k+1)) 4044 [.ref j,.int many] σ=some (.int v,σ')->0<=v/\v<many->gq σ' j (n+1)->ak (λm=>m=j) σ σ'->G):G:=by
 obtain⟨g,m,c,U,J⟩:=h
 have Y:pU (ae k) (.ref j) (.int 2) (.int (c+1)) σ=some ((),σ.set j (.list [.int g,.int m,.int (c+1)])):=Gg U (show 3<=1000 by decide) (j:=2) rfl
 have H:(σ.set j (.list [.int g,.int m,.int (c+1)]))[j]?=some (.list [.int g,.int m,.int (c+1)]):=gH U
 have F1:ak (λm=>m=j) σ (σ.set j (.list [.int g,.int m,.int (c+1)])):=ak.set _ _ _ rfl
 generalize σ.set j (.list [.int g,.int m,.int (c+1)])=av at*
 have hp:0<many:=(aa az 0x110000113b9aca0008100000101107 V rfl)
 have Z:∀x,intOp .Mod x many=some (x%many):=λx=>li hp
 have hr:∀x,0<=x%many/\x%many<many:=λx=>⟨rJ _ (qh hp),rS _ hp⟩
 by_cases q:g>0
 ·have O:intOp .FloorDiv g many=some (g/many):=qM (aa az 0x1010114000000008100100001173b9aca0008100000101107 V rfl)
  have S0:pU (ae k) (.ref j) (.int 0) (.int (g/many)) av=some ((),av.set j (.list [.int (g/many),.int m,.int (c+1)])):=Gg H (show 3<=1000 by decide) (j:=0) rfl
  have hg:0<=g/many:=ze J.1 (iA hp)
  refine K _ (g%many) ?_ (hr g) ⟨g/many,m,c+1,gH H,(aq uS 0x10000010100001001000100010010000011101140421011204010112040010726f5041101710001073000107300010402200200010726f5041101710001070000107 J hg rfl)⟩ (pD rfl F1)
  exists call KA λt=>t (vC U) Y (xV H) (nE q) (xV H) (Z _) (xV H) O S0
 ·refine K av ((m*(2*(c+1)+5)+13*(c+1)*(c+1)+4)%9949/3%many) ?_ (hr _) ⟨g,m,c+1,H,(aa jt 0x100001010001001001000101000011101130421011204010112040010726f5041101710001070000107302200200010726f5041101710001070000107 J rfl)⟩ F1
  have e2:intOp .Mult m (2*(c+1)+5)=some (m*(2*(c+1)+5)):=nJ (.inl (nA (aa jt 0x100100010110000000000000000111210110100000000000000001112317302200200010726f5041101710001070000107 J rfl)))
  have e4:intOp .Mult (13*(c+1)) (c+1)=some (13*(c+1)*(c+1)):=nJ (.inr (nA (aq jt 0x11000010010001100000000000000001112101120411011204100000000000000001112317302200200010726f5041101710001070000107f4240051303 hn J rfl)))
  exists call KA λt=>t (vC U) Y (xV H) (gU q) (MD H) (vC H) (fi rfl) e2 (vC H) (fi rfl) (vC H) e4 (li ∅) (qM ∅) (Z _)
end
section
variable {k:Nat}{σ:AH}
theorem WK{l:List Int}:((l.map V.int).take (clipAt (l.map V.int).length 24))=(l.take 24).map .int:=by
 rw [uu,show clipAt (l.map V.int).length 24=min 24 (l.map V.int).length from clipAt_nat _ 24]
 exact(List.take_eq_take_min ..).symm
theorem FE:intOp .Pow 10 18=some (10^18):=tH ∅
theorem Oa:intOp .Pow 10 40=some (10^40):=tH ∅
theorem PJ(h:i<=J):((10:Int)^40)^i<=(10^40)^J:=by
 have:=Hu (n:=10^40) ∅ h
 exact_mod_cast this
theorem ahK:((10:Int)^40)^24<(2^4000:Nat):=by decide+kernel
theorem aa7{s:Nat}{xs:List Int}{o:Obj}(h:σ[s]?=some (.jT (xs.map .int) o))(hx:xs.length<=63){G:Prop}
  (K:∀σ' j,am (ae (k+1)) 4037 [.ref s] σ=some (.ref j,σ')->gq σ' j 0->ak F0 σ σ'->σ.length<=j->G):G:=by
 have U:=Pd (front:=true) (i:=24) (bI h rfl:nI σ s=some (xs.map .int)) ∅ (by rw [bf];exact(aa au 0x113e80310033f021003 hx rfl)) rfl
 rw [if_pos rfl,WK] at U
 have F1:ak F0 σ (σ++[AC.list ((xs.take 24).map .int)]):=ak.cU _ _
 have g1:(σ++[AC.list ((xs.take 24).map V.int)])[σ.length]?=some (.list ((xs.take 24).map .int)):=new
 generalize Mq:σ++[AC.list ((xs.take 24).map V.int)]=av at*
 refine yT (φ:=ae k) (σ:=σ) (cZ:=av) (ρ:=[some (.ref s),some (.int 0),some (.int 25),none]) (s:=GZ.stmt 1) (l:=(xs.take 24).map .int) (ls:=σ.length) rfl
  (by exists iter λt=>t U g1)
  (λi ρ σ'=>∀G:Prop,(∀(g m:Int) a,ρ=[some (.ref s),some (.int g),some (.int m),a]->σ'=av->0<=g/\g<(10^40)^i->0<=m/\m<9973->G)->G)
  (λG K=>K 0 25 none rfl rfl ∅ ∅) (λi ρ aC h=>h _ λg m a Y e Y Y=>e▸bI g1 rfl) (λi v ρ aC hv hI G K=>hI G λg m a e e' J b2=>?_) λaV σ' h1 h2=>h2 G λg m a e e' J b2=>?_
 ·subst e e'
  replace hv:=(eT)▸hv
  obtain⟨x,hx',rfl⟩:=Hl.mp hv
  have hi:i<24:=bN (gC.mp hx').1 (List.length_take_le ..)
  have hax:0<=(if x<0 then-x else x):=by split<;>omega
  have H:fk .abs [.int x] aC=some (.int (if x<0 then-x else x),aC):=rfl
  generalize (if x<0 then-x else x)=O at*
  by_cases z:O>=10^18
  ·have hb:=PJ (iI hi)
   have hg:g.natAbs<2^4000:=nA ⟨Cs (Int.neg_neg_of_pos (by decide+kernel)) J.1,Cs J.2 (iA (HC hb ahK))⟩
   have Z:intOp .Mult g (10^40)=some (g*10^40):=VO (a:=4000) (b:=140) hg (by decide+kernel) ∅
   have r1:0<=(O- 10^18)%10^40:=rJ _ ∅
   have r2:(O- 10^18)%10^40<10^40:=rS _ ∅
   have h12:0<=g*10^40:=o8 J.1 ∅
   have Zn:g*10^40<=((10^40)^i- 1)*10^40:=zv (Int.le_sub_one_of_lt J.2) ∅
   rw [C0,lO,←qk] at Zn
   refine K _ .next _ aC rfl ?_ λG K=>K (g*10^40+(O- 10^18)%10^40) m (some (.int x)) rfl rfl (by omega) b2
   exists body λt=>t H FE (AD z) Oa Z H FE Oa (li ∅)
  ·refine K _ .next _ aC rfl ?_ λG K=>K g ((m*31+2*O+if decide (x<0)=true then 1 else 0)%9973) (some (.int x)) rfl rfl ⟨J.1,Cs J.2 (PJ (mH i))⟩ ⟨rJ _ ∅,rS _ ∅⟩
   exists body λt=>t H FE (AB z) (Nu rfl) H (fi rfl) rfl rfl (li ∅)
 ·subst e e'
  refine K _ σ'.length ?_ ⟨g,m,0,new,J.1,b2.1,b2.2,by decide,by decide⟩ (bE F1) F1.1
  exists call Yr λt=>t h1 rfl
end
theorem GS.ext{X:List Int}{st:aK}(g:GS X a p st)(V:0<=a):GS (X++Y) a p st:=by
 have J:=g.pC
 have hl:(X++Y).length=X.length+Y.length:=bZ
 refine⟨⟨J.1,by rw [hl];exact(aa wY 0x101403042201040302201040100007 J rfl)⟩,g.B4,g.s,g.B0,λz=>?_,g.size,g.spot⟩
 obtain⟨Z,f2,f3,U,f5⟩:=g.aA z
 refine⟨Z,f2,f3,U,λi H O=>?_⟩
 have:=f5 i H O
 have e:∀n:Nat,n<X.length->(X++Y).getD n 0=X.getD n 0:=λn hn=>by
  rw [jI,jI,lJ hn]
 rw [e _ (by exact(bB Wo 0x1010114050430104502220301402201040100007 J O (be (bB uS 0x10111301040010300010402201040100007000010 V J H rfl)) rfl)),e _ (by exact(gI Jw 0x101101150604304010456022204013010110502201040100007 J Z O (be (aq cF 0x11100201045001020001010000 U H rfl)) rfl))]
 exact this
theorem Gs.ext{X:List Int}(H:0<=a):∀{L:List aK} {p:Pt},Gs X a p L->Gs (X++Y) a p L
 |[],_,_=>trivial
 |st::L,p,g=>⟨g.1.ext H,Gs.ext H g.2⟩
theorem Gs.snoc{X:List Int}{st:aK}:∀{L:List aK} {p:Pt},Gs X a p L->GS X a (p.fin L) st->Gs X a p (L++[st])
 |[],_,_,h=>⟨h,trivial⟩
 |s::L,p,g,h=>⟨g.1,Gs.snoc (p:=p.next s) g.2 h⟩
noncomputable def fM(aA:Nat):Nat->List Int->List Int
 |0,X=>X
 |c+1,X=>fM aA c X++[(fM aA c X).getD ((fM aA c X).length- aA) 0]
theorem xm(aA:Nat)(X:List Int):∀c,(fM aA c X).length=X.length+c
 |0=>rfl
 |c+1=>by rw [fM,bZ,xm aA X c];rfl
theorem Ac(aA:Nat)(X:List Int):∀c,∃Y,fM aA c X=X++Y
 |0=>⟨[],(qd X).symm⟩
 |c+1=>by
  obtain⟨Y,h⟩:=Ac aA X c
  exact⟨Y++[(fM aA c X).getD ((fM aA c X).length- aA) 0],by rw [fM,←iX,←h]⟩
theorem J5{X:List Int}(J:1<=aA/\aA<=X.length):∀(c i:Nat),i<c->(fM aA c X).getD (X.length+i) 0=(fM aA c X).getD (X.length+i- aA) 0
 |0,_,h=>by omega
 |c+1,i,h=>by
  have V:=xm aA X c
  rw [fM]
  simp only [jI]
  rcases ux i c with q|q
  ·rw [lJ (by exact(aq dR 0x1011003010442030420104005 V q rfl)),lJ (by exact(bB Dt 0x10101100404504043010433010440372030420104005 V q (sN _ _) rfl))]
   have:=J5 J c i q
   simp only [jI] at this
   exact this
  ·have:i=c:=(aq aJ 0x10101110005001031011104004 h q rfl)
   subst this
   rw [yV (by exact(aa bL 0x112010400320104005 V rfl)),lJ (by exact(bB nk 0x1100112040430104004045301042051000300101137 J V (cG (aa bL 0x101201040031000300101137 J rfl)) rfl)),V,CU]
   simp
theorem DM{X:List Int}(J:1<=aA/\aA<=X.length){P:Int->Prop}(h:∀x∈X,P x):∀c,∀x∈fM aA c X,P x
 |0,x,hx=>h x hx
 |c+1,x,hx=>by
  rw [fM] at hx
  rcases kj.mp hx with hx|hx
  ·exact DM J h c x hx
  ·simp at hx
   have V:=xm aA X c
   have Z:(fM aA c X).length- aA<(fM aA c X).length:=(aq dR 0x101130204300020451000300101137 J (cG (aq dR 0x1010120003301042051000300101137 J V rfl)) rfl)
   rw [iy Z] at hx
   simp at hx
   rw [hx]
   exact DM J h c _ (HV Z)
structure LP(a place:Int)(X:List Int)(L:List aK)(p:Pt):Prop where
 len:(X.length:Int)=p.at'
 pl:p.place=place+p.at'- a
 oct:∀x∈X,0<=x/\x<=255
 B4:p.B.length=4
 Bm:∀i,i<4->1<=p.B.getD i 0/\p.B.getD i 0<=p.at'
 s:0<=p.state/\p.state<12
 b0:7<=p.state->p.at'- p.B.getD 0 0≠a- 1
 ha:4<=a/\a<=9/\a<=p.at'/\p.at'<=a+25*L.length
 hL:L.length<=4
structure LN(j tx stp bk:Nat):Prop where
 n1:j≠tx
 n2:j≠stp
 n3:j≠bk
 n4:tx≠stp
 n5:tx≠bk
 n6:stp≠bk
structure LS(σ:AH)(j tx stp bk n:Nat)(X:List Int)(L:List aK)(B:List Int):Prop where
 qW:gq σ j n
 qR:σ[tx]?=some (.list (X.map .int))
 fh:σ[stp]?=some (.list (L.map aK.v))
 sG:σ[bk]?=some (.list (B.map .int))
 ne:LN j tx stp bk
noncomputable def ip(j tx cN stp bk:Nat)(many place a:Int)(a8 a9 dm cW bS cJ bA bJ:Option V):bc:=
 [some (.ref j),some (.int many),some (.ref tx),some (.ref cN),some (.int place),some (.int a),some (.ref stp),some (.ref bk),a8,a9,dm,cW,bS,cJ,bA,bJ]
noncomputable def pM:XB:=(Ca.stmt 1).zT
noncomputable def XB.fst:Nat->XB->XB
 |0,_=>.nil
 |_+1,.nil=>.nil
 |n+1,.cons s b=>.cons s (b.fst n)
noncomputable def XB.nL:Nat->XB->XB
 |0,b=>b
 |_+1,.nil=>.nil
 |n+1,.cons _ b=>b.nL n
theorem nT{r}:∀(n:Nat) {b:XB} {ρ:bc} {σ:AH},xb φ (b.fst n) ρ σ=some ((.next,aV),σ')->xb φ (b.nL n) aV σ'=r->xb φ b ρ σ=r
 |0,b,ρ,σ,h,J=>by cases h;exact J
 |n+1,.nil,ρ,σ,h,J=>by cases h;exact J
 |n+1,.cons s b,ρ,σ,h,J=>bg h λp av O U=>bC O (match p,U with
  |(.next,H),U=>nT n U J
  |(.cont,_),U=>nomatch U
  |(.ret _,_),U=>nomatch U)
inductive Kd(B:List Int):bu->Int->Int->Prop
 |lit (aA spot:Int):Kd B 35 aA spot
 |ez (aA spot:Int):Kd B 36 aA spot
 |rep (spot:Int) (h:0<=spot/\spot<=3):Kd B 37 (B.getD spot.toNat 0) spot
 |dU (spot:Int):Kd B 38 (B.getD 0 0) spot
section
variable {k:Nat}{σ:AH}{j tx stp bk cN n:Nat}{a place many:Int}{X:List Int}{L:List aK}{B:List Int}{p:Pt}{a8 a9 dm cW bS cJ bA bJ:Option V}
theorem LS.bW{F:Nat->Prop}(h:LS σ j tx stp bk n X L B)(x:ak F σ σ')(J:∀m,F m->m=j)(H:gq σ' j O):LS σ' j tx stp bk O X L B:=
 ⟨H,x.get h.qR λz=>h.ne.n1 (J _ z).symm,x.get h.fh λz=>h.ne.n2 (J _ z).symm,x.get h.sG λz=>h.ne.n3 (J _ z).symm,h.ne⟩
theorem LS.le(h:LS σ j tx stp bk n X L B)(H:n<=J):LS σ j tx stp bk J X L B:=⟨h.qW.le H,h.qR,h.fh,h.sG,h.ne⟩
theorem LS.pick(h:LS σ j tx stp bk n X L B)(H:n<=1000000)(J:1<=m/\m<=1000000000){G:Prop}
  (K:∀σ' v,am (ae (k+1)) 4044 [.ref j,.int m] σ=some (.int v,σ')->0<=v/\v<m->LS σ' j tx stp bk (n+1) X L B->ak (λm=>m=j) σ σ'->G):G:=
 iu h.qW H J λσ' v O V Z U=>K σ' v O V (h.bW U (λY z=>z) Z) U
theorem LS.cU(h:LS σ j tx stp bk n X L B)(l:AH):LS (σ++l) j tx stp bk n X L B:=h.bW (F:=F0) (ak.cU _ _) (λY z=>z.elim) (h.qW.bW (F:=F0) (ak.cU _ _) λz=>z)
theorem LS.back(h:LS σ j tx stp bk n X L B)(U:B.length=4)(O:0<=i/\i<=3):cP φ (.ref bk) (.int i) σ=some (.int (B.getD i.toNat 0),σ):=
 kN h.sG (by rw [bf];exact(aa au 0x113e80310034011005 U rfl)) (by rw [bf];exact(aq aX 0x10101000111020010000107301100000001074011105 U O rfl)) (by rw [eT,jI,iy (by exact(bB cQ 0x101001110204002022301100000001074011105 U O (be (aa az 0x1100001030110000000107 O rfl)) rfl))];rfl)
theorem LP.Bd(q:LP a place X L p):X.length<=200/\(X.map V.int).length<=1000:=by
 have H:=q.len
 have J:=q.ha
 have O:=q.hL
 rw [bf]
 exact(bB pq 0x110101902f10110101902f13e8031203c802120374011303302190261040000010079011100710401107002022 H J O rfl)
theorem LS.Be(h:LS σ j tx stp bk n X L B)(q:LP a place X L p):fk .len [.ref tx] σ=some (.int p.at',σ):=by
 have e:=E1 h.qR q.Bd.2
 rwa [bf,q.len] at e
theorem abS(h:LS σ j tx stp bk n X L p.B)(q:LP a place X L p)(hn:n<=1000){G:Prop}
  (K:∀σ' kd aA spot,xb (ae (k+1)) (pM.fst 3) (ip j tx cN stp bk many place a a8 a9 dm cW bS cJ bA bJ) σ=some ((.next,ip j tx cN stp bk many place a a8 (some (.str kd)) (some (.int aA)) (some (.int spot)) bS cJ bA bJ),σ')->
   LS σ' j tx stp bk (n+3) X L p.B->ak (λm=>m=j) σ σ'->1<=aA/\aA<=p.at'->Kd p.B kd aA spot->G):G:=by
 have F1:ak (λm=>m=j) σ (σ++[AC.list [V.str 35,.str 36,.str 37,.str 38,.str 35]]):=ak.cU _ _
 refine(h.cU [AC.list [.str 35,.str 36,.str 37,.str 38,.str 35]]).pick (k:=k) (m:=5) (aa au 0x11f42400510033e8031003 hn rfl) ∅ λav v Y p2 J p5=>?_
 have nG:j<σ.length:=by obtain⟨_,_,_,h0,_⟩:=h.qW;exact cK h0
 have hk:av[σ.length]?=some (.list [.str 35,.str 36,.str 37,.str 38,.str 35]):=p5.get new (gZ nG)
 have Z:cP (ae (k+1)) (.ref bk) (.int 0) av=some (.int (p.B.getD 0 0),av):=J.back q.B4 (i:=0) ∅
 have hXl:=q.len
 have vo:=q.ha
 have hL:=q.hL
 have F2:=F1.trans p5
 have U:=q.Bm 0 ∅
 have sk:∀i:Nat,∀s:V,[V.str 35,.str 36,.str 37,.str 38,.str 35][i]?=some s->idx v 5=some i->cP (ae (k+1)) (.ref σ.length) (.int v) av=some (s,av):=λi s e e'=>lz hk (show 5<=1000 by decide) e' e
 have hv:=Fx p2
 rcases hv with rfl|rfl|rfl|rfl|rfl
 ·refine K av 35 (p.B.getD 0 0) 0 ?_ (J.le (bx au 0x1301100410110043 rfl)) F2 U (.lit _ _)
  have H:=sk 0 _ rfl rfl
  exists body λt=>t rfl Y H Z rfl rfl
 ·refine J.pick (k:=k) (m:=p.at') (aa au 0x11f4240051101100433e8031003 hn rfl) (aq iB 0x10101902f10101013b9aca00081100101011074011203202190260041001000079011000700401107 vo hL rfl) λaC w q1 O q4 q5=>?_
  have iO:=J.Be q
  have H:=sk 1 _ rfl rfl
  refine K aC 36 (1+w) 0 ?_ (q4.le (bx au 0x130110041011101100443 rfl)) (F2.trans q5) (aa dB 0x10101110001011400010114101107100010000107 O rfl) (.ez _ _)
  exists body λt=>t rfl Y H Z rfl iO q1 rfl
 ·refine J.pick (k:=k) (m:=4) (aa au 0x11f4240051101100433e8031003 hn rfl) ∅ λaC w q1 O q4 q5=>?_
  have eb:=q4.back q.B4 (i:=w) ⟨O.1,(aa az 0x101301100040110010000107 O rfl)⟩ (φ:=ae (k+1))
  have H:=sk 2 _ rfl rfl
  refine K aC 37 (p.B.getD w.toNat 0) w ?_ (q4.le (bx au 0x130110041011101100443 rfl)) (F2.trans q5) (q.Bm _ (aq aX 0x10011401110400102240110010000107 O (be (aa az 0x1100001040110010000107 O rfl)) rfl)) (.rep _ ⟨O.1,(aa az 0x101301100040110010000107 O rfl)⟩)
  exists body λt=>t rfl Y H Z rfl rfl q1 eb
 ·refine K av 38 (p.B.getD 0 0) 0 ?_ (J.le (bx au 0x1301100410110043 rfl)) F2 U (.dU _)
  have H:=sk 3 _ rfl rfl
  exists body λt=>t rfl Y H Z rfl rfl
 ·refine K av 35 (p.B.getD 0 0) 0 ?_ (J.le (bx au 0x1301100410110043 rfl)) F2 U (.lit _ _)
  have H:=sk 4 _ rfl rfl
  exists body λt=>t rfl Y H Z rfl rfl
end
noncomputable def roomF(a at' aA:Int):Int:=if at'- aA>=a then 25 else a- 2- (at'- aA)
noncomputable def Gl(s:bu):Int:=bif dP s.val 38 then 1 else 0
def Lc(kd:bu)(a place at' aA:Int):Prop:=kd=35\/aA>place+at'- a\/roomF a at' aA<2- Gl kd
noncomputable def XS.WS:XS->XE
 |.bj c _ _=>c
 |_=>.const .none
theorem Kd.short(Z:Kd B kd aA spot):∃b:Bool,(∀σ,Internal.dX .Eq (.str kd) (.str 38) σ=some b)/\Gl kd=(if b=true then 1 else 0):=by
 cases Z<;>exact⟨_,λY=>rfl,rfl⟩
theorem Kd.aeg(Z:Kd B kd aA spot)(h:kd≠35)(σ:AH):Internal.dX .Eq (.str kd) (.str 35) σ=some false:=by
 cases Z<;>first|rfl|exact absurd rfl h
section
variable {φ:bK}{ρ aV:bc}{σ σ':AH}{c:XE}{a b r:XB}
theorem aiL(h:xe φ ρ c σ=some (.bool true,σ))(J:xb φ a ρ σ=some ((.cont,aV),σ')):xb φ (.cons (.bj c a b) r) ρ σ=some ((.cont,aV),σ'):=bC (bC h J) rfl
theorem se(h:σ[n]?=some (.list l))(h':σ'[n]?=some (.list l'))(J:l'.length<=1000){G:Prop}
  (K:∀aC,iS φ (.ref n) 0 (λY=>some ([v],σ')) σ=some (.none,aC)->aC[n]?=some (.list (l'++[v]))->ak (λm=>m=n) σ' aC->G):G:=
 K _ (Bj h h' J) (gH h') (ak.set _ _ _ rfl)
end
section
variable {k:Nat}{σ:AH}{j tx stp bk cN n:Nat}{a place many aA spot:Int}{X:List Int}{L:List aK}{B:List Int}{p:Pt}{kd:bu}{a8 bS cJ bA bJ:Option V}
theorem abU(h:LS σ j tx stp bk n X L B)(q:LP a place X L p):
  xb (ae (k+1)) ((pM.nL 3).fst 2) (ip j tx cN stp bk many place a a8 (some (.str kd)) (some (.int aA)) (some (.int spot)) bS cJ bA bJ) σ=some ((.next,ip j tx cN stp bk many place a a8 (some (.str kd)) (some (.int aA)) (some (.int spot)) (some (.int (p.at'- aA))) (some (.int (roomF a p.at' aA))) bA bJ),σ):=by
 have V:=h.Be q
 unfold roomF
 by_cases z:p.at'- aA>=a
 ·rw [if_pos z]
  exists body λt=>t V (AD z)
 ·rw [if_neg z]
  exists body λt=>t V (AB z)
theorem abX(h:LS σ j tx stp bk n X L B)(q:LP a place X L p)(Z:Kd p.B kd aA spot)(hC:Lc kd a place p.at' aA):
  xe (ae (k+1)) (ip j tx cN stp bk many place a a8 (some (.str kd)) (some (.int aA)) (some (.int spot)) bS (some (.int (roomF a p.at' aA))) bA bJ) (pM.stmt 5).WS σ=some (.bool true,σ):=by
 have V:=h.Be q
 by_cases J:kd=35
 ·subst J
  exists expr λt=>t rfl
 ·have U:=Z.aeg J σ
  by_cases O:aA>place+p.at'- a
  ·exists expr λt=>t U V (nE O)
  ·obtain⟨b,H,e3⟩:=Z.short
   have H:=H σ
   have Y:=(hC.resolve_left J).resolve_left O
   rw [e3] at Y
   exists expr λt=>t U V (gU O) H rfl (iR Y)
theorem U'(h:0<=s/\s<12):0<=kD s/\kD s<7:=by unfold kD;split<;>(try split)<;>omega
theorem vH{α β:Type}(f:α->β)(l:List α)(x:α):l.map f++[f x]=(l++[x]).map f:=by rw [ko];rfl
theorem LP.lit(q:LP a place X L p)(hL:L.length<4)(hx:0<=x/\x<=255):LP a place (X++[x]) (L++[.lit]) (p.next .lit)/\GS (X++[x]) a p .lit:=by
 have J:=q.len
 have H:=q.ha
 have U:=q.pl
 have V:=U' q.s
 have Z:=q.Bm 0 ∅
 have hl:(X++[x]).length=X.length+1:=bZ
 have O:(L++[aK.lit]).length=L.length+1:=bZ
 refine⟨⟨by rw [hl];show _=p.at'+1;exact(aa aX 0x111011011004101110422001022 J rfl),by show p.place+1=place+(p.at'+1) - a;exact(aa qG 0x1110130101120410451011004230201045002 U rfl),λy hy=>(kj.mp hy).elim (q.oct y) λhy=>cA.mp hy▸hx,q.B4,λi hi=>⟨(q.Bm i hi).1,ku (q.Bm i hi).2 (iA (Int.lt_succ _))⟩,
  ⟨V.1,by show kD p.state<12;exact(aa az 0x101c01100170110010000107 V rfl)⟩,λz=>absurd (show 7<=kD p.state from z) (aa az 0x1010070110670110010000107 V rfl),⟨H.1,H.2.1,by show a<=p.at'+1;exact(aa iB 0x10011011104000202190260041001000079011000700401107 H rfl),by rw [O];show p.at'+1<=_;exact(aa iB 0x10001101120421902600410111040202190260041001000079011000700401107 H rfl)⟩,by rw [O];exact(aa au 0x114011101100434011004 hL rfl)⟩,
  ⟨⟨H.2.2.1,by rw [hl];show p.at'+1<=_;exact(aa aX 0x1011011104210110040001022 J rfl)⟩,q.B4,q.s,λz=>⟨Z.1,Z.2,q.b0 z⟩,λz=>absurd rfl z,λz=>absurd rfl z,λY Y z=>nomatch z⟩⟩
theorem abT(h:LS σ j tx stp bk n X L p.B)(q:LP a place X L p)(hn:n<=1000)(hL:L.length<4)(Z:Kd p.B kd aA spot)(hC:Lc kd a place p.at' aA){G:Prop}
  (K:∀σ' x,xb (ae (k+1)) (pM.nL 5) (ip j tx cN stp bk many place a a8 (some (.str kd)) (some (.int aA)) (some (.int spot)) bS (some (.int (roomF a p.at' aA))) bA bJ) σ=
    some ((.cont,ip j tx cN stp bk many place a a8 (some (.str kd)) (some (.int aA)) (some (.int spot)) bS (some (.int (roomF a p.at' aA))) bA bJ),σ')->
   LS σ' j tx stp bk (n+2) (X++[x]) (L++[.lit]) p.B->0<=x/\x<=255->ak (λm=>m=j\/m=tx\/m=stp) σ σ'->G):G:=by
 have N:=h.ne
 have hc:=abX (k:=k) (cN:=cN) (many:=many) (a8:=a8) (bS:=bS) (bA:=bA) (bJ:=bJ) h q Z hC
 have hX:=q.Bd.2
 refine se (φ:=ae (k+1)) (v:=aK.lit.v) h.fh h.fh (by rw [bf];exact(aa au 0x113e80310034011004 hL rfl)) λav m1 s1 F1=>?_
 rw [vH] at s1
 have t1:=F1.get h.qR N.n4
 refine iu (k:=k) (many:=3) (h.qW.bW F1 N.n2) (aa au 0x11f42400510033e8031003 hn rfl) ∅ λaC v p1 p2 p4 p5=>?_
 have fin:∀H x U,gq H j (n+2)->ak (λm=>m=j) aC H->0<=x/\x<=255->U[tx]?=some (.list (X.map .int++[.int x]))->ak (λm=>m=tx) H U->
   (xb (ae (k+1)) (pM.stmt 5).thn (ip j tx cN stp bk many place a a8 (some (.str kd)) (some (.int aA)) (some (.int spot)) bS (some (.int (roomF a p.at' aA))) bA bJ) σ=
    some ((.cont,ip j tx cN stp bk many place a a8 (some (.str kd)) (some (.int aA)) (some (.int spot)) bS (some (.int (roomF a p.at' aA))) bA bJ),U))->G:=λH x U J F3 hx t4 O e=>
  have F:=p5.trans F3
  K U x (aiL hc e) ⟨J.bW O N.n1,t4.trans (by rw [vH V.int]),O.get (F.get s1 (eN N.n2)) (eN N.n4),O.get (F.get (F1.get h.sG (eN N.n6)) (eN N.n3)) (eN N.n5),N⟩ hx
   ((F1.wide λY z=>.inr (.inr z)).trans ((F.wide λY z=>.inl z).trans (O.wide λY z=>.inr (.inl z))))
 by_cases z:v>0
 ·refine iu (k:=k) (many:=8) p4 (aa au 0x11f4240051101100433e8031003 hn rfl) ∅ λH w q1 q2 q4 q5=>?_
  refine se (φ:=ae (k+1)) (v:=.int (96+w)) t1 ((p5.trans q5).get t1 (eN N.n1)) hX λU m2 t4 O=>fin H (96+w) U q4 q5 (aa az 0x101011ff021006002140006002140010780110010000107 q2 rfl) t4 O ?_
  have fh:=h.fh
  exists body λt=>t m1 p1 (nE z) q1 m2
 ·refine iu (k:=k) (many:=256) p4 (aa au 0x11f4240051101100433e8031003 hn rfl) ∅ λH w q1 q2 q4 q5=>?_
  refine se (φ:=ae (k+1)) (v:=.int w) t1 ((p5.trans q5).get t1 (eN N.n1)) hX λU m2 t4 O=>fin H w U q4 q5 (aa az 0x101011ff02100000001071000310010000107 q2 rfl) t4 O ?_
  exists body λt=>t m1 p1 (gU z) q1 m2
end
inductive gE(B:List Int):bu->Int->Int->Int->aK->Prop
 |ez (aA spot size:Int) (h:2<=size):gE B 36 aA spot size (.ez aA size)
 |rep (spot size:Int) (hs:0<=spot/\spot<=3) (h:2<=size):gE B 37 (B.getD spot.toNat 0) spot size (.rep spot size)
 |dU (spot:Int):gE B 38 (B.getD 0 0) spot 1 .dU
section
variable {k:Nat}{σ:AH}{j tx stp bk cN n:Nat}{a place many aA spot size:Int}{X:List Int}{L:List aK}{B:List Int}{p:Pt}{kd:bu}{st:aK}{a8 a9 cW bS cJ bA bJ:Option V}
theorem gE.sz(h:gE B kd aA spot size st):st.size=size:=by cases h<;>rfl
theorem gE.fr(h:gE B kd aA spot size st):st.aA B=aA:=by cases h<;>rfl
theorem gE.nl(h:gE B kd aA spot size st):st≠.lit:=by cases h<;>exactλz=>nomatch z
theorem gE.pos(h:gE B kd aA spot size st):1<=size:=by
 cases h with
 |ez _ _ _ h=>exact(aa az 0x1100101100020110 h rfl)
 |rep _ _ _ h=>exact(aa az 0x1100101100020110 h rfl)
 |dU=>decide
theorem gE.two(h:gE B kd aA spot size st)(z:st≠.dU):2<=size:=by
 cases h with
 |ez _ _ _ h=>exact h
 |rep _ _ _ h=>exact h
 |dU=>exact absurd rfl z
theorem gE.spt(h:gE B kd aA spot size st)(i s:Int)(z:st=.rep i s):0<=i/\i<=3:=by
 cases h with
 |rep _ _ h _=>cases z;exact h
 |_=>nomatch z
theorem xA{P:Int->Prop}(H:P J)(O:P U)(V:P Y)(Z:P b3):∀i,i<4->P ([J,U,Y,b3].getD i 0)
 |0,_=>H
 |1,_=>O
 |2,_=>V
 |3,_=>Z
 |_+4,h=>absurd h (bx au 0x14011401100446 rfl)
theorem gE.back(h:gE B kd aA spot size st)(Z:B.length=4){P:Int->Prop}(hf:P aA)(H:∀i,i<4->P (B.getD i 0)):(st.back B).length=4/\(st.back B).getD 0 0=aA/\∀i,i<4->P ((st.back B).getD i 0):=by
 obtain⟨b0,b1,b2,b3,rfl⟩:=xz Z
 have J:=H 0 ∅
 have O:=H 1 ∅
 have U:=H 2 ∅
 have Y:=H 3 ∅
 cases h with
 |ez=>exact⟨rfl,rfl,xA hf J O U⟩
 |rep spot size hs=>
  have V:=N8 ⟨hs.1,wi.mpr hs.2⟩
  rcases V with rfl|rfl|rfl|rfl
  ·exact⟨rfl,rfl,xA J O U Y⟩
  ·exact⟨rfl,rfl,xA O J U Y⟩
  ·exact⟨rfl,rfl,xA U J O Y⟩
  ·exact⟨rfl,rfl,xA Y J O U⟩
 |dU=>exact⟨Z,rfl,H⟩
theorem gE.state(h:gE B kd aA spot size st)(s:Int):0<=st.state s/\st.state s<12:=by
 cases h with
 |ez=>show 0<=lV s/\lV s<12;unfold lV;split<;>decide
 |rep=>show 0<=lW s/\lW s<12;unfold lW;split<;>decide
 |dU=>show 0<=lY s/\lY s<12;unfold lY;split<;>decide
theorem LP.step(q:LP a place X L p)(K:gE p.B kd aA spot size st)(hL:L.length<4)(O:1<=aA/\aA<=p.at')(xF:aA<=place+p.at'- a)(U:size<=roomF a p.at' aA):
  LP a place (fM aA.toNat size.toNat X) (L++[st]) (p.next st)/\GS (fM aA.toNat size.toNat X) a p st:=by
 have J:=q.len
 have H:=q.ha
 have vv:=q.pl
 have Z:=K.pos
 have hz:=K.sz
 obtain⟨k1,k2,k3⟩:=K.back q.B4 (P:=λx=>1<=x/\x<=p.at') O q.Bm
 have AO:=xm aA.toNat X size.toNat
 have mq:(L++[st]).length=L.length+1:=bZ
 have V:p.at'- aA>=a/\size<=25\/p.at'- aA<a/\size<=a- 2- (p.at'- aA):=by
  unfold roomF at U
  split at U
  ·exact .inl ⟨‹_›,U⟩
  ·exact .inr ⟨Int.not_le.mp ‹_›,U⟩
 have Em:1<=aA.toNat/\aA.toNat<=X.length:=(bB pq 0x1010011010010120303301011370030221020221000000101107 O J (be (aa dB 0x110000101000000101107 O rfl)) rfl)
 refine⟨⟨by show _=p.at'+st.size;rw [AO,hz];exact(aq pq 0x101110101100043020422103022002022 J (be (aa az 0x110000100010110 Z rfl)) rfl),by show p.place+st.size=place+(p.at'+st.size) - a;exact(aa nq 0x111013040204104540004230201045002 vv rfl),DM Em q.oct _,k1,λi hi=>⟨(k3 i hi).1,ku (k3 i hi).2 (by show p.at'<=p.at'+st.size;exact(aq cF 0x110110204200001020010110 Z hz rfl))⟩,K.state _,
  λz=>by show p.at'+st.size- (st.back p.B).getD 0 0≠a- 1;rw [k2,hz];exact V.elim (λV=>(aq qG 0x1010110111053000204526190210003020510070010110 Z V rfl)) λV=>(aa qG 0x1010101120510300045261000520112055300201000517 V rfl),⟨H.1,H.2.1,by show a<=p.at'+st.size;exact(bB uS 0x100110130104000203022010110402190260041001000079011000700401107 H Z hz rfl),by rw [mq];show p.at'+st.size<=_;exact V.elim (λV=>(bB Dv 0x10000110110115042190260042010401902130040105000730202502190260041001000079011000700401107 H hz V rfl)) λV=>(gI Dv 0x1010100110110115042190262043010400010520112055400200010517403025021902620410010200790112007204011071000000101107 O H hz V rfl)⟩,by rw [mq];exact(aa au 0x114011101100434011004 hL rfl)⟩,
  ⟨⟨H.2.2.1,by rw [AO,hz];exact(aq pq 0x1011302042100040302100002022 J (jj _) rfl)⟩,q.B4,q.s,λz=>⟨(q.Bm 0 ∅).1,(q.Bm 0 ∅).2,q.b0 z⟩,λY=>?_,λY z2=>?_,K.spt⟩⟩
 ·rw [K.fr,hz]
  refine⟨O.1,(bB jt 0x1902f10101018002100030219026204100102007901120072040110710000001011074011304 hL O H rfl),(aq nq 0x1101400003020104540230201045000 xF vv rfl),O.2,λi i1 i2=>⟨?_,V.elim (λV=>(aq nq 0x101011011105300020452619021400302051007000010 i1 V rfl)) λV=>(aq nq 0x1101010114053000204526302052011405510040302051710001 i2 V rfl)⟩⟩
  have:=J5 (aA:=aA.toNat) (X:=X) Em size.toNat i.toNat (bB pq 0x110112030400302220210010001 i2 (jj _) (be (aa az 0x11000010000010 i1 rfl)) rfl)
  rw [show(p.at'+i).toNat=X.length+i.toNat by exact(bB Du 0x1001101011001140204305104022100043022002022 J (be (aq jt 0x10111201040010200010302190260041001000079011000700401107 H i1 rfl)) (be (aa az 0x11000010000010 i1 rfl)) rfl),show(p.at'+i- aA).toNat=X.length+i.toNat- aA.toNat by exact(pL Wn 0x10011001101011001100115040510702220602270304605045201000454022003022 J (be (aq cF 0x10110020104500102000101000000101107 O i1 rfl)) (cG (aa bL 0x101201040031000300101137 Em rfl)) (be (aa dB 0x110000101000000101107 O rfl)) (be (aa az 0x11000010000010 i1 rfl)) rfl)]
  exact this
 ·have:=K.two z2
  exact hz▸(V.elim (λV=>(aq qG 0x101100111103100000201107190210003020510070020110 this V rfl)) λV=>(gI uS 0x1000100101000000100111103130030201107001052011205530020001051730201104021902620410010200790112007204011071000000101107 O H this V rfl))
theorem ahy{Z:List Int}(h:σ[m]?=some (.list (Z.map .int)))(V:Z.length<=1000)(J:1<=aA/\aA<=Z.length):cP φ (.ref m) (.int (-aA)) σ=some (.int (Z.getD (Z.length- aA.toNat) 0),σ):=
 lz h (by rw [bf];exact V) (j:=Z.length- aA.toNat) (by
  rw [bf]
  exact(if_neg (by exact(aa aX 0x101102003100300107610200000101107 J rfl))).trans ((if_pos (by exact(aa aX 0x101011003102300010031710200000101107 J rfl))).trans (congrArg some (by exact(bB jR 0x1100111001101301050040222040304520200341022 (be (aa aX 0x1011020034001010200000101107 J rfl)) (cG (aq cQ 0x100111020300202210200000101107 J (be (aa aX 0x1100001010200000101107 J rfl)) rfl)) (be (aa aX 0x1100001010200000101107 J rfl)) rfl))))) (by rw [eT,jI,iy (by exact(bB dQ 0x11011103041020304520200010200000101107 J (jj _) (cG (aq cQ 0x100111020300202210200000101107 J (be (aa aX 0x1100001010200000101107 J rfl)) rfl)) rfl))];rfl)
theorem E6(ht:σ[tx]?=some (.list (X.map .int)))(hX:X.length<=500)(hf:1<=aA/\aA<=X.length)(J:1<=size/\size<=30){G:Prop}
  (K:∀σ' fz,xs φ (pM.stmt 7) (ip j tx cN stp bk many place a a8 a9 (some (.int aA)) cW bS cJ (some (.int size)) bJ) σ=some ((.next,ip j tx cN stp bk many place a a8 a9 (some (.int aA)) cW bS cJ (some (.int size)) fz),σ')->
   σ'[tx]?=some (.list ((fM aA.toNat size.toNat X).map .int))->ak (λm=>m=tx) σ σ'->G):G:=by
 refine mF (φ:=φ) (σ:=σ) (cZ:=σ) (ρ:=ip j tx cN stp bk many place a a8 a9 (some (.int aA)) cW bS cJ (some (.int size)) bJ) (s:=pM.stmt 7) (l:=eV 0 size) rfl
  (by exists iter λt=>t (nP (nA (aa az 0x101011100000000000b1200100100000000000b123171e02100000101107 J rfl))))
  (λi ρ σ'=>∀G:Prop,(∀fz,ρ=ip j tx cN stp bk many place a a8 a9 (some (.int aA)) cW bS cJ (some (.int size)) fz->σ'[tx]?=some (.list ((fM aA.toNat i X).map .int))->ak (λm=>m=tx) σ σ'->G)->G)
  (λY K=>K bJ rfl ht (ak.refl _ _)) (λi v ρ av hv hI G K=>hI G λfz e H O=>?_) λaV σ' h1 h2=>h2 G λfz e H O=>?_
 ·subst e
  obtain⟨rfl,Z⟩:=mD hv
  have U:=xm aA.toNat X i
  have AU:=ahy (φ:=φ) (aA:=aA) H (gI dQ 0x11010113e80313032010430500100520211e021000001011071f4031103 hX J Z U rfl) (aq dQ 0x1010101001202000001011073010420510200000101107 hf U rfl)
  have e:(fM aA.toNat i X).map V.int++[V.int ((fM aA.toNat i X).getD ((fM aA.toNat i X).length- aA.toNat) 0)]=(fM aA.toNat (i+1) X).map .int:=vH V.int _ _
  refine se (φ:=φ) (v:=.int ((fM aA.toNat i X).getD ((fM aA.toNat i X).length- aA.toNat) 0)) H H (by rw [bf];exact(gI dQ 0x11010113e80313032010430500100520211e021000001011071f4031103 hX J Z U rfl)) λaC m t2 F2=>?_
  refine K _ .next _ aC rfl ?_ λG K=>K (some (.int (0+(i:Int)))) rfl (t2.trans (by rw [e])) (O.trans F2)
  exists body λt=>t AU m
 ·subst e
  rw [oT,show(size- 0).toNat=size.toNat by exact(aq cQ 0x110110011201050020220010051022 (be (aa az 0x1100100500101e02100000101107 J rfl)) (be (aa az 0x110000101e02100000101107 J rfl)) rfl)] at H
  exact K σ' fz h1 H O
theorem DB(U:B.length=4)(h:0<=i/\i<=4):clipAt (B.map V.int).length i=i.toNat:=by rw [bf,U];exact xf h
theorem VJ(O:σ[bk]?=some (.list (B.map .int)))(U:B.length=4)(f:Int){G:Prop}
  (K:∀H s,ly true (.ref bk) (.int 3) (σ++[AC.list [.int f]])=some (.ref s,σ++[AC.list [.int f]]++[AC.list ((B.map V.int).take 3)])->kZ .Add (.ref σ.length) (.ref s) (σ++[AC.list [.int f]]++[AC.list ((B.map V.int).take 3)])=some (.ref (σ++[AC.list [.int f]]++[AC.list ((B.map V.int).take 3)]).length,H)->
   H[(σ++[AC.list [.int f]]++[AC.list ((B.map V.int).take 3)]).length]?=some (.list ((f::B.take 3).map .int))->ak F0 σ H->G):G:=
 K _ _ (nO (front:=true) (i:=3) (aN O) ∅ (by rw [bf,U];decide) (DB U ∅)) (gS (aN new) new (by rw [mU,bf,U,fW];decide)) (new.trans (by rw [jk,uu];rfl)) (bE (bE (bE (ak.refl _ _))))
theorem VK(Z:σ[bk]?=some (.list (B.map .int)))(U:B.length=4)(J:0<=f/\f<=3)(x:Int){G:Prop}
  (K:∀Y H s r u,ly true (.ref bk) (.int f) (σ++[AC.list [.int x]])=some (.ref s,σ++[AC.list [.int x]]++[AC.list ((B.map V.int).take f.toNat)])->kZ .Add (.ref σ.length) (.ref s) (σ++[AC.list [.int x]]++[AC.list ((B.map V.int).take f.toNat)])=some (.ref r,H)->
   ly false (.ref bk) (.int (f+1)) H=some (.ref u,H++[AC.list ((B.map V.int).drop (f.toNat+1))])->kZ .Add (.ref r) (.ref u) (H++[AC.list ((B.map V.int).drop (f.toNat+1))])=some (.ref (H++[AC.list ((B.map V.int).drop (f.toNat+1))]).length,Y)->
   Y[(H++[AC.list ((B.map V.int).drop (f.toNat+1))]).length]?=some (.list ((x::(B.take f.toNat++B.drop (f.toNat+1))).map .int))->ak F0 σ H->ak F0 σ Y->G):G:=by
 have O:(B.map V.int).length=4:=by rw [bf,U]
 have c1:=DB (i:=f) U (aa az 0x1010114011000000010730110000000107 J rfl)
 have c2:=DB (i:=f+1) U (aa az 0x10101140111011004010110040010730110000000107 J rfl)
 rw [show(f+1).toNat=f.toNat+1 by exact(aq cQ 0x110110011101120410500202210110041022 (be (aa az 0x111011004001030110000000107 J rfl)) (be (aa az 0x1100001030110000000107 J rfl)) rfl)] at c2
 exact K _ _ _ _ _ (nO (front:=true) (aN Z) (aa az 0x101011f424005100000f424005130730110000000107 J rfl) (aa au 0x113e80310034011005 O rfl) c1) (gS (aN new) new (by rw [mU,fW];exact(aq aJ 0x1113e803110101143001034011005 O (wm _ _) rfl))) (nO (front:=false) (aN (aN (aN Z))) (aa az 0x101011f4240051101100401011004f424005130730110000000107 J rfl) (aa au 0x113e80310034011005 O rfl) c2)
  (gS (aN new) new (by rw [bZ,mU,wl,fW];exact(bB dR 0x210113e8031201010114431011304204003002037001034011005 O (wm _ _) (sN _ _) rfl))) (new.trans (by rw [jk,ko,uu,CQ];rfl)) (bE (bE (bE (ak.refl _ _)))) (bE (bE (bE (bE (bE (ak.refl _ _))))))
end
section
variable {k:Nat}{σ:AH}{j tx stp bk cN n:Nat}{a place many aA spot size:Int}{X:List Int}{L:List aK}{B:List Int}{p:Pt}{kd:bu}{st:aK}{a8 a9 dm cW bS cJ bA bJ:Option V}
theorem LS.fin(h:LS σ j tx stp bk n X L B)(h2:LS aC j tx stp bk (n+1) X L B)(F2:ak (λm=>m=j) σ aC)(t3:U[tx]?=some (.list (X'.map .int)))(O:ak (λm=>m=tx) aC U)(H:ak F0 U τ)
  (hb:τ[eK]?=some (.list (B'.map .int))) (hk:eK=bk\/U.length<=eK) (s6:J[stp]?=some (.list (L.map aK.v++[st.v]))) (F6:ak (λm=>m=stp) (τ++[D]) J):
  LS J j tx stp eK (n+1) X' (L++[st]) B'/\ak (λm=>m=j\/m=tx\/m=stp) σ J:=by
 have N:=h.ne
 have G:ak (λm=>m=stp) τ J:=(bE (ak.refl _ _)).trans F6
 have V:j<U.length/\tx<U.length/\stp<U.length:=⟨by obtain⟨_,_,_,q,_⟩:=h2.qW;exact bN (cK q) O.1,cK t3,bN (cK h2.fh) O.1⟩
 have Z:∀{m},m<U.length->m≠bk->m≠eK:=λhm hb=>hk.elim (λe=>e▸hb) λq=>dW (bN hm q)
 exact⟨⟨((h2.qW.bW O N.n1).bW H id).bW G N.n2,G.get (H.get t3 id) N.n4,s6.trans (by rw [vH]),G.get hb (eN (Z V.2.2 N.n6)),⟨N.n1,N.n2,Z V.1 N.n3,N.n4,Z V.2.1 N.n5,Z V.2.2 N.n6⟩⟩,
  (F2.wide λY z=>.inl z).trans ((O.wide λY z=>.inr (.inl z)).trans ((H.wide λY z=>z.elim).trans (G.wide λY z=>.inr (.inr z))))⟩
theorem abV(h:LS σ j tx stp bk n X L p.B)(q:LP a place X L p)(hn:n<=1000)(hL:L.length<4)(hf:1<=aA/\aA<=p.at')(Z:Kd p.B kd aA spot)(hC:¬Lc kd a place p.at' aA){G:Prop}
  (K:∀σ' st X' eK jR fz,xb (ae (k+1)) (pM.nL 5) (ip j tx cN stp bk many place a a8 (some (.str kd)) (some (.int aA)) (some (.int spot)) bS (some (.int (roomF a p.at' aA))) bA bJ) σ=
    some ((.next,ip j tx cN stp eK many place a a8 (some (.str kd)) (some (.int aA)) (some (.int spot)) bS (some (.int (roomF a p.at' aA))) jR fz),σ')->
   LS σ' j tx stp eK (n+1) X' (L++[st]) (st.back p.B)->LP a place X' (L++[st]) (p.next st)->GS X' a p st->(∃Y,X'=X++Y)->ak (λm=>m=j\/m=tx\/m=stp) σ σ'->G):G:=by
 have N:=h.ne
 have hX:=q.Bd
 have Et:=q.len
 have V:=h.Be q
 have q1:¬aA>place+p.at'- a:=λz=>hC (.inr (.inl z))
 have O:¬roomF a p.at' aA<2- Gl kd:=λz=>hC (.inr (.inr z))
 have hr:roomF a p.at' aA<=25:=by
  have:=q.ha
  unfold roomF;split<;>omega
 have Ei:(L.map aK.v).length<=1000:=by rw [bf];exact(aa au 0x113e80310034011004 hL rfl)
 have xF:aA<=place+p.at'- a:=ky.mp q1
 cases Z with
 |lit=>exact absurd (.inl rfl) hC
 |ez=>
  have O:¬roomF a p.at' aA<2- 0:=O
  refine h.pick (k:=k) (m:=roomF a p.at' aA- 1) (aa au 0x11f42400510033e8031003 hn rfl) (aq az 0x1010113b9aca0008110110050101100510110700120115001619021000 hr O rfl) λaC v p1 p2 h2 F2=>?_
  refine E6 (φ:=ae (k+1)) (aA:=aA) (j:=j) (stp:=stp) (bk:=bk) (cN:=cN) (many:=many) (place:=place) (a:=a) (a8:=a8) (a9:=some (.str 36)) (cW:=some (.int spot)) (bS:=bS) (cJ:=some (.int (roomF a p.at' aA))) (bJ:=bJ) (size:=2+v) h2.qR (aa aJ 0x111f40310033e8031103c80210037 hX rfl) (aq iB 0x1010101001202000001011071020221000000101107 hf Et rfl) (aq dB 0x110100111e0211020114010201141011071011005101100010719021000 hr p2 rfl) λdH fz y7 t3 J=>?_
  refine VJ (J.get h2.sG (eN N.n5)) q.B4 aA λτ s b1 b2 b3 b4=>?_
  have H:=b4.get (J.get h2.fh (eN N.n4)) id
  refine se (φ:=ae (k+1)) (v:=(aK.ez aA (2+v)).v) H (aN H (l:=[AC.gX [(36,.tup [.str 36,.int aA,.int (2+v)]),(37,.tup [.str 37,.int spot,.int (2+v)]),(38,.tup [.str 38])]])) Ei λU m s6 F6=>?_
  have KS:=gE.ez (B:=p.B) aA spot (2+v) (aa dB 0x1100201142011010111050010000107 p2 rfl)
  have e:=q.step KS hL hf xF (aa dB 0x101100020114010111050010000107 p2 rfl)
  have f:=h.fin h2 F2 t3 J b4 b3 (.inr (by rw [bZ,bZ];exact(bx bL 0x120100044003 rfl))) s6 F6
  refine K U _ _ _ (some (.int (2+v))) fz ?_ f.1 e.1 e.2 (Ac ..) f.2
  exists body λt=>t rfl V (gU q1) rfl rfl (gJ O) rfl p1 y7 rfl rfl b1 b2 rfl rfl (j8 new rfl) m
 |rep _ sI=>
  have O:¬roomF a p.at' (p.B.getD spot.toNat 0)<2- 0:=O
  refine h.pick (k:=k) (m:=roomF a p.at' (p.B.getD spot.toNat 0) - 1) (aa au 0x11f42400510033e8031003 hn rfl) (aq az 0x1010113b9aca0008110110050101100510110700120115001619021000 hr O rfl) λaC v p1 p2 h2 F2=>?_
  refine E6 (φ:=ae (k+1)) (aA:=p.B.getD spot.toNat 0) (j:=j) (stp:=stp) (bk:=bk) (cN:=cN) (many:=many) (place:=place) (a:=a) (a8:=a8) (a9:=some (.str 37)) (cW:=some (.int spot)) (bS:=bS) (cJ:=some (.int (roomF a p.at' (p.B.getD spot.toNat 0)))) (bJ:=bJ) (size:=2+v) h2.qR (aa aJ 0x111f40310033e8031103c80210037 hX rfl) (aq iB 0x1010100011202100101011070010010101107002022 Et hf rfl) (aq dB 0x110100111e0211020114010201141011071011005101100010719021000 hr p2 rfl) λdH fz y7 t3 J=>?_
  refine VK (J.get h2.sG (eN N.n5)) q.B4 sI (p.B.getD spot.toNat 0) λτ wH s r u b1 b2 b5 b6 b3 b7 b4=>?_
  have H:=b4.get (J.get h2.fh (eN N.n4)) id
  refine se (φ:=ae (k+1)) (v:=(aK.rep spot (2+v)).v) H (aN H (l:=[AC.gX [(36,.tup [.str 36,.int (p.B.getD spot.toNat 0),.int (2+v)]),(37,.tup [.str 37,.int spot,.int (2+v)]),(38,.tup [.str 38])]])) Ei λU m s6 F6=>?_
  have KS:=gE.rep (B:=p.B) spot (2+v) sI (aa dB 0x1100201142011010111050010000107 p2 rfl)
  have e:=q.step KS hL hf xF (aa dB 0x101100020114010111050010000107 p2 rfl)
  have f:=h.fin h2 F2 t3 J b4 b3 (.inr (bo b7.1 (by rw [bZ];exact(bx aJ 0x110004003 rfl)))) s6 F6
  refine K U _ _ _ (some (.int (2+v))) fz ?_ f.1 e.1 e.2 (Ac ..) f.2
  exists body λt=>t rfl V (gU q1) rfl rfl (gJ O) rfl p1 y7 rfl rfl rfl b1 b2 b5 b6 rfl (j8 new rfl) m
 |dU=>
  have O:¬roomF a p.at' (p.B.getD 0 0)<2- 1:=O
  refine E6 (φ:=ae (k+1)) (aA:=p.B.getD 0 0) (j:=j) (stp:=stp) (bk:=bk) (cN:=cN) (many:=many) (place:=place) (a:=a) (a8:=a8) (a9:=some (.str 38)) (cW:=some (.int spot)) (bS:=bS) (cJ:=some (.int (roomF a p.at' (p.B.getD 0 0)))) (bJ:=bJ) (size:=1) h.qR (aa aJ 0x111f40310033e8031103c80210037 hX rfl) (aq iB 0x1010100011202100101011070010010101107002022 Et hf rfl) ∅ λdH fz y7 t3 J=>?_
  have H:=J.get h.fh (eN N.n4)
  refine se (φ:=ae (k+1)) (v:=aK.dU.v) H (aN H (l:=[AC.gX [(36,.tup [.str 36,.int (p.B.getD 0 0),.int 1]),(37,.tup [.str 37,.int spot,.int 1]),(38,.tup [.str 38])]])) Ei λU m s6 F6=>?_
  have KS:=gE.dU (B:=p.B) spot
  have e:=q.step KS hL hf xF (aa az 0x1100101101011201150016 O rfl)
  have f:=h.fin (h.le (mH n)) (ak.refl _ _) t3 J (ak.refl _ _) (J.get h.sG (eN N.n5)) (.inl rfl) s6 F6
  refine K U _ _ _ (some (.int 1)) fz ?_ f.1 e.1 e.2 (Ac ..) f.2
  exists body λt=>t rfl V (gU q1) rfl rfl (gJ O) rfl y7 rfl rfl rfl (j8 new rfl) m
theorem abW(h:LS σ j tx stp bk n X L p.B)(q:LP a place X L p)(O:n<=900)(U:L.length<4){G:Prop}
  (K:∀σ' st H eK c9 az aX cQ dQ jR fz V,xb (ae (k+1)) pM (ip j tx cN stp bk many place a a8 a9 dm cW bS cJ bA bJ) σ=some ((V,ip j tx cN stp eK many place a a8 c9 az aX cQ dQ jR fz),σ')->(V=.next\/V=.cont)->
   LS σ' j tx stp eK (n+10) H (L++[st]) (p.next st).B->LP a place H (L++[st]) (p.next st)->GS H a p st->(∃Y,H=X++Y)->ak (λm=>m=j\/m=tx\/m=stp) σ σ'->G):G:=by
 refine abS (k:=k) (cN:=cN) (many:=many) (a8:=a8) (a9:=a9) (dm:=dm) (cW:=cW) (bS:=bS) (cJ:=cJ) (bA:=bA) (bJ:=bJ) h q (aa au 0x113e8031003384031003 O rfl) λav kd aA spot y0 h1 F1 hf Z=>?_
 have y1:=abU (k:=k) (cN:=cN) (many:=many) (aA:=aA) (spot:=spot) (kd:=kd) (a8:=a8) (bS:=bS) (cJ:=cJ) (bA:=bA) (bJ:=bJ) h1 q
 by_cases hC:Lc kd a place p.at' aA
 ·refine abT (k:=k) (cN:=cN) (many:=many) (a8:=a8) (bS:=some (.int (p.at'- aA))) (bA:=bA) (bJ:=bJ) h1 q (aa au 0x113e803130110043384031003 O rfl) U Z hC λaC x y2 h2 hx F2=>?_
  have e:=q.lit U hx
  exact K aC .lit _ bk _ _ _ _ _ _ _ .cont (nT 3 y0 (nT 2 y1 y2)) (.inr rfl) (h2.le (bx au 0x1a0110042011301100443 rfl)) e.1 e.2 ⟨_,rfl⟩ ((F1.wide λJ z=>.inl z).trans F2)
 ·exact abV (k:=k) (cN:=cN) (many:=many) (a8:=a8) (bS:=some (.int (p.at'- aA))) (bA:=bA) (bJ:=bJ) h1 q (aa au 0x113e803130110043384031003 O rfl) U hf Z hC λaC st H eK jR fz y2 h2 q2 g e F2=>
   K aC st H eK _ _ _ _ _ _ _ .next (nT 3 y0 (nT 2 y1 y2)) (.inl rfl) (h2.le (bx au 0x1a0110041011301100443 rfl)) q2 g e ((F1.wide λJ z=>.inl z).trans F2)
end
inductive LI(cZ:AH)(j tx stp cN n m:Nat)(a:Nat)(place:Int)(P:Pt)(X0:List Int)(i:Nat)(ρ:bc)(σ':AH):Prop
 |mk (bk:Nat) (X:List Int) (L:List aK) (a8 a9 dm cW bS cJ bA bJ:Option V) (e:ρ=ip j tx cN stp bk (m:Nat) place (a:Nat) a8 a9 dm cW bS cJ bA bJ) (l:L.length=i) (h:LS σ' j tx stp bk (n+10*i) X L (P.fin L).B) (q:LP a place X L (P.fin L)) (g:Gs X a P L) (x:∃Y,X=X0++Y) (F:ak (λm=>m=j\/m=tx\/m=stp) cZ σ')
section
variable {k:Nat}{σ:AH}
theorem ahq{j tx cN n m:Nat}{place state:Int}{O U:List Int}(hj:gq σ j n)(hn:n<=500)(hm:m<=4)(ht:σ[tx]?=some (.list (O.map .int)))(hb:σ[cN]?=some (.list (U.map .int)))(n1:j≠tx)(n3:j≠cN)(n5:tx≠cN)
  (hX:4<=O.length/\O.length<=9) (ho:∀x∈O,0<=x/\x<=255) (sE:U.length=4) (Z:∀i,i<4->4<=U.getD i 0/\U.getD i 0<=O.length) (hs:0<=state/\state<12) {G:Prop}
  (K:∀σ' stp X L,am (ae (k+2)) 4051 [.ref j,.int (m:Nat),.ref tx,.ref cN,.int place] σ=some (.ref stp,σ')->σ'[stp]?=some (.list (L.map aK.v))->σ'[tx]?=some (.list (X.map .int))->gq σ' j (n+10*m)->
   Gs X O.length ⟨place,state,O.length,U⟩ L->L.length=m->(Pt.fin ⟨place,state,O.length,U⟩ L).at'=X.length->(∀x∈X,0<=x/\x<=255)->O.length<=X.length/\X.length<=200->σ.length<=stp->ak (λm=>m=j\/m=tx) σ σ'->G):G:=by
 have V:=E1 ht (by rw [bf];exact(aa au 0x1013e8031003901100300401137 hX rfl))
 rw [bf] at V
 have F1:ak F0 σ (σ++[AC.list []]):=ak.cU _ _
 have nG:j<σ.length:=by obtain⟨_,_,_,h0,_⟩:=hj;exact cK h0
 have htl:=cK ht
 have ZH:=cK hb
 have Ef:=Z 0 ∅
 refine mF (φ:=ae (k+1)) (σ:=σ++[AC.list []]) (cZ:=σ++[AC.list []]) (ρ:=ip j tx cN σ.length cN (m:Nat) place O.length none none none none none none none none) (s:=Ca.stmt 1) (l:=eV 0 (m:Nat)) rfl
  (by exists iter λt=>t (nP (nA (aa au 0x1101100000000000b120021002100000000000b123174011003 hm rfl))))
  (LI (σ++[AC.list []]) j tx σ.length cN n m O.length place ⟨place,state,O.length,U⟩ O)
  ⟨cN,O,[],none,none,none,none,none,none,none,none,rfl,rfl,⟨hj.bW F1 id,aN ht,new,aN hb,⟨n1,dW nG,n3,dW htl,n5,gZ ZH⟩⟩,
   ⟨rfl,by show place=place+O.length- O.length;exact(bx aX 0x111021020045002 rfl),ho,sE,λi hi=>⟨ku ∅ (Z i hi).1,(Z i hi).2⟩,hs,λH=>by show(O.length:Int) - U.getD 0 0≠O.length- 1;exact(aa aX 0x110101110250010252610200000401107 Ef rfl),⟨(aa au 0x1100240110901100300401137 hX rfl),(aa au 0x10190110020901100300401137 hX rfl),qn _,Int.le_add_of_nonneg_right ∅⟩,by decide⟩,trivial,⟨[],(qd O).symm⟩,ak.refl _ _⟩
  (λi v ρ av hv hI G K=>?_) λaV σ' h1 h2=>?_
 ·obtain⟨bk,X,L,a8,a9,dm,cW,bS,cJ,bA,bJ,e,g1,h,q,g,⟨Y,hY⟩,F⟩:=hI
  subst e
  obtain⟨rfl,nH⟩:=mD hv
  refine abW (k:=k) (cN:=cN) (many:=(m:Nat)) (a8:=some (.int (0+(i:Int)))) (a9:=a9) (dm:=dm) (cW:=cW) (bS:=bS) (cJ:=cJ) (bA:=bA) (bJ:=bJ) h q (bB bL 0x1aa138403120a01600430011025202140111031f4031003 hn hm nH rfl) (bB bL 0x10111401110400100252021201054011003 hm g1 nH rfl) λaC st X' eK c9 az aX cQ dQ jR fz fl f1 f2 f3 f4 f5 ⟨Y',LE⟩ f6=>?_
  have J:LI (σ++[AC.list []]) j tx σ.length cN n m O.length place ⟨place,state,O.length,U⟩ O (i+1) (ip j tx cN σ.length eK (m:Nat) place O.length (some (.int (0+(i:Int)))) c9 az aX cQ dQ jR fz) aC:=
   ⟨eK,X',L++[st],_,_,_,_,_,_,_,_,rfl,by rw [bZ,g1];rfl,by rw [Ax];exact f3.le (bx aJ 0x11011104a016004a01110a01600443 rfl),by rw [Ax];exact f4,(LE▸g.ext (bx au 0x10020010 rfl):Gs X' O.length _ L).snoc f5,⟨Y++Y',by rw [LE,hY,iX]⟩,F.trans f6⟩
  exact K _ fl _ aC rfl f1 (f2.elim (λe=>e▸J) λe=>e▸J)
 ·rw [oT,show((m:Int) - 0).toNat=m by exact(aa aJ 0x111011000500110250022 (be (bx au 0x100100250010 rfl)) rfl)] at h2
  obtain⟨bk,X,L,a8,a9,dm,cW,bS,cJ,bA,bJ,e,g1,h,q,g,⟨Y,hY⟩,F⟩:=h2
  subst e
  refine K σ' σ.length X L ?_ h.fh h.qR h.qW g g1 q.len.symm q.oct ⟨by rw [hY,bZ];exact(bx aJ 0x110004003 rfl),q.Bd.1⟩ (cY _) ⟨bo F1.1 F.1,λx hx hF=>(F.2 x (bN hx F1.1) λz=>z.elim (λz=>hF (.inl z)) λz=>z.elim (λz=>hF (.inr z)) (dW hx)).trans (F1.2 x hx id)⟩
  exists call Yx λt=>t V rfl h1
end
section
variable {k:Nat}{σ:AH}
theorem gq.lt(h:gq σ j n):j<σ.length:=by
 obtain⟨_,_,_,H,_⟩:=h
 exact cK H
theorem J4{ρ:bc}{j n cnt:Nat}{c m C:Int}{E:XE}{it:XI}(hj:gq σ j n)(hn:n+cnt<=1000)(hC:C=cnt)(O:xi (ae (k+1)) ρ it σ=some (.lst (eV 0 C),σ))(hm:1<=m/\m<=1000)
  (he:∀v av aC w,am (ae (k+1)) 4044 [.ref j,.int m] av=some (.int w,aC)->xe (ae (k+1)) (ρ.set 9 (some v)) E av=some (.int (c+w),aC)) {G:Prop}
  (K:∀σ' r (l:List Int),xe (ae (k+1)) ρ (.comp 9 E it) σ=some (.ref r,σ')->σ'[r]?=some (.list (l.map .int))->l.length=cnt->(∀x∈l,c<=x/\x<c+m)->gq σ' j (n+cnt)->ak (λm=>m=j) σ σ'->σ.length<=r->G):G:=by
 have Z:(eV 0 C).length=cnt:=by rw [oT];exact(aq cQ 0x101110101102050010052022102002 hC (be (aa aX 0x1010010050010102002 hC rfl)) rfl)
 refine DL (φ:=ae (k+1)) (s:=9) (e:=E) O (aq bL 0x10113e8031203102053e8031100043 hn Z rfl)
  (λi acc σ'=>∀G:Prop,(∀l:List Int,acc=l.map V.int->l.length=i->(∀x∈l,c<=x/\x<c+m)->gq σ' j (n+i)->ak (λm=>m=j) σ σ'->G)->G)
  (λY K=>K [] rfl rfl (λY O=>nomatch O) hj (ak.refl _ _)) (λi v acc av hv hI G K=>hI G λl e H g2 J U=>?_) λacc σ' h1 h2 h3=>h3 G λl e H g2 J U=>?_
 ·subst e
  have hi:i<cnt:=Z▸(gC.mp hv).1
  refine iu (k:=k) J (aq bL 0x111f4240051200043102043e8031100043 hn hi rfl) (aa az 0x1010113b9aca00081000001011073e803100000101107 hm rfl) λaC w p1 p2 p4 p5=>K (.int (c+w)) aC (he v av aC w p1) λG K=>K (l++[c+w]) (vH V.int l _) (by rw [bZ,H];rfl) (λx O=>(kj.mp O).elim (g2 x) λO=>by
   exact(cA.mp O)▸(aa cF 0x10101110204002041002042007100010000107 p2 rfl)) p4 (U.trans p5)
 ·subst e
  rw [Z] at H J
  exact K _ σ'.length l h2 new H g2 (J.bW (F:=F0) (ak.cU _ _) id) (bE U) U.1
theorem afY{j n:Nat}{wide:Bool}(hj:gq σ j n)(hn:n<=100){G:Prop}
  (K:∀σ' sc q,am (ae (k+3)) 4056 [.ref j,.bool wide] σ=some (.ref sc,σ')->eZ σ' sc q->g8 q->Gs q.text q.ahead (q.pt q.place) q.steps->((q.pt q.place).fin q.steps).at'=q.text.length->q.steps≠[]->q.place<=1000000000->gq σ' j (n+100)->ak (λm=>m=j) σ σ'->
   σ.length<=sc/\σ.length<=q.tx/\σ.length<=q.bk/\σ.length<=q.st->G):G:=by
 have nG:=hj.lt
 refine iu (k:=k+1) (many:=9) hj (aa au 0x11f424005100364021003 hn rfl) ∅ λav lc a1 a2 j1 f1=>?_
 refine iu (k:=k+1) (many:=5) j1 (aa au 0x11f42400511011004364021003 hn rfl) ∅ λaC lp b1 b2 j2 f2=>?_
 refine iu (k:=k+1) (many:=5) j2 (aa au 0x11f4240051101110110044364021003 hn rfl) ∅ λdH pb c1 c2 j3 f3=>?_
 refine iu (k:=k+1) (many:=12) j3 (aa au 0x11f424005110111011101100444364021003 hn rfl) ∅ λjn state d1 d2 j4 f4=>?_
 refine iu (k:=k+1) (many:=6) j4 (aa au 0x11f42400511011101110111011004444364021003 hn rfl) ∅ λnZ ah e1 e2 j5 f5=>?_
 have zD:=f1.trans (f2.trans (f3.trans (f4.trans f5)))
 obtain⟨A,hA⟩:∃A:Nat,(A:Int)=4+ah:=⟨(4+ah).toNat,(aa aX 0x111010040114102200401141022 (be (aa az 0x110040114001060110010000107 e2 rfl)) rfl)⟩
 refine J4 (k:=k+1) (σ:=nZ) (ρ:=[some (.ref j),some (.bool wide),some (.tup [.int lc,.int lp,.int pb]),some (.int state),some (.int (4+ah)),none,none,none,none,none]) (cnt:=A- 1) (c:=96) (m:=8) (C:=4+ah- 1) (it:=.range (.cons (.bin .Sub (.var 4) (.const (.int 1))) .nil)) (E:=.bin .Add (.const (.int 96)) (.fn 4044 (.cons (.var 0) (.cons (.const (.int 8)) .nil)))) j5 (gI dQ 0x110010113e803130101110111011101110111044444431011304203203037004011420226011001000010764021103 hn e2 hA (sN _ _) rfl) (aq cQ 0x10101010112021011004011452101011204500401141022 hA (cG (aq aX 0x110110101130040114102260110010000107 e2 hA rfl)) rfl)
  (by exists iter λt=>t (nP (nA (aa az 0x101011100000000000b121011004011451101100401145100000000000b1231760110010000107 e2 rfl)))) ∅ (λv wH zB w p=>by exists expr λt=>t p) λC3 r6 l6 g1 g2 g3 g4 j6 f6 g5=>?_
 refine iu (k:=k+1) (many:=256) j6 (gI dQ 0x11001011f424005130101110111011101110111044444431011304203203037004011420226011001000010764021103 hn e2 hA (sN _ _) rfl) ∅ λZ o7 h1 h2 j7 f7=>?_
 have i1:=gS (aN (l:=[AC.list [.int o7]]) (f7.get g2 (show¬r6=j by have:=zD.1;exact(bB dR 0x11101003056201033020310004 nG g5 this rfl)))) new (by rw [bf,fW];exact(gI dQ 0x1001010113e8031101120431011304103103037302050040114102260110010000107 e2 hA g3 (sN _ _) rfl))
 have O:(Z++[AC.list [V.int o7]]).length=Z.length+1:=jb
 have i2:(Z++[AC.list [V.int o7]]++[AC.list (l6.map V.int++[V.int o7])])[(Z++[AC.list [V.int o7]]).length]?=some (.list ((l6++[o7]).map .int)):=new.trans (by rw [vH])
 have f8:ak F0 Z (Z++[AC.list [V.int o7]]++[AC.list (l6.map V.int++[V.int o7])]):=bE (ak.cU _ _)
 have U:=bo f6.1 f7.1
 generalize Z++[AC.list [V.int o7]]++[AC.list (l6.map V.int++[V.int o7])]=zx at*
 generalize (Z++[AC.list [V.int o7]]).length=r8 at*
 have IR:ak (λm=>m=j) nZ zx:=f6.trans (f7.trans (f8.wide λY z=>z.elim))
 have AM:(l6++[o7]).length=A:=by rw [bZ,fW];exact(aq bL 0x1011101012010110045201011104510005 g3 (cG (aq aX 0x110110101130040114102260110010000107 e2 hA rfl)) rfl)
 have ZA:∀x∈l6++[o7],0<=x/\x<=255:=λx hx=>(kj.mp hx).elim (λhx=>by
  have:=g4 x hx
  exact(aa az 0x101011ff02100000001078011600214001006002107 this rfl)) λhx=>by exact(cA.mp hx)▸(aa az 0x101011ff02100000001071000310010000107 h2 rfl)
 generalize l6++[o7]=X0 at*
 refine J4 (k:=k+1) (σ:=zx) (ρ:=[some (.ref j),some (.bool wide),some (.tup [.int lc,.int lp,.int pb]),some (.int state),some (.int (4+ah)),some (.ref r8),none,none,none,none]) (cnt:=4) (c:=4) (m:=4+ah- 3) (C:=4) (it:=.range (.cons (.const (.int 4)) .nil)) (E:=.bin .Add (.const (.int 4)) (.fn 4044 (.cons (.var 0) (.cons (.bin .Sub (.var 4) (.const (.int 3))) .nil)))) (j7.bW f8 id) (gI dQ 0x110010113e8031401110113010111011101110111011104444444431011304203203037004011420226011001000010764021103 hn e2 hA (sN _ _) rfl) rfl
  (by exists iter λt=>t (nP ∅)) (aa az 0x1010113e8031301100401145030110040114510110760110010000107 e2 rfl) (λv wH zB w p=>by exists expr λt=>t p) λqy r9 l9 k1 k2 k3 k4 j9 f9 k5=>?_
 have J:r8<zx.length:=cK i2
 have ht9:=f9.get i2 (show¬r8=j by have:=zD.1;exact(gI nk 0x11101010040562010310113044053020310004 nG U O this rfl))
 have Fl:ak F0 qy (qy++[AC.list [.int 70,.int 1,.int 9,.int (2^20),.int (10^9)]]):=ak.cU _ _
 refine iu (k:=k+1) (many:=5) (j9.bW Fl id) (gI dQ 0x11001011f4240051401110113010111011101110111011104444444431011304203203037004011420226011001000010764021103 hn e2 hA (sN _ _) rfl) ∅ λlQ v m1 m2 jA fA=>?_
 have Z8:j<qy.length:=j9.lt
 have Zj:=fA.get (new (c:=AC.list [.int 70,.int 1,.int 9,.int (2^20),.int (10^9)])) (gZ Z8)
 obtain⟨mm,m4,m5⟩:∃mm:Int,cP (ae (k+2)) (.ref qy.length) (.int v) lQ=some (.int mm,lQ)/\1<=mm/\mm<=1000000000:=by
  have s:∀(i:Nat) (x:Int),[V.int 70,.int 1,.int 9,.int (2^20),.int (10^9)][i]?=some (.int x)->idx v 5=some i->1<=x/\x<=1000000000->∃mm:Int,cP (ae (k+2)) (.ref qy.length) (.int v) lQ=some (.int mm,lQ)/\1<=mm/\mm<=1000000000:=λi x e e' h=>⟨x,lz Zj (show 5<=1000 by decide) e' e,h⟩
  have:=Fx m2
  rcases this with rfl|rfl|rfl|rfl|rfl
  ·exact s 0 _ rfl rfl ∅
  ·exact s 1 _ rfl rfl ∅
  ·exact s 2 _ rfl rfl ∅
  ·exact s 3 _ rfl rfl ∅
  ·exact s 4 _ rfl rfl ∅
 refine iu (k:=k+1) (many:=mm) jA (gI dQ 0x11001011f424005110114011101130101110111011101110111044444444431011304203203037004011420226011001000010764021103 hn e2 hA (sN _ _) rfl) m5 λmY place n1 n2 jB fB=>?_
 have p1:intOp .Pow 2 20=some (2^20):=tH ∅
 have p2:intOp .Pow 10 9=some (10^9):=tH ∅
 have C6:ak (λm=>m=j) qy mY:=(Fl.wide λY z=>z.elim).trans (fA.trans fB)
 have UB:=zD.trans (IR.trans (f9.trans C6))
 have fin:∀n9 (m:Nat),1<=m/\m<=4->gq n9 j (n+30)->ak (λm=>m=j) mY n9->(∀H stp,am (ae (k+2)) 4051 [.ref j,.int (m:Nat),.ref r8,.ref r9,.int place] n9=some (.ref stp,H)->
   am (ae (k+3)) 4056 [.ref j,.bool wide] σ=some (.ref H.length,H++[.gX [(10,.tup [.int lc,.int lp,.int pb]),(33,.int state),(39,.int (4+ah)),(40,.ref r8),(41,.ref r9),(32,.int place),(42,.ref stp)]]))->G:=λn9 m hm jC fC e=>by
  have IM:=UB.trans fC
  have IU:∀x c,x≠j->qy[x]?=some c->n9[x]?=some c:=λx c hx h=>(C6.trans fC).get h hx
  have qO:=zD.1
  have h58:=IR.1
  have htC:=IU r8 _ (gI nk 0x11101010040562010310113044053020310004 nG U O qO rfl) ht9
  have LJ:=IU r9 _ (E4 zZ 0x11101110100605620103504046050310113044053020310004 nG U O k5 J qO rfl) k2
  refine ahq (k:=k) (place:=place) (state:=state) jC (aa au 0x111f40311e021004364021003 hn rfl) hm.2 htC LJ (gI nk 0x11101104000562010310113044053020310004 nG U O qO rfl) (E4 zZ 0x11101111060005620103504046050310113044053020310004 nG U O k5 J qO rfl) (aq bL 0x11101020560020410003 k5 J rfl) (bB cQ 0x10010110110101901120320401137102050040114102260110010000107 e2 hA AM rfl) ZA k3 (λi hi=>by
   have hm:l9.getD i 0∈l9:=by rw [jI,iy (by exact(aq aJ 0x10110010440111044011005 k3 hi rfl))];exact HV _
   have:=k4 _ hm
   exact(bB pq 0x101010100000113021001040110730110040114540114101104011072030500401142022 hA AM this rfl)) d2 λH stp X L u1 u2 u3 jD u4 u5 u6 u7 u8 u10 fD=>?_
  rw [AM,hA] at u4 u6
  have AI:=IM.1
  have vm:=(C6.trans fC).1
  have h89:=f9.1
  have FD:ak F0 H (H++[OU ⟨lc,lp,pb,state,4+ah,place,X,l9,L,r8,r9,stp⟩]):=ak.cU _ _
  have AJ:=fD.1
  exact K _ H.length ⟨lc,lp,pb,state,4+ah,place,X,l9,L,r8,r9,stp⟩ (e H stp u1) ⟨new,aN u3,aN (fD.get LJ (λz=>z.elim (show¬r9=j by exact(E4 zZ 0x11101110100605620103504046050310113044053020310004 nG U O k5 J qO rfl)) (show¬r9=r8 by exact(aq bL 0x11012010560020410003 k5 J rfl)))),aN u2⟩
   ⟨⟨a2.1,wi.mp a2.2⟩,⟨b2.1,wi.mp b2.2⟩,⟨c2.1,wi.mp c2.2⟩,d2,⟨by show 4<=4+ah;exact(aa az 0x1100401144011060110010000107 e2 rfl),by show 4+ah<=(X.length:Nat);exact(bB dQ 0x101001130200401140c80213033020371020500401141022 hA AM u8 rfl)⟩,u8.2,u7,k3,n2.1,by show L.length<=4;exact(aq aJ 0x10011401110300105401100300101137 hm u5 rfl)⟩ u4 u6 (λz=>by
    rw [show L=[] from z] at u5
    exact absurd u5 (by exact rK▸(aa au 0x1100000156401100300101137 hm rfl))) (by show place<=1000000000;exact(aq dB 0x101013b9aca000811000010110001073b9aca0008100000101107 m5 n2 rfl)) ((jD.bW FD id).le (aa aJ 0xa016402110400a0161e02110443401100300101137 hm rfl))
   (bE ⟨bo AI AJ,λx hx hF=>(fD.2 x (bN hx AI) λz=>z.elim hF λz=>(pL nk 0x11011108204053040400303101110420510003 U O qO hx z rfl)).trans (IM.2 x hx hF)⟩) ⟨(aq bL 0x111200032010310003 AI AJ rfl),by show σ.length<=r8;exact(bB dR 0x110112030300303101110420510003 U O qO rfl),by show σ.length<=r9;exact(pL Dt 0x110111140503005033020440303101110420510003 U O k5 J qO rfl),by show σ.length<=stp;exact(aq bL 0x111102030020310003 u10 AI rfl)⟩
 cases wide with
 |true=>
  refine iu (k:=k+1) (many:=4) jB (gI dQ 0x11001011f42400511011101140111011301011101110111011101110444444444431011304203203037004011420226011001000010764021103 hn e2 hA (sN _ _) rfl) ∅ λn9 w q1 q2 q4 q5=>fin n9 (1+w).toNat (aq aX 0x10011011014011103101011370010114102240110010000107 q2 (be (aa az 0x110010114001040110010000107 q2 rfl)) rfl) (q4.le (bB dQ 0x10010111e0213041011101110114011101120101110111011101110113044444444444310112041031020370040114102260110010000107 e2 hA (sN _ _) rfl)) q5 λH stp u=>?_
  rw [show(((1+w).toNat:Nat):Int)=1+w by exact(aa aX 0x111010010114102200101141022 (be (aa az 0x110010114001040110010000107 q2 rfl)) rfl)] at u
  exists call KB λt=>t a1 b1 c1 d1 e1 g1 h1 rfl i1 k1 p1 p2 rfl m1 m4 n1 q1 u rfl
 |false=>
  exact fin mY 1 ∅ (jB.le (bB dQ 0x10010111e02130410111011401110112010111011101110111011304444444444310112041031020370040114102260110010000107 e2 hA (sN _ _) rfl)) (ak.refl _ _) λH stp u=>by
   exists call KB λt=>t a1 b1 c1 d1 e1 g1 h1 rfl i1 k1 p1 p2 rfl m1 m4 n1 u rfl
end
section
variable {φ:bK}{σ:AH}{ρ:bc}
theorem JZ{f c:V->M V}:gT src f (some c) (n+1) i acc σ=(src.jf σ i).bind λo=>match o with
  |none=>some (acc,σ)
  |some v=>((c v).bw λb σ=>vB b λb=>match b with
    |true=>((f v).bw λy=>gT src f (some c) n (i+1) (acc++[y])) σ
    |false=>gT src f (some c) n (i+1) acc σ) σ:=rfl
theorem DJ{l:List V}{src:Src}(H:∀i,src.jf σ i=some l[i]?){f c:V->M V}{tb:V->Bool}(Z:∀v∈l,c v σ=some (.bool (tb v),σ))(U:∀v∈l,f v σ=some (v,σ)):
  ∀(r:List V) (i:Nat) (acc:List V),l.drop i=r->gT src f (some c) (r.length+1) i acc σ=some (acc++r.filter tb,σ)
 |[],i,acc,O=>by
  rw [List.filter_nil,qd]
  exact JZ.trans (bI ((H i).trans (congrArg some (qv (List.drop_eq_nil_iff.mp O)))) rfl)
 |v::r,i,acc,O=>by
  have e:l[i]?=some v:=by rw [←Nat.add_zero i,←Tj,O];rfl
  have Y:=rR e
  have J:l.drop (i+1)=r:=by rw [←List.drop_drop,O];rfl
  refine JZ.trans (bI ((H i).trans (congrArg some e)) (bC (Z v Y) ?_))
  cases h:tb v with
  |true=>exact(bC (U v Y) (DJ H Z U r (i+1) _ J)).trans (by rw [List.filter_cons_of_pos h,iX];rfl)
  |false=>exact(DJ H Z U r (i+1) _ J).trans (by rw [List.filter_cons_of_neg (y9.mp h)])
theorem W1{s:Nat}{e c:XE}{it:XI}{src:Src}{l:List V}{tb:V->Bool}(O:xi φ ρ it σ=some (src,σ))(J:src.sC σ=l.length+1)(H:∀i,src.jf σ i=some l[i]?)(U:l.length<=1000)(Z:∀v∈l,xe φ (ρ.set s (some v)) c σ=some (.bool (tb v),σ))(Y:∀v∈l,xe φ (ρ.set s (some v)) e σ=some (v,σ)):
  xe φ ρ (.nt s e it c) σ=some (.ref σ.length,σ++[AC.list (l.filter tb)]):=
 bC O (bC (J▸DJ H Z Y l 0 [] rfl) (if_pos (bo (SE _ _) U)))
theorem JY{s:Nat}{e c:XE}{it:XI}{ls:Nat}{l:List V}{tb:V->Bool}(O:xi φ ρ it σ=some (.live ls,σ))(H:nI σ ls=some l)(J:l.length<=1000)(Z:∀v∈l,xe φ (ρ.set s (some v)) c σ=some (.bool (tb v),σ))(U:∀v∈l,xe φ (ρ.set s (some v)) e σ=some (v,σ)):
  xe φ ρ (.nt s e it c) σ=some (.ref σ.length,σ++[AC.list (l.filter tb)]):=
 W1 O (congrArg (λo:Option (List V)=>(o.map λl:List V=>l.length+1).getD 0) H) (λi=>congrArg (fu λl:List V=>l[i]?) H) J Z U
theorem JT(J:σ[a]?=some (.list l))(O:σ[b]?=some (.list []))(H:a≠b):Internal.dX .NotEq (.ref a) (.ref b) σ=some (!l.isEmpty):=
 congrArg (fu not) (show sq σ (.ref a) (.ref b)=some l.isEmpty from gV rfl ((if_pos H).trans (fQ (bI J (bI O (by cases l<;>rfl))))))
end
section
variable {k:Nat}
noncomputable def yc(j sc:Nat)(q:eO)(a6 a7 a8 a9 dm cW bS cJ bA bJ H J O:Option V):bc:=
 [some (.ref 0),some (.ref j),some (.ref sc),some (.int q.lc),some (.int q.lp),some (.int q.pb),a6,a7,a8,a9,dm,cW,bS,cJ,bA,bJ,H,J,O,none,none]
noncomputable abbrev oK(j sc:Nat)(q:eO)(a6:Option V)(cut aO:Int)(dm:Option V)(eL eB fm:Int)(bA:Option V)(more:Int):Option V->Option V->Option V->bc:=
 yc j sc q a6 (some (.int cut)) (some (.int q.place)) (some (.int aO)) dm (some (.int eL)) (some (.int eB)) (some (.int fm)) bA (some (.int more))
noncomputable def yN:V->Bool
 |.int x=>!decide (x=0)
 |_=>false
theorem abr{xs:List Int}(Y:xs.length<=63){G:Prop}
  (K:∀σ j sc q,xb (ae (k+3)) (qc.fst 3) [some (.ref 0),none,none,none,none,none,none,none,none,none,none,none,none,none,none,none,none,none,none,none,none] [.jT (xs.map .int) o]=some ((.next,yc j sc q none none none none none none none none none none none none none),σ)->
   σ[0]?=some (.jT (xs.map .int) o)->eZ σ sc q->g8 q->Gs q.text q.ahead (q.pt q.place) q.steps->((q.pt q.place).fin q.steps).at'=q.text.length->q.steps≠[]->gq σ j 200->0<j->(j≠sc/\j≠q.tx/\j≠q.bk/\j≠q.st)->G):G:=by
 refine aa7 (k:=k+2) (σ:=[.jT (xs.map .int) o]) (s:=0) rfl Y λav j a1 a2 a3 a4=>?_
 have H:av[0]?=some (.jT (xs.map .int) o):=a3.get rfl id
 have J:=a2.lt
 have c1:=JY (φ:=ae (k+3)) (σ:=av) (ρ:=[some (.ref 0),some (.ref j),none,none,none,none,none,none,none,none,none,none,none,none,none,none,none,none,none,none,none]) (s:=19) (e:=.var 19) (c:=.cmp .NotEq (.var 19) (.const (.int 0))) (it:=.val (.var 0)) (ls:=0) (l:=xs.map .int) (tb:=yN)
  (by exists iter λt=>t H) (bI H rfl) (by rw [bf];exact(aa au 0x113e80310033f021003 Y rfl)) (λv hv=>by
   obtain⟨x,_,rfl⟩:=jN.mp hv
   have e:Internal.dX .NotEq (.int x) (.int 0) av=some (yN (.int x)):=congrArg (fu not) (JS (σ:=av) x 0)
   exists expr λt=>t e) (λv hv=>rfl)
 have Z:ak F0 av (av++[AC.list ((xs.map V.int).filter yN)]++[AC.list []]):=bE (ak.cU _ _)
 have cm:=JT (σ:=av++[AC.list ((xs.map V.int).filter yN)]++[AC.list []]) (aN new) new (dW (by rw [jb];exact(bx au 0x11011004004 rfl)))
 refine afY (k:=k) (wide:=!((xs.map V.int).filter yN).isEmpty) (a2.bW Z id) ∅ λU sc q b1 b2 b3 b4 b5 b6 b7 b8 b9 O=>?_
 have h2:=Z.1
 refine K U j sc q ?_ (b9.get (Z.get H id) (dW a4)) b2 b3 b4 b5 b6 (b8.le ∅) a4 (bB zZ 0x11000110101001101001011010001110600056500056740005673000567201036020350203740203730203710004 J O h2 rfl)
 exists body λt=>t a1 c1 rfl cm b1 b2.FJ
end
structure uF(q:eO)(cut aO eL eB fm more:Int):Prop where
 o1:0<=aO/\aO<=255
 o2:0<=eL/\eL<=255
 o3:0<=fm/\fm<=255
 LK:cut=2^(8- q.lc).toNat
 l1:q.place<=eB/\0<eB
 l2:eB%2^q.pb.toNat=q.place%2^q.pb.toNat
 l3:eB%2^q.lp.toNat=q.place%2^q.lp.toNat
 hi:(if q.place>0 then aO else 0)/cut=eL/cut
 L6:1<=more
theorem M0(h:w=n*x)(y:Int):(place+w*y)%n=place%n:=by
 rw [h,CN,Sf]
theorem Og{a b:Int}(H:0<=a)(h:a<=b):(2:Int)^b.toNat=2^a.toNat*2^(b- a).toNat:=by
 rw [←wB];congr 1;exact(bB Du 0x110101100101140304205100054022103022002022 (be (aq dB 0x11110001010000000010 H h rfl)) (be (aa az 0x11000010000010 H rfl)) (be (aa dB 0x1100105001010000 h rfl)) rfl)
theorem FH(x:Int)(h:x<=1000):1<=(if x>1 then x else 1)/\(if x>1 then x else 1)<=1000000000:=by
 split
 ·exact⟨iA ‹_›,ku h ∅⟩
 ·decide
section
variable {k:Nat}{σ:AH}{j sc n:Nat}{q:eO}
theorem abt(hj:gq σ j n)(hn:n<=1000)(hS:eZ σ sc q)(Q:g8 q){G:Prop}
  (K:∀σ' a6 cut aO dm eL eB fm bA more,xb (ae (k+3)) ((qc.nL 3).fst 7) (yc j sc q none none none none none none none none none none none none none) σ=
   some ((.next,oK j sc q a6 cut aO dm eL eB fm bA more none none none),σ')->
   uF q cut aO eL eB fm more->ak (λm=>m=j) σ σ'->G):G:=by
 have q1:=Q.lc
 have q2:=Q.lp
 have q3:=Q.pb
 have qa:=Q.ahead
 have ql:=Q.len
 have qp:=Q.place
 obtain⟨U,J⟩:∃U,(if q.pb>q.lp then q.pb else q.lp)=U:=⟨_,rfl⟩
 have Z:q.lp<=U/\q.pb<=U/\U<=4:=by
  split at J
  ·exact⟨iA (J▸‹_›),wx J,J▸q3.2⟩
  ·exact⟨wx J,J▸ky.mp ‹_›,J▸q2.2⟩
 have LZ:fk .max2 [.int q.lp,.int q.pb] σ=some (.int U,σ):=J▸rfl
 have p6:intOp .Pow 2 U=some (2^U.toNat):=mz _ (aq cF 0x10010100113e80311001000107401110010200710000740110000000107 q2 Z rfl)
 have p7:intOp .Pow 2 (8- q.lc)=some (2^(8- q.lc).toNat):=mz _ (aa az 0x111013e80310080115000801150010780110000000107 q1 rfl)
 have w1:=tG U (aq cF 0x100101001180111001000107401110010200710000740110000000107 q2 Z rfl)
 have w1':(2:Int)^U.toNat<=2^4:=iw (aq jt 0x10001140113031030224011100102007100007 Z (be (aq cF 0x10011100010401110010200710000740110000000107 q2 Z rfl)) rfl)
 have w2:=tG (8- q.lc) (aa az 0x1110180110080115000801150010780110000000107 q1 rfl)
 have w2':(2:Int)^(8- q.lc).toNat<=2^8:=iw (aq aX 0x101180111030080115102280110000000107 q1 (be (aa az 0x1010080115001080110000000107 q1 rfl)) rfl)
 have w3:=tG q.lc (aa az 0x1010118011000000010780110000000107 q1 rfl)
 have w3':(2:Int)^q.lc.toNat<=2^8:=iw (aq aX 0x10011801110300102280110000000107 q1 (be (aa az 0x1100001080110000000107 q1 rfl)) rfl)
 have wc:(2:Int)^q.lc.toNat*2^(8- q.lc).toNat=256:=by
  rw [←wB,show q.lc.toNat+(8- q.lc).toNat=8 by exact(aq cQ 0x101110101801120104500801152022001022 (be (aa az 0x1100001080110000000107 q1 rfl)) (be (aa az 0x1010080115001080110000000107 q1 rfl)) rfl)];rfl
 have hwp:=Og (a:=q.pb) (b:=U) q3.1 Z.2.1
 have hwl:=Og (a:=q.lp) (b:=U) q2.1 Z.1
 have p3:intOp .Pow 2 q.lc=some (2^q.lc.toNat):=mz _ (aa az 0x1010113e8031000000010780110000000107 q1 rfl)
 generalize (2:Int)^U.toNat=O at*
 generalize hC:(2:Int)^(8- q.lc).toNat=cut at*
 generalize (2:Int)^q.lc.toNat=H at*
 have EB:(q.text.map V.int)[(q.ahead- 1).toNat]?=some (.int (q.text.getD (q.ahead- 1).toNat 0)):=by
  rw [eT,jI,iy (by exact(aq cQ 0x10011102041011005202210200000401107 qa (be (aa aX 0x111011005001010200000401107 qa rfl)) rfl))];rfl
 have EC:0<=q.text.getD (q.ahead- 1).toNat 0/\q.text.getD (q.ahead- 1).toNat 0<=255:=by
  rw [jI,iy (by exact(aq cQ 0x10011102041011005202210200000401107 qa (be (aa aX 0x111011005001010200000401107 qa rfl)) rfl))]
  exact Q.oct _ (HV _)
 generalize q.text.getD (q.ahead- 1).toNat 0=aO at*
 have s9:cP (ae (k+3)) (.ref q.tx) (.int (q.ahead- 1)) σ=some (.int aO,σ):=kN hS.tx (by rw [bf];exact(aa au 0x113e8031003c8021003 ql rfl)) (by rw [bf];exact(aa aX 0x1010111021011005110110050010710200000401107 qa rfl)) EB
 have W8:∀x,intOp .FloorDiv x cut=some (x/cut):=λx=>qM w2
 obtain⟨high,vq⟩:∃h,(if q.place>0 then aO/cut else 0)=h:=⟨_,rfl⟩
 have y3:xb (ae (k+3)) ((qc.nL 3).fst 2) (yc j sc q none none none none none none none none none none none none none) σ=some ((.next,yc j sc q (some (.int O)) (some (.int cut)) (some (.int q.place)) (some (.int aO)) (some (.int high)) none none none none none none none none),σ):=by
  by_cases z:q.place>0
  ·rw [if_pos z] at vq
   subst vq
   exists body λt=>t LZ p6 p7 hS.place hS.text hS.ahead s9 (nE z) (W8 _)
  ·rw [if_neg z] at vq
   subst vq
   exists body λt=>t LZ p6 p7 hS.place hS.text hS.ahead s9 (gU z)
 have hh0:0<=aO/cut:=ze EC.1 (aa az 0x11000010400000000810010000117 w2 rfl)
 have hh1:aO/cut<H:=Ci w2.1 (aq dB 0x1010100101ff0211001000107100031002 wc EC rfl)
 have LQ:0<=high/\high<H:=by split at vq<;>omega
 have LO:high*cut<=(H- 1)*cut:=zv (aa dB 0x1011011105000100010000107 LQ rfl) (aa az 0x11000010400000000810010000117 w2 rfl)
 rw [C0,lO,wc] at LO
 have Z4:0<=high*cut:=o8 LQ.1 (aa az 0x11000010400000000810010000117 w2 rfl)
 have DV:∀{m:Int} (x:Int),0<m->0<=x%m/\x%m<m:=λx h=>⟨rJ _ (qh h),rS _ h⟩
 refine iu (k:=k+2) hj (aa au 0x11f42400510033e8031003 hn rfl) (FH (cut- 1) (aa az 0x113e803110110050100031000 w2' rfl)) λav r1 a1 a2 j1 f1=>?_
 have No:∀x,intOp .Mod x cut=some (x%cut):=λx=>li w2.1
 have RN:∀x,intOp .Mult x cut=some (x*cut):=λx=>nJ (.inr (nA (aa az 0x10101110000000000000000111200100100000000000000001112317400000000810010000117 w2 rfl)))
 have EA:=DV (aO+1+r1) w2.1
 have AV:=DV (high*cut+(aO+1+r1)%cut) w2.1
 refine iu (k:=k+2) (many:=10^6) j1 (aa au 0x11f4240051101100433e8031003 hn rfl) ∅ λaC r2 b1 b2 j2 f2=>?_
 have p10:intOp .Pow 10 6=some (10^6):=tH ∅
 have RU:∀x,intOp .Mult O x=some (O*x):=λx=>nJ (.inl (nA (aa az 0x10101110000000000000000111200100100000000000000001112317400000000810010000117 w1 rfl)))
 refine iu (k:=k+2) j2 (aa au 0x11f424005110111011004433e8031003 hn rfl) (FH (H- 1) (aa az 0x113e803110110050100031000 w3' rfl)) λdH r3 c1 c2 j3 f3=>?_
 have mlc:∀x,intOp .Mod x H=some (x%H):=λx=>li w3.1
 have Mj:=DV (high+1+r3) w3.1
 have Ml:(high+1+r3)%H*cut<=(H- 1)*cut:=zv (aa dB 0x1011011105000100010000107 Mj rfl) (aa az 0x11000010400000000810010000117 w2 rfl)
 rw [C0,lO,wc] at Ml
 have aaB:0<=(high+1+r3)%H*cut:=o8 Mj.1 (aa az 0x11000010400000000810010000117 w2 rfl)
 obtain⟨mn,L0⟩:∃x,(if q.pb<q.lp then q.pb else q.lp)=x:=⟨_,rfl⟩
 have L4:0<=mn/\mn<=4:=by split at L0<;>omega
 have hmi:fk .min2 [.int q.lp,.int q.pb] dH=some (.int mn,dH):=L0▸rfl
 have w4:=tG q.pb (aa az 0x1010118011000000010740110000000107 q3 rfl)
 have w6:=tG mn (aa az 0x1010118011000000010740110000000107 L4 rfl)
 have pmn:intOp .Pow 2 mn=some (2^mn.toNat):=mz _ (aa az 0x1010113e8031000000010740110000000107 L4 rfl)
 have vV:intOp .Pow 2 q.pb=some (2^q.pb.toNat):=mz _ (aa az 0x1010113e8031000000010740110000000107 q3 rfl)
 have Fl:ak F0 dH (dH++[AC.list [.int (2^q.pb.toNat),.int 1,.int (2^mn.toNat)]]):=ak.cU _ _
 refine iu (k:=k+2) (many:=3) (j3.bW Fl id) (aa au 0x11f42400511011101110110044433e8031003 hn rfl) ∅ λjn r4 d1 d2 j4 f4=>?_
 have Eb:=f4.get (new (c:=AC.list [.int (2^q.pb.toNat),.int 1,.int (2^mn.toNat)])) (gZ j3.lt)
 obtain⟨u,u1,u2⟩:∃u:Int,cP (ae (k+3)) (.ref dH.length) (.int r4) jn=some (.int u,jn)/\0<u/\u<1073741824:=by
  have:=N7 d2
  rcases this with rfl|rfl|rfl
  ·exact⟨_,xV Eb,w4⟩
  ·exact⟨_,MD Eb,by decide⟩
  ·exact⟨_,vC Eb,w6⟩
 have hwu:O/u<=O:=Int.ediv_le_self u (iA w1.1)
 refine iu (k:=k+2) j4 (aa au 0x11f4240051101110111011101100444433e8031003 hn rfl) (FH (O/u- 1) (aq dB 0x1113e8031101110500010010021000 w1' hwu rfl)) λnZ r5 e1 e2 j5 f5=>?_
 refine iu (k:=k+2) (many:=50) j5 (aa au 0x11f424005110111011101110111011004444433e8031003 hn rfl) ∅ λC3 r6 g1 g2 j6 f6=>?_
 have du:intOp .FloorDiv O u=some (O/u):=qM u2
 have xu:∀x,intOp .Mult u x=some (u*x):=λx=>nJ (.inl (nA (aa az 0x10101110000000000000000111200100100000000000000001112317400000000810010000117 u2 rfl)))
 have m1:0<O*(1+r2):=Int.mul_pos w1.1 (aa az 0x1100101140011f42400510010000107 b2 rfl)
 have m2:0<u*(1+r5):=Int.mul_pos u2.1 (aa dB 0x1100101140011100010000107 e2 rfl)
 have m3:0<=O*r6:=o8 (iA w1.1) g2.1
 have hoh:(high*cut+(aO+1+r1)%cut)/cut=high:=by
  rw [Ig,rN,Int.add_mul_ediv_left _ _ (qh w2.1),wg EA.1 EA.2,nU]
 refine K C3 (some (.int O)) cut aO (some (.int high)) (high*cut+(aO+1+r1)%cut) (q.place+O*(1+r2)) ((high+1+r3)%H*cut+(high*cut+(aO+1+r1)%cut)%cut) (some (.int u)) (u*(1+r5)+O*r6) (nT 2 y3 ?_)
  ⟨EC,(bB cF 0x1010101011ff0212000402000400107102012000107000010101000315000 LO Z4 EA rfl),(bB cF 0x1010101011ff0210020400020400107200010101000315200100010000107 AV Ml aaB rfl),hC.symm,(aq dB 0x111011100040011100040007100011000010 qp m1 rfl),M0 hwp _,M0 hwl _,by rw [hoh,←vq];split<;>first|rfl|exact Int.zero_ediv _,(aq dB 0x1111000410110100010000011 m2 m3 rfl)⟩ (f1.trans (f2.trans (f3.trans ((Fl.wide λY z=>z.elim).trans (f4.trans (f5.trans f6))))))
 have Vj:am (ae (k+3)) 4044 [.ref j,.int (10^6)] av=some (.int r2,aC):=b1
 generalize (10:Int)^6=mm at*
 exists body λt=>t (RN _) rfl a1 (No _) p10 Vj (RU _) p3 rfl c1 p3 (mlc _) (RN _) (No _) vV hmi pmn rfl d1 u1 du rfl e1 (xu _) g1 (RU _)
end
section
variable {k:Nat}{σ:AH}{j sc n:Nat}{q:eO}{cut aO eL eB fm more:Int}
theorem Alike.pt(q:eO)(p U:Int):Alike (q.pt p) (q.pt U):=⟨rfl,rfl,rfl⟩
theorem uP(Q:g8 q)(J:0<=o/\o<=255)(p:Int):qD (di q o) (q.pt p)=if p>0 then o else 0:=by
 have:=Q.ahead
 unfold qD
 show(if p>0 then oct (di q o) (q.ahead- 1) else 0)=_
 rw [yp Q J (by exact(aa aX 0x1010111021011005110110050010710200000401107 this rfl)),if_pos rfl]
theorem YM(Q:g8 q)(g:Gs q.text q.ahead (q.pt q.place) q.steps)(N:uF q cut aO eL eB fm more):q.ev eB eL=q.ev q.place aO:=by
 have hp:=Q.place
 refine(Av Q N.o1 N.o2 g (Alike.pt ..) (Alike.pt ..) ⟨hp,iA N.l1.2⟩ N.l2.symm (λY=>N.l3.symm) λY=>?_).symm
 rw [uP Q N.o1,uP Q N.o2,if_pos N.l1.2,←N.LK]
 exact N.hi
theorem KX(Q:g8 q)(g:Gs q.text q.ahead (q.pt q.place) q.steps)(N:uF q cut aO eL eB fm more)(h:q.steps.head?≠some .lit\/q.lc=0):q.ev eB fm=q.ev q.place aO:=by
 have hp:=Q.place
 refine(Av Q N.o1 N.o3 g (Alike.pt ..) (Alike.pt ..) ⟨hp,iA N.l1.2⟩ N.l2.symm (λY=>N.l3.symm) λz=>?_).symm
 rcases h with h|h
 ·exact absurd z h
 ·have V:=N.o1
  have Z:=N.o3
  rw [uP Q N.o1,uP Q N.o3,h,show((2:Int)^(8- (0:Int)).toNat)=256 from rfl,wg (by split<;>omega) (by split<;>omega),wg (by split<;>omega) (by split<;>omega)]
theorem KY(Q:g8 q)(g:Gs q.text q.ahead (q.pt q.place) q.steps)(N:uF q cut aO eL eB fm more)(J:more%2^q.pb.toNat=0)(O:more%2^q.lp.toNat=0\/aK.lit∉q.steps):q.ev (q.place+more) eL=q.ev q.place aO:=by
 have hp:=Q.place
 have H:=N.L6
 have Z:∀n:Int,more%n=0->q.place%n=(q.place+more)%n:=λn e=>by
  rw [Ip,e,uv,Int.emod_emod_of_dvd _ (Int.dvd_refl n)]
 refine(Av Q N.o1 N.o2 g (Alike.pt ..) (Alike.pt ..) ⟨hp,by show 0<=q.place+more;exact(aq dB 0x1111000400101010110000010 hp H rfl)⟩ (Z _ J) (λz=>Z _ (O.resolve_right λh=>h z)) λY=>?_).symm
 rw [uP Q N.o1,uP Q N.o2,if_pos (show q.place+more>0 by exact(aq dB 0x1111000400111010110000010 hp H rfl)),←N.LK]
 exact N.hi
noncomputable def Oo(q:eO):Nat->Int:=MR.cnt ⟨0,0,0,0,λY=>0,λY=>0,q.lc,q.lp,q.pb⟩
theorem JV{R:MR}(h:R.lc=q.lc/\R.lp=q.lp/\R.pb=q.pb):R.cnt=Oo q:=by
 show R.cnt=MR.cnt ⟨0,0,0,0,λY=>0,λY=>0,q.lc,q.lp,q.pb⟩
 rw [←h.1,←h.2.1,←h.2.2];rfl
structure jp(σ:AH)(lo rf kp tl:Nat)(q:eO)(mm:Nat)(l:List Ev):Prop where
 hf:σ[rf]?=some (.gX [(43,.ref kp),(29,.ref mm)])
 hk:σ[kp]?=some (.list [.bytes (yg l),.ref tl,.int (pQ l (dc l))])
 ht:oh σ lo tl λi=>lC (Oo q i) (dc l i)
 l1:lo<=kp
 l2:lo<=rf
theorem jp.bW{F:Nat->Prop}{lo:Nat}(h:jp σ lo O U Y q mm l)(x:ak F σ σ')(J:∀m,F m->m<lo):jp σ' lo O U Y q mm l:=
 ⟨x.get h.hf λz=>gQ.mpr h.l2 (J _ z),x.get h.hk λz=>gQ.mpr h.l1 (J _ z),h.ht.bW x J,h.l1,h.l2⟩
theorem jp.f0{lo:Nat}(h:jp σ lo O U J q mm l)(x:ak F0 σ σ'):jp σ' lo O U J q mm l:=h.bW x λY z=>z.elim
theorem wM.xW{lo:Nat}{R:MR}(h:wM σ lo O U Y q R l):jp σ lo O U Y q R.m l:=⟨h.hf,h.hk,JV h.p▸h.ht,h.l1,h.l2⟩
theorem MF{lo:Nat}(h:jp σ lo rf U tl q mm l)(h':jp σ O rf' J PM q Nr l):i8 4 σ (.ref U) (.ref J)=some true:=
 Au h.hk h'.hk rfl (vf (congrArg some (beq_self_eq_true _)) (vf (KW 1 h.ht h'.ht λj Y=>rV.refl (ah8 j)) (vf (congrArg some (beq_self_eq_true _)) rfl)))
theorem MG{lo:Nat}(h:jp σ lo rf U tl q mm l)(h':jp σ O Y J PM q Nr l)(H:U≠J):Internal.dX .NotEq (.ref U) (.ref J) σ=some false:=DF H (MF h h')
theorem abc{lo:Nat}(h:jp σ lo rf U tl q mm l)(h':jp σ O Y J PM q Nr l)(H:U≠J):Internal.dX .Eq (.ref U) (.ref J) σ=some true:=
 have h:(if U=J then some true else xr (i8 3 σ) σ U J)=some true:=MF h h'
 show sq σ (.ref U) (.ref J)=some true from gV rfl ((if_pos H).trans ((if_neg H).symm.trans h))
theorem BI(Q:g8 q)(U:eZ σ sc q)(g:Gs q.text q.ahead (q.pt q.place) q.steps)(H:((q.pt q.place).fin q.steps).at'=q.text.length)(hp:q.place<=p)(J:0<=o/\o<=255){X:Prop}
  (K:∀σ' lo O V Y R,am (ae (k+15)) 4132 [.ref sc,.int p,.int o] σ=some (.ref O,σ')->wM σ' lo O V Y q R (q.ev p o)->σ.length<=lo->(∀m,R.foot m->σ.length<=m)->ak F0 σ σ'->X):X:=
 afH U Q J (ku Q.place hp) (g.vs Q J (Alike.pt ..) hp) ((K8 _ (Alike.pt ..)).trans H) K
structure R4(cZ σ:AH)(q:eO)(rr mr rn pH tU:Nat)(R0:MR)(lo1 tI qX tV m1 pK tJ pI tW m2 mt tK pJ tX m3:Nat)(l0 l1 l2 l3:List Ev):Prop where
 hr:σ[rr]?=some (.list [.ref rn,.ref tI,.ref tJ,.ref tK])
 r0:wM σ mr rn pH tU q R0 l0
 r1:jp σ lo1 tI qX tV q m1 l1
 r2:jp σ pK tJ pI tW q m2 l2
 r3:jp σ mt tK pJ tX q m3 l3
 lo:pH<lo1/\pH<pK/\pH<mt/\mr<=lo1/\mr<=pK/\mr<=mt/\mr<=rr
 ft:∀m,R0.foot m->cZ.length<=m
 F:ak F0 cZ σ
theorem abu(Q:g8 q)(hS:eZ σ sc q)(g:Gs q.text q.ahead (q.pt q.place) q.steps)(Y:((q.pt q.place).fin q.steps).at'=q.text.length)(N:uF q cut aO eL eB fm more){G:Prop}
  (K:∀σ' rr mr H pH tU R0 lo1 J qX tV m1 pK O pI tW m2 mt U pJ tX m3,xb (ae (k+15)) ((qc.nL 10).fst 2) (oK j sc q a6 cut aO dm eL eB fm bA more none none none) σ=
    some ((.next,oK j sc q a6 cut aO dm eL eB fm bA more (some (.ref rr)) none none),σ')->
   R4 σ σ' q rr mr H pH tU R0 lo1 J qX tV m1 pK O pI tW m2 mt U pJ tX m3 (q.ev q.place aO) (q.ev eB eL) (q.ev eB fm) (q.ev (q.place+more) eL)->G):G:=by
 refine BI (k:=k) Q hS g Y (qn _) N.o1 λav mr H pH tU R0 a1 a2 a3 a4 a5=>?_
 refine BI (k:=k) Q (hS.bW a5) g Y N.l1.1 N.o2 λaC lo1 J qX tV R1 b1 b2 b3 b4 b5=>?_
 have F2:ak F0 aC (aC++[AC.list [.ref H,.ref J]]):=ak.cU _ _
 have rW:=a5.trans (b5.trans F2)
 have Ly:=hS.bW rW
 refine BI (k:=k) Q Ly g Y N.l1.1 N.o3 λjn pK O pI tW R2 c1 c2 c3 c4 c5=>?_
 refine BI (k:=k) Q (Ly.bW c5) g Y (p:=q.place+more) (by have:=N.L6;exact(aa dB 0x11001041000010110 this rfl)) N.o2 λZ mt U pJ tX R3 d1 d2 d3 d4 d5=>?_
 have F6:ak F0 Z (Z++[AC.list [.ref O,.ref U]]++[AC.list [.ref H,.ref J,.ref O,.ref U]]):=bE (ak.cU _ _)
 have g5:=(c5.trans d5).get (new (c:=AC.list [.ref H,.ref J])) id
 have ad:=gS (aN (l:=[AC.list [.ref O,.ref U]]) g5) new (show 2+2<=1000 by decide)
 have k0:=cK a2.hk
 have l1:=b5.1
 have l4:=c5.1
 have l5:=d5.1
 have k0':=a2.l1
 have e2:(aC++[AC.list [V.ref H,.ref J]]).length=aC.length+1:=jb
 have e5:(Z++[AC.list [V.ref O,.ref U]]).length=Z.length+1:=jb
 have IQ:=b5.trans (F2.trans (c5.trans (d5.trans F6)))
 have r0:=a2.xW.f0 IQ
 refine K _ _ mr H pH tU R0 lo1 J qX tV R1.m pK O pI tW R2.m mt U pJ tX R3.m ?_
  ⟨new,⟨r0.hf,r0.hk,(JV a2.p).symm▸r0.ht,a2.md.bW IQ,a2.good,a2.p,a2.low,a2.l1,a2.l2⟩,b2.xW.f0 (F2.trans (c5.trans (d5.trans F6))),c2.xW.f0 (d5.trans F6),d2.xW.f0 F6,(abR Wm 0x1111110101001111011000101011001100011001000100001001111001000101011000100011001000000001a09035090373090371090375060473060471060471011804a0510117042056090380403402037000300604504033020310003 b3 c3 d3 k0 l1 l4 l5 k0' e2 e5 rfl),a4,rW.trans (c5.trans (d5.trans F6))⟩
 exists body λt=>t a1 b1 rfl c1 d1 rfl ad
end
theorem Xf(i:Nat):∀l:List Ev,Dg (dc l i) l.length:=by
 refine BR ⟨λj=>by show 1<=(1024:Int)/\(1024:Int)<=2047;decide,cY _⟩ λl e H=>?_
 rw [Ao,bZ]
 unfold lG upd
 split
 ·rename_i q;subst q;exact H.set _ _
 ·exact⟨H.1,Tv H.2⟩
section
variable {σ:AH}
theorem Mt:∀L:List aK,qU (.tup [.str 35]) (L.map aK.v)=some (L.any aK.isLit)
 |[]=>rfl
 |st::L=>by
  show((su st.v (.tup [.str 35])).bind λx=>(qU (.tup [.str 35]) (L.map aK.v)).map λy=>x||y)=_
  rw [Mt L,show su st.v (.tup [.str 35])=some st.isLit by cases st<;>rfl];rfl
theorem JU{L:List aK}(h:σ[n]?=some (.list (L.map aK.v)))(O:L.any aK.isLit=!b):Internal.dX .NotIn (.tup [.str 35]) (.ref n) σ=some b:=
 gV rfl (bI h (by show(qU (.tup [.str 35]) (L.map aK.v)).map not=_;rw [Mt,O];exact congrArg some (Bool.not_not b)))
theorem Vf{L:List aK}(h:L.any aK.isLit=false):aK.lit∉L:=λH=>y9.mp h (TF.mpr ⟨_,H,rfl⟩)
variable {k:Nat}{j sc n:Nat}{q:eO}{cut aO eL eB fm more:Int}
theorem abv{lo1 mt:Nat}(Q:g8 q)(hS:eZ σ sc q)(g:Gs q.text q.ahead (q.pt q.place) q.steps)(jw:q.steps≠[])(N:uF q cut aO eL eB fm more)
  (r:R4 cZ σ q U mr rn J tU R0 lo1 tI qX tV m1 pK tJ pI tW m2 mt tK pJ tX m3 (q.ev q.place aO) (q.ev eB eL) (q.ev eB fm) (q.ev (q.place+more) eL)) (ha:q.apart sc R0.foot) (h0:¬R0.foot 0) {c:AC} (hc:σ[0]?=some c) {G:Prop}
  (K:∀σ' aV,xb (ae (k+15)) (qc.nL 12) (oK j sc q a6 cut aO dm eL eB fm bA more (some (.ref U)) none none) σ=some ((.ret (.bool true),aV),σ')->σ'[0]?=some c->G):G:=by
 have r0:=r.r0
 have c1:=JY (φ:=ae (k+15)) (σ:=σ) (ρ:=oK j sc q a6 cut aO dm eL eB fm bA more (some (.ref U)) none none) (s:=20) (e:=.var 20) (c:=.cmp .Is (.var 20) (.const .none)) (it:=.val (.var 16)) (ls:=U) (l:=[.ref rn,.ref tI,.ref tJ,.ref tK]) (tb:=λY=>false)
  (by exists iter λt=>t r.hr) (bI r.hr rfl) (show 4<=1000 by decide) (λv hv=>by
   have gc:∃x,v=.ref x:=by
    rcases eJ.mp hv with rfl|hv
    ·exact⟨_,rfl⟩
    obtain⟨x,hx⟩:∃x:Nat,v=.ref x:=by
     rcases eJ.mp hv with rfl|hv
     ·exact⟨_,rfl⟩
     rcases eJ.mp hv with rfl|hv
     ·exact⟨_,rfl⟩
     exact⟨_,cA.mp hv⟩
    exact⟨x,hx⟩
   obtain⟨x,rfl⟩:=gc
   rfl) (λv hv=>rfl)
 have F1:ak F0 σ (σ++[AC.list []]++[AC.list []]):=bE (ak.cU _ _)
 have cm:=JT (σ:=σ++[AC.list []]++[AC.list []]) (aN new) new (dW (by rw [jb];exact jL _))
 have abQ:R0.oj (σ++[AC.list []]++[AC.list []]).length:=r0.low.up (bo r0.l1 (bo (iI (cK r0.hk)) F1.1))
 have k0:=r0.xW.f0 F1
 have k1:=r.r1.f0 F1
 have k2:=r.r2.f0 F1
 have k3:=r.r3.f0 F1
 have V:=F1.get r.hr id
 have Lx:=hS.bW F1
 have El:=F1.get hc id
 have M1:=r0.md.bW F1
 generalize Mq:σ++[AC.list []]++[AC.list []]=av at*
 have l4:4<=1000:=by decide
 have s0:cP (ae (k+15)) (.ref rn) (.str 43) av=some (.ref J,av):=j8 k0.hf rfl
 have s1:cP (ae (k+15)) (.ref tI) (.str 43) av=some (.ref qX,av):=j8 k1.hf rfl
 have sm:cP (ae (k+15)) (.ref rn) (.str 29) av=some (.ref R0.m,av):=j8 k0.hf rfl
 have i0:cP (ae (k+15)) (.ref U) (.int 0) av=some (.ref rn,av):=lz V l4 rfl rfl
 have i1:cP (ae (k+15)) (.ref U) (.int 1) av=some (.ref tI,av):=lz V l4 rfl rfl
 have sH:=YM Q g N
 rw [sH] at k1
 have sF:(q.ev q.place aO).length<=23*q.steps.length:=xx (g.vs Q N.o1 (Alike.pt ..) (qn _))
 have fh:=Q.steps
 have H:=r.lo
 have aah:=r0.low
 refine Pj (k:=k+1) (n:=(q.ev q.place aO).length) (place:=eB) Lx Q N.o2 r0.good r0.p M1 abQ (λi=>Xf i _) ha (g.vs Q N.o2 (Alike.pt ..) N.l1.1) (aq aJ 0x11702f125803100340111031017026003 sF fh rfl) λaC b1 b2 b3=>?_
 rw [sH] at b1
 have nR:∀{lo},mr<=lo->∀m,R0.foot m->m<lo:=λh m z=>bN (aah.f m z) h
 have e0:=k0.bW b3 (nR (cY _))
 have e2:=k2.bW b3 (nR H.2.2.2.2.1)
 have e3:=k3.bW b3 (nR H.2.2.2.2.2.1)
 have Mi:=b3.get V λz=>qg _ (nR H.2.2.2.2.2.2 _ z)
 have O:=Lx.AA b3 ha
 have pk:cP (ae (k+15)) (.ref J) (.int 2) aC=some (.int (pQ (q.ev q.place aO) (dc (q.ev q.place aO))),aC):=lz e0.hk (show 3<=1000 by decide) rfl rfl
 have Fc:∀{lo kp},J<lo->lo<=kp->kp≠J:=λh h'=>gZ (bN h h')
 have WQ:=MG k1 k0 (Fc H.1 k1.l1)
 have y12:xb (ae (k+15)) ((qc.nL 12).fst 3) (oK j sc q a6 cut aO dm eL eB fm bA more (some (.ref U)) none none) σ=some ((.next,oK j sc q a6 cut aO dm eL eB fm bA more (some (.ref U)) (some (.ref J)) none),aC):=by
  subst Mq
  exists body λt=>t c1 rfl cm i0 s0 i1 s1 WQ i0 sm b1 pk (tn rfl)
 have s2:cP (ae (k+15)) (.ref tJ) (.str 43) aC=some (.ref pI,aC):=j8 e2.hf rfl
 have s3:cP (ae (k+15)) (.ref tK) (.str 43) aC=some (.ref pJ,aC):=j8 e3.hf rfl
 have i2:cP (ae (k+15)) (.ref U) (.int 2) aC=some (.ref tJ,aC):=lz Mi l4 rfl rfl
 have i3:cP (ae (k+15)) (.ref U) (.int 3) aC=some (.ref tK,aC):=lz Mi l4 rfl rfl
 obtain⟨Z,L',hL⟩:∃Z L',q.steps=Z::L':=List.exists_cons_of_ne_nil jw
 have EK:=O.st
 have Go:cP (ae (k+15)) (.ref q.st) (.int 0) aC=some (Z.v,aC):=kN EK (by rw [bf];exact(aa au 0x113e80310034011003 fh rfl)) (by rw [hL];exact⟨qn _,Int.natCast_pos.mpr (Io _)⟩) (by rw [hL];rfl)
 have nl:=ahs (σ:=aC) Z
 have same:q.ev eB fm=q.ev q.place aO->Internal.dX .NotEq (.ref pI) (.ref J) aC=some false:=λe=>MG (e▸e2) e0 (Fc H.2.1 e2.l1)
 have y15:xb (ae (k+15)) ((qc.nL 15).fst 1) (oK j sc q a6 cut aO dm eL eB fm bA more (some (.ref U)) (some (.ref J)) none) aC=some ((.next,oK j sc q a6 cut aO dm eL eB fm bA more (some (.ref U)) (some (.ref J)) none),aC):=by
  cases z:Z.isLit with
  |true=>
   rw [z] at nl
   by_cases z2:q.lc=0
   ·have DE:=same (KX Q g N (.inr z2))
    exists body λt=>t O.steps Go nl (eqT z2) i2 s2 DE
   ·exists body λt=>t O.steps Go nl (gy z2)
  |false=>
   rw [z] at nl
   have DE:=same (KX Q g N (.inl (by rw [hL];exactλy=>by rw [bT y] at z;nomatch z)))
   exists body λt=>t O.steps Go nl i2 s2 DE
 have vV:intOp .Pow 2 q.pb=some (2^q.pb.toNat):=mz _ (by have:=Q.pb;exact(aa az 0x1010113e8031000000010740110000000107 this rfl))
 have FI:intOp .Pow 2 q.lp=some (2^q.lp.toNat):=mz _ (by have:=Q.lp;exact(aa az 0x1010113e8031000000010740110000000107 this rfl))
 have Bo:intOp .Mod more (2^q.pb.toNat)=some (more%2^q.pb.toNat):=li (g7 ∅)
 have E9:intOp .Mod more (2^q.lp.toNat)=some (more%2^q.lp.toNat):=li (g7 ∅)
 have hk:=λb h=>K aC (oK j sc q a6 cut aO dm eL eB fm bA more (some (.ref U)) (some (.ref J)) (some (.bool b))) (nT 3 y12 (nT 1 y15 h)) (b3.get El h0)
 have OT:q.ev (q.place+more) eL=q.ev q.place aO->Internal.dX .Eq (.ref pJ) (.ref J) aC=some true:=λe=>abc (e▸e3) e0 (Fc H.2.2.1 e3.l1)
 by_cases z1:more%2^q.pb.toNat=0
 ·by_cases z2:more%2^q.lp.toNat=0
  ·have ce:=OT (KY Q g N z1 (.inl z2))
   refine hk true ?_
   exists body λt=>t vV Bo (eqT z1) FI E9 (eqT z2) i3 s3 ce
  ·cases z3:q.steps.any aK.isLit with
   |true=>
    have cn:=JU (b:=false) EK z3
    refine hk false ?_
    exists body λt=>t vV Bo (eqT z1) FI E9 (gy z2) O.steps cn
   |false=>
    have cn:=JU (b:=true) EK z3
    have ce:=OT (KY Q g N z1 (.inr (Vf z3)))
    refine hk true ?_
    exists body λt=>t vV Bo (eqT z1) FI E9 (gy z2) O.steps cn i3 s3 ce
 ·refine hk false ?_
  exists body λt=>t vV Bo (gy z1)
end
theorem abw:IW:=by
 intro xs o hx
 refine abr (k:=16) (o:=o) hx λav j sc q h1 h2 hS Q g U V hj Y O=>?_
 refine abt (k:=16) hj ∅ hS Q λaC a6 cut aO dm eL eB fm bA more h3 N F2=>?_
 have H:eZ aC sc q:=hS.AA F2 ⟨eN O.1,eN O.2.1,eN O.2.2.1,eN O.2.2.2⟩
 have g2:=F2.get h2 (dW Y)
 refine abu (k:=4) (j:=j) (a6:=a6) (dm:=dm) (bA:=bA) Q H g U N λdH rr mr rn pH tU R0 lo1 tI qX tV m1 pK tJ pI tW m2 mt tK pJ tX m3 c1 r=>?_
 have J:∀m,m<aC.length->¬R0.foot m:=λm h z=>gQ.mpr (r.ft m z) h
 refine abv (k:=4) (j:=j) (a6:=a6) (dm:=dm) (bA:=bA) Q (H.bW r.F) g V N r ⟨J _ (cK H.o),J _ (cK H.tx),J _ (cK H.bk),J _ (cK H.st)⟩ (J _ (cK g2)) (r.F.get g2 id) λZ aV d1 d2=>⟨Z,?_,d2⟩
 exact(congrFun (Yn (k:=19) (a0:=.ref 0)) _).trans (bC (nT 3 h1 (nT 7 h3 (nT 2 c1 d1))) rfl)
theorem all_holds:fq.Holds:=aat (WB abw)
end Mine.Internal
theorem PySem.Challenge.cw_tg0046_01_holds : PySem.Challenge.rw_tg0046_01.Holds :=
 Mine.Internal.all_holds
