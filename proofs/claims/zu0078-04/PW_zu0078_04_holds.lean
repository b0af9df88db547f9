import PyProof.Rows.All
import Wide.All
import OpenK.AllK
import Wide.FinOn
import PyProof.EnumMake
import PySem.Challenge.RW_zu0078_04
set_option Elab.async false
set_option genInjectivity false
set_option genSizeOf false
set_option genSizeOfSpec false
set_option maxRecDepth 1000000
set_option linter.all false
set_option tactic.hygienic false
open PySem renaming wpAny_bind→aS,Shared→bS,wpAny_pure→fS,Expr→iD,Addr→iS,model→pR,wpAny→tL,wpAny_specialOf→As,wpAny_of_eq→AS,Around→Bs,intBits_le_64→Ex,wpAny_holding→LO,Scope→OS,Heap→UT,valueAt→UU,mainGlobals→UX,wpAny_call_entry→UY,wpAny_mono→UZ,wpAny_isInstance→U0,World→Va,typeLookup→Vb,SetTable→Vc,Program→Vd,checkBuiltinCall→Vg,wpAny_askSetting→Vh,wpAny_rule→Vj,assignEach→Vk,wpAny_truthy_bool→Vm,entryFor→Vn,compareOp→Vv,letOwnedTupleGo→VC,nsFind→VG,intKind→VI,wpAny_newObj_type→VJ,Operator→VP,starEach→VQ,entryFor_of_tree→VW,Model→VX,CmpOp→VY,Result→V1,plainId_quiet→V6,swappedStores→V7,codeAny_builtin→V8,intKind_is→Wb,IsPart→Wc,clipAt→Wi,NameKind→Wk,entryFor_of_fast→Wp,wpAny_load→Wq,treeTable→Wt,wpAny_release→Wu,wpAny_field→Wx,importedModules→WC,Stmt→WE,assignStores→WF,binaryOp→WK,backTo→WL,getMethod_builtin→WY,wpAny_setState_of→WZ,pyIter→W7,behindInMarks→W8,DictEntry→Xc,StrKeys→Xi,builtinsNs→Xj,assign→Xm,wpAny_loadPart'→Xn,OsState→Xo,argsOk→Xu,rawInt→Xw,setItem→XA,wpAny_setEntries_of→XK,wpAny_attempt→XO,Comprehension→XS,comprehension→XT,sizeLine→Yj,spliced→Yk,wpAny_pyIter_slot→Ym,foldedSetIterable→Yn,isSubtype→Yu,specialOf→Yv,pickOrder→Yw,Keyword→Yx,cellsFrom→Yz,wpAny_mkInt→YI,Code→YM,codeAny_of_tree→YN,rawPart→YT,Builtin→YU,IntMulOk→YZ,typeIs_int→Y1,entryFor_alias→Y2,strKind_is→Y3,pyNext→Y9,wpAny_setField→Za,FuncData→Zc,Params→Zd,dropValue→Zv,wpAny_unpackItems_tuple→Zw,outcomeOf→Zy,wpAny_typeOf→aab,stored→aad,wpAny_mkText→aae,wpAny_pyNext_list_item→aaf,relabel→aag,wpAny_pyNext_list_end→aan,wpAny_pyNext_enum_end→aap,keeperOf→aar,keywordEach→aav,execs→aaw,plainIs→aaA,list_getitem_lookup→aaB,wpAny_setItem_pairs→aaC,call_meets→aaK,sysModules→aaL,wpAny_getItem_slot→aaM,wpAny_call→aaN,isInstance→aaO,layNew→aaS,denote→aaT,methodCall→aaU,runOwn→aaV,Thread→aaW,codeAny→aa0,wpAny_sequenceKey→aa1,slot_list_setitem→aa4,wpAny_pyIter_list→aa7,BindsTo→aa8,callerA→aa9,wpAny_lookBehind→abh,sliceIndices_raw→abj,wpAny_getItem_of→abn,wpAny_comp_letGo→abr,inplaceOp→abt,call→abw,leftWithCleanup→abG,slice_no_index→abO,wpAny_loadPart→abQ,wpAny_fieldsOf→abS,firstArgMember→abT,newFunctionEnv→abU,methodCallForm→abX,markedBehindIn→abY,constantsAlone→abZ
open Option.some renaming inj→eQ,injEq→YL
open List renaming length_map→eS,replicate→oR,range→oS,length_append→pS,length_range→tS,length_replicate→vS,getElem?_eq_getElem→yS,mem_cons_of_mem→ES,mem_cons_self→FS,take_succ_eq_append_getElem→Gd,getElem_map→HD,map_cons→IS,map_append→Lo,length_singleton→Op,length_take→Ps,getElem?_map→PR,length_cons→UP,lookup_cons→UR,getElem_mem→US,take_length→UV,getElem?_replicate→U1,append_nil→U9,length_filter_le→Ve,findIdx?_cons→Vs,zip_cons_cons→Vt,getElem?_eq_none→Vz,mem_append_right→VA,mem_of_getElem?→VD,mem_of_mem_take→VE,mem_append_left→VF,map_map→VK,length_drop→VL,filterMap_cons→VO,mem_cons→VT,eq_of_mem_replicate→VU,foldl_cons→VV,filter_append→V0,filter_cons_of_pos→V4,drop_of_length_le→V9,getElem_take→Wa,ext_getElem→Wf,range_succ→Wm,countP_eq_length_filter→Wn,length_set→Wo,map_congr_left→Ws,map→Wz,mem_of_find?_eq_some→WD,length_erase_of_mem→WJ,not_mem_nil→WM,map_reverse→WN,getElem_inj→WO,filter_cons_of_neg→WP,take→WQ,take_of_length_le→WW,getElem_replicate→W0,contains_eq_mem→Xf,mem_erase_of_ne→Xg,length_take_le'→Xh,exists_cons_of_length_eq_add_one→Xk,drop→Xl,getElem_of_mem→Xq,getElem_range→Xt,foldl_append→XC,countP_congr→XE,length_eq_countP_add_countP→XG,map_fst_zip→XW,cons_append→XX,countP_cons→XY,find?_cons→Yd,of_mem_zip→Yg,mem_append→Yi,range_add→Yt,mem_or_eq_of_mem_set→YH,toArray_replicate→YR,length_pos_of_mem→YW,mem_of_mem_erase→Y4,length_erase_le→Zg,mem_of_mem_drop→Zi,replicate_succ→Zm,countP_append→Zz,map_replicate→ZA,mem_singleton→ZE,reverse_cons→aah,getElem?_set→aai,getElem_drop→aaj,find?_some→aaq,forIn_cons→aau,nodup_cons→aax,countP_map→aaz,drop_zero→aaD,mem_range→aaI,map_take→aaP,map_nil→aaZ,map_set→aa5,mem_map→abd,lookup→abu
open Nat renaming le_trans→gD,le_refl→oP,le_of_ble_eq_true→EQ,le_add_right→NM,zero_le→Tl,ne_of_lt→TS,min_eq_left→UO,blt→Vl,lt_of_le_of_lt→Vu,add_le_add_right→VH,succ_ne_zero→VN,add_lt_add_left→VR,ble→VZ,add_sub_cancel_left→V5,lt_succ_self→Wj,zero_add→Wv,lt_trans→Ww,le_succ→WH,mod_eq_of_lt→WU,le_of_eq→W5,mod_lt→W6,div_div_eq_div_mul→W9,sub_eq_zero_of_le→Xb,eq_of_beq_eq_true→Xe,beq→Xp,le_total→XH,ne_of_gt→XJ,le_of_lt→XM,min_eq_right→XZ,mod_add_div→Yq,succ_pos→YX,sub_zero→Y5,ble_eq_true_of_le→Zl,mod_one→Zn,lt_of_lt_of_eq→aak,lt_succ_of_le→aao,testBit_xor→aaH,cast→aaJ,add_assoc→abc,lt_irrefl→abe,sub_self→abz,add_zero→abA,div_one→abL
open PySem.Heap renaming get?_push_of_some→sT,get?_push_size→GD,lt_size→Nm,SameBut→OR,get?_update_self→UW,ExtBut→abq
open Classical renaming byContradiction→BS
open Array renaming getElem?_eq_getElem→Hd,getElem?_toList→We,getElem?_eq_none→WR,getElem_toList→Y8,toList_append→Zf,length_toList→Zh,size_append→Zs,getElem_mem→Zu,replicate→aam,mk→ab5
open PySem.Challenge renaming pw_zu0078_04→HI
open Bool renaming not_eq_true'→ID,and_eq_true→UQ,noConfusion→Vp,and_false→Vq,or_eq_true→Wl,false_and→Ys,false_ne_true→Zq
open Ne renaming symm→NS
open PySem.Builtin renaming bitAnd→OP,bitOr→VM,bitNot→V3,divisionGoesByPylong→Wh,bitXor→Ya
open UInt8 renaming ofNat→Tk
open PySem.Heap.SameBut renaming update→Ts,refl→Yy
open Nat.succ renaming inj→Vf
open PySem.Around renaming under_plainId→Vi,under_of_weight→YK
open PySem.pickOrder renaming go→Vo
open PySem.NameKind renaming free→Vr,cell→Wy
open PyProof.Rows.F renaming plain_set_update_loop→Vx,entry_set_update_loop→WG
open PySem.W.Looks renaming of_pure→Vy,ld→ab1
open PySem.Builtin.Bytes renaming subscript?→VB,buffer?→VS,bindOptional→Xr,ownRelease→Xv,fitsIndex→Xx,exportsOf→Xz,exported→XI,payload→XN,write→Yb,sliceParts→abi,checkResize→abk,byteValue→abl,takeBufferQuiet?→abm
open PySem.W renaming findIn→V2,instObj→Wg,boot_heap→XB,SharedT→Yp,Frag→YY,Looks→Y6,keepIn→Y7,plainOver→Zt,looks_nsIn→aaQ,typeIn→aaR,boot_drawn→aaX,namesBound→aaY,boot_toks→abx,staticsOk→aby,wellAll_cons_inv→abB
open PySem.Keeper renaming boundFrame→WA,machine→Xa,frame→Xs
open Option renaming map_some→WS,bind_some→Xy,isNone_iff_eq_none→Yo,none→YQ,getD_some→Zx,map→abb
open Eq renaming trans→WV,refl→aay,symm→abC
open PySem.MeetsSeq renaming plain_remove_loop→WX,entry_remove_loop→aa6
open PyProof.Rows renaming tail_any→Xd,subscriptTail→XQ,IntsAre→YS
open PySem.SetTable renaming below→XR
open PySem.Flow renaming next→XU
open PySem.F renaming slot_enumerate_iter→XV,slot_list_remove→Yl,plainAttrs_list→Yr,slot_set_iter→YJ
open PySem.Heap.IsSliceOf renaming new→Yc
open PySem.PyData renaming keyHash→Ye
open PySem.Builtin.Range renaming small→Yf,rangeSize→abo,rangeFitsLong→abp
open Exists renaming imp→Yh
open PySem.ScopeKind renaming function→YO
open PySem.Heap.DictOf renaming new→YV
open PySem.Expr renaming Name→Zb
open ForInStep renaming yield→Zj
open PySem.callAny renaming viaDunder→Zk
open List.cons renaming inj→Zp
open PySem.Code renaming quiet_builtin→Zr
open PySem.W.KBc renaming size_picked_le→aac,picked_eq→aa3
open PySem.W.WData renaming int→aal
open PySem.Builtin.Frozenset renaming updateFrom→aas,sizeOf→aat
open PySem.IsRange renaming new→aaE
open PySem.AutoIntOps renaming iadd_0→aaF,isub_0→aaG
open Lean.Omega.Int renaming ofNat_min→aa2
open PySem.IsL renaming new→abg
open List.Pairwise renaming nil→abv
open PySem.Builtin.List renaming listFitsIndex→abD,listTooLong→abE,listSubscript?→abF
open PySem.W.Fast renaming tw10156331382660048174→abH,tw11892475500146522536→abI,tw14364793385576792824→abJ,tw6613529449190102663→abK
open PySem.Calls renaming call_function_entry→abM
open PySem.W.KBy renaming picked→abN
open PySem.Env renaming kindOf→abV
open List.Nodup renaming not_mem_erase→ab9
namespace Mine
open PySem PySem.W PyProof.Rows
noncomputable section
namespace Internal
def eX:=@if_pos
def lO:=@decide_eq_true
def EX:=@of_decide_eq_true
def Ze:=@beq_iff_eq
def Zo:=@decide_eq_true_eq
def adi:=@bne_iff_ne
set_option maxHeartbeats 0
def Tu:looksOpen PySem.Challenge.rw_zu0078_04.row.prog=true:=by
 unfold looksOpen;repeat' with_reducible refine look_both ?_ ?_
 all_goals decide+kernel
def IU:PySem.Challenge.rw_zu0078_04.wellSaid=true:=by
 unfold OpenLaw.wellSaid OpenRow.wellSaid OpenRow.partSaid;repeat' with_reducible refine look_both ?_ ?_
 all_goals first|with_reducible exact Tu|decide+kernel
section
inductive N where
 |v (i:Nat)|k (n:Nat)|a (x y:N)|m (n:Nat) (x:N)|r (x:N) (n:Nat)
inductive Z where
 |w (i:Nat)|k (n:Nat)|a (x y:Z)|s (x y:Z)|m (n:Nat) (x:Z)|g (x:Z)|c (x:N)
inductive F where
 |l (x y:N)|t (x y:N)|e (x y:N)|L (x y:Z)|T (x y:Z)|E (x y:Z)
 |n (p:F)|a (p q:F)|o (p q:F)|i (p q:F)|q (p q:F)|f
noncomputable def jW{b:Type}(d:b):List b->Nat->b
 | [],_=>d
 |x::_,0=>x
 |_::r,i+1=>jW d r i
noncomputable def N.d(A:List Nat):N->Nat
 |v i=>jW 0 A i
 |k n=>n
 |a x y=>x.d A+y.d A
 |m n x=>n*x.d A
 |r x n=>x.d A*n
noncomputable def Z.d(A:List Nat)(B:List Int):Z->Int
 |w i=>jW 0 B i
 |k n=>Int.ofNat n
 |a x y=>x.d A B+y.d A B
 |s x y=>x.d A B-y.d A B
 |m n x=>Int.ofNat n*x.d A B
 |g x=> - x.d A B
 |c x=>((x.d A:Nat):Int)
noncomputable def F.d(A:List Nat)(B:List Int):F->Prop
 |l x y=>x.d A<=y.d A
 |t x y=>x.d A<y.d A
 |e x y=>x.d A=y.d A
 |L x y=>x.d A B<=y.d A B
 |T x y=>x.d A B<y.d A B
 |E x y=>x.d A B=y.d A B
 |n x=>¬x.d A B
 |a x y=>x.d A B/\y.d A B
 |o x y=>x.d A B\/y.d A B
 |i x y=>x.d A B->y.d A B
 |q x y=>x.d A B↔y.d A B
 |f=>False
noncomputable def BJ:List Int->List Int->List Int
 | [],y=>y
 |x,[]=>x
 |a::x,b::y=>(a+b)::BJ x y
noncomputable def iu:List Int->List Int->Int
 |a::x,v::b=>a*v+iu x b
 |_,_=>0
def dz(vs:List Int):iu [] vs=0:=by induction vs<;>rfl
def rh(x:List Int):iu x []=0:=by induction x<;>rfl
def i4(a b c d:Int):(a+b)+(c+d)=(a+c)+(b+d):=by rw [Int.add_assoc,Int.add_left_comm b,<-Int.add_assoc]
theorem y4:∀x y vs:List Int,iu (BJ x y) vs=iu x vs+iu y vs
 | [],y,vs=>by rw [dz,Int.zero_add];rfl
 |a::x,[],vs=>by rw [dz,Int.add_zero];rfl
 |a::x,b::y,[]=>rfl
 |a::x,b::y,v::vs=>by
  show(a+b)*v+iu (BJ x y) vs=(a*v+iu x vs)+(b*v+iu y vs);rw [y4 x y vs,Int.add_mul];exact i4 ..
theorem tW(k:Int):∀x vs:List Int,iu (x.map (k* ·)) vs=k*iu x vs
 | [],vs=>by rw [aaZ,dz,Int.mul_zero]
 |a::x,[]=>(Int.mul_zero k).symm
 |a::x,v::vs=>by
  show k*a*v+iu (x.map (k* ·)) vs=k*(a*v+iu x vs);rw [tW k x vs,Int.mul_add,Int.mul_assoc]
def Im(x:List Int)(v:Int)(vs:List Int):iu x (v::vs)=x.headD 0*v+iu x.tail vs:=by
 induction x with
 |nil=>rw [dz];show 0=0*v+iu [] vs;rw [dz,Int.zero_mul];rfl
 |cons a x=>rfl
noncomputable abbrev Ln:=Int×List Int
noncomputable def Ln.ev(p:Ln)(vs:List Int):Int:=p.1+iu p.2 vs
noncomputable def Ln.add(p q:Ln):Ln:=(p.1+q.1,BJ p.2 q.2)
noncomputable def Ln.mul(k:Int)(p:Ln):Ln:=(k*p.1,p.2.map (k* ·))
def ng(p q:Ln)(vs:List Int):(p.add q).ev vs=p.ev vs+q.ev vs:=by
 show p.1+q.1+iu (BJ p.2 q.2) vs=(p.1+iu p.2 vs)+(q.1+iu q.2 vs);rw [y4];exact i4 ..
def fX(k:Int)(p:Ln)(vs:List Int):(p.mul k).ev vs=k*p.ev vs:=by
 show k*p.1+iu (p.2.map (k* ·)) vs=k*(p.1+iu p.2 vs);rw [tW,Int.mul_add]
noncomputable def xP:Nat->List Int
 |0=> [1]
 |i+1=>0::xP i
theorem qV:∀(i:Nat) (vs:List Int),iu (xP i) vs=jW 0 vs i
 |i,[]=>by rw [rh];rfl
 |0,v::vs=>by show 1*v+iu [] vs=v;rw [dz,Int.one_mul,Int.add_zero]
 |i+1,v::vs=>by show 0*v+iu (xP i) vs=jW 0 vs i;rw [qV i vs,Int.zero_mul,Int.zero_add]
noncomputable def N.ln:N->Ln
 |v i=>(0,xP i)
 |k n=>(Int.ofNat n,[])
 |a x y=>x.ln.add y.ln
 |m n x=>x.ln.mul (Int.ofNat n)
 |r x n=>x.ln.mul (Int.ofNat n)
noncomputable def cu(A:List Nat)(B:List Int):List Int:=A.map Int.ofNat++B
theorem wK(B:List Int):∀(A:List Nat) (i:Nat),i<A.length->jW 0 (cu A B) i=Int.ofNat (jW 0 A i)
 |x::A,0,h=>rfl
 |x::A,i+1,h=>wK B A i (Nat.lt_of_succ_lt_succ h)
theorem sv(B:List Int):∀(A:List Nat) (i:Nat),jW 0 (cu A B) (A.length+i)=jW 0 B i
 | [],i=>by rw [List.length_nil,Wv];rfl
 |x::A,i=>by rw [UP,Nat.succ_add];exact sv B A i
noncomputable def N.ok(n:Nat):N->Bool
 |v i=>Vl i n
 |k _=>true
 |a x y=>x.ok n&&y.ok n
 |m _ x=>x.ok n
 |r x _=>x.ok n
theorem N.ln_ok(A:List Nat)(B:List Int):∀x:N,x.ok A.length=true->x.ln.ev (cu A B)=Int.ofNat (x.d A)
 |v i,h=>by
  show 0+iu (xP i) _=_;rw [Int.zero_add,qV];exact wK B A i (EQ h)
 |k n,_=>by show Int.ofNat n+iu [] _=_;rw [dz,Int.add_zero];rfl
 |a x y,h=>by
  have h:=Bool.and_eq_true_iff.mp h;exact(ng ..).trans (by rw [N.ln_ok A B x h.1,N.ln_ok A B y h.2];rfl)
 |m n x,h=>(fX ..).trans (by rw [N.ln_ok A B x h];rfl)
 |r x n,h=>(fX ..).trans (by rw [N.ln_ok A B x h,Int.mul_comm];rfl)
noncomputable def Z.ln(j:Nat):Z->Ln
 |w i=>(0,xP (j+i))
 |k n=>(Int.ofNat n,[])
 |a x y=>(x.ln j).add (y.ln j)
 |s x y=>(x.ln j).add ((y.ln j).mul (-1))
 |m n x=>(x.ln j).mul (Int.ofNat n)
 |g x=>(x.ln j).mul (-1)
 |c x=>x.ln
noncomputable def Z.ok(n:Nat):Z->Bool
 |a x y=>x.ok n&&y.ok n
 |s x y=>x.ok n&&y.ok n
 |m _ x=>x.ok n
 |g x=>x.ok n
 |c x=>x.ok n
 |_=>true
theorem Z.ln_ok(A:List Nat)(B:List Int):∀x:Z,x.ok A.length=true->(x.ln A.length).ev (cu A B)=x.d A B
 |w i,h=>by
  show 0+iu (xP _) _=_;rw [Int.zero_add,qV];exact sv B A i
 |k n,_=>by show Int.ofNat n+iu [] _=_;rw [dz,Int.add_zero];rfl
 |a x y,h=>by
  have h:=Bool.and_eq_true_iff.mp h;exact(ng ..).trans (by rw [Z.ln_ok A B x h.1,Z.ln_ok A B y h.2];rfl)
 |s x y,h=>by
  have h:=Bool.and_eq_true_iff.mp h;refine(ng ..).trans ?_;rw [fX,Z.ln_ok A B x h.1,Z.ln_ok A B y h.2,Int.neg_mul,Int.one_mul];rfl
 |m n x,h=>(fX ..).trans (by rw [Z.ln_ok A B x h];rfl)
 |g x,h=>(fX ..).trans (by rw [Z.ln_ok A B x h,Int.neg_mul,Int.one_mul];rfl)
 |c x,h=>N.ln_ok A B x h
noncomputable abbrev Cn:=Bool×Ln
def Cn.sat(p:Cn)(vs:List Int):Prop:=match p.1 with
 |true=>p.2.ev vs=0
 |false=>0<=p.2.ev vs
noncomputable def Cn.hd(p:Cn):Int:=p.2.2.headD 0
noncomputable def Cn.tl(p:Cn):Cn:=(p.1,p.2.1,p.2.2.tail)
noncomputable def Hg:Cn:=(false,0,[])
def yG(vs:List Int):Hg.sat vs:=by show 0<=0+iu [] vs;rw [dz];exact Int.le_refl _
def Ht{p:Cn}{vs:List Int}(h:p.sat vs):0<=p.2.ev vs:=by
 obtain⟨b,l⟩:=p;induction b with
 |true=>exact Int.le_of_eq (abC h)
 |false=>exact h
def CZ(p:Ln)(v:Int)(vs:List Int):p.ev (v::vs)=p.2.headD 0*v+Ln.ev (p.1,p.2.tail) vs:=by
 show p.1+iu p.2 _=_+(p.1+iu p.2.tail vs);rw [Im];exact Int.add_left_comm ..
noncomputable def UC(p:Cn):Cn:=if p.hd=0 then p.tl else Hg
def Ie{p:Cn}{v:Int}{vs:List Int}(h:p.sat (v::vs)):(UC p).sat vs:=by
 unfold UC;by_cases e:p.hd=0
 ·rw [eX e];have z:=CZ p.2 v vs;rw [show p.2.2.headD 0=0 from e,Int.zero_mul,Int.zero_add] at z;obtain⟨b,l⟩:=p;induction b with
  |true=>exact z.symm.trans h
  |false=>exact Int.le_trans h (Int.le_of_eq z)
 ·rw [if_neg e];exact yG vs
noncomputable def DV(x y:Int)(p q:Cn):Cn:=
 if x*p.hd+y*q.hd=0/\(0<=x\/p.1=true)/\(0<=y\/q.1=true) then(p.1&&q.1,(p.tl.2.mul x).add (q.tl.2.mul y)) else Hg
def yJ{x:Int}{p:Cn}{vs:List Int}(h:p.sat vs)(c:0<=x\/p.1=true):0<=x*p.2.ev vs/\(p.1=true->x*p.2.ev vs=0):=by
 obtain⟨b,l⟩:=p;induction b with
 |true=>rw [show l.ev vs=0 from h,Int.mul_zero];exact⟨Int.le_refl _,λJ=>rfl⟩
 |false=>exact⟨Int.mul_nonneg (c.resolve_right nofun) h,nofun⟩
set_option tactic.hygienic true in
def zb{x y:Int}{p q:Cn}{v:Int}{vs:List Int}(hp:p.sat (v::vs))(c:q.sat (v::vs)):(DV x y p q).sat vs:=by
 unfold DV;split
 ·rename_i h;obtain⟨g,j,k⟩:=h;have e:Ln.ev ((p.tl.2.mul x).add (q.tl.2.mul y)) vs=x*p.2.ev (v::vs)+y*q.2.ev (v::vs):=by
   rw [ng,fX,fX,CZ p.2,CZ q.2,Int.mul_add,Int.mul_add,i4,<-Int.mul_assoc,<-Int.mul_assoc,<-Int.add_mul];rw [show x*p.2.2.headD 0+y*q.2.2.headD 0=0 from g,Int.zero_mul,Int.zero_add];rfl
  have a:=yJ hp j;have b:=yJ c k;unfold Cn.sat;generalize z:(p.1&&q.1)=m;induction m with
  |true=>
   have z:=Bool.and_eq_true_iff.mp z;exact e.trans (by rw [a.2 z.1,b.2 z.2];rfl)
  |false=>exact Int.le_trans (Int.add_nonneg a.1 b.1) (Int.le_of_eq e.symm)
 ·exact yG vs
noncomputable def zq(p:Cn):Cn:=
 let n:Nat:=p.2.2.foldr (λz g=>Nat.gcd z.natAbs g) 0
 if p.1=false/\1<n/\p.2.2=(p.2.2.map (· /Int.ofNat n)).map (Int.ofNat n* ·) then(false,p.2.1/Int.ofNat n,p.2.2.map (· /Int.ofNat n)) else p
set_option tactic.hygienic true in
def wM{p:Cn}{vs:List Int}(h:p.sat vs):(zq p).sat vs:=by
 unfold zq;dsimp only;generalize p.2.2.foldr (λz g=>Nat.gcd z.natAbs g) 0=n;split
 ·rename_i c;obtain⟨m,j,k⟩:=c;have h:=Ht h;have e:p.2.ev vs=p.2.1+Int.ofNat n*iu (p.2.2.map (· /Int.ofNat n)) vs:=by
   rw [<-tW,<-k];rfl
  rw [e] at h;show 0<=p.2.1/Int.ofNat n+iu _ vs;generalize iu (p.2.2.map (· /Int.ofNat n)) vs=S at h;have b:(0:Int)<Int.ofNat n:=Int.ofNat_lt.mpr (Ww Nat.zero_lt_one j);have:(p.2.1+Int.ofNat n*S)/Int.ofNat n=p.2.1/Int.ofNat n+S:=Int.add_mul_ediv_left _ _ (Int.ne_of_gt b);exact this▸Int.ediv_nonneg h (Int.le_of_lt b)
 ·exact h
noncomputable def bad(p:Cn):Bool:=match p.1 with
 |true=>decide (p.2.1≠0)
 |false=>decide (p.2.1<0)
noncomputable def elim(C:List Cn):List Cn:=match C.find? λp=>p.1&&decide (p.hd≠0) with
 |some e=>C.map λp=>zq (DV (Int.ofNat e.hd.natAbs) (if 0<e.hd then-p.hd else p.hd) p e)
 |none=>(C.filter λp=>decide (p.hd=0)).map UC++(C.filter λp=>decide (0<p.hd)).flatMap λp=>(C.filter λp=>decide (p.hd<0)).map λq=>zq (DV (- q.hd) p.hd p q)
def Ey{C:List Cn}{v:Int}{vs:List Int}(h:∀p∈C,p.sat (v::vs)):∀p∈elim C,p.sat vs:=by
 unfold elim;cases e:C.find? λp=>p.1&&decide (p.hd≠0) with
 |some c=>
  intro p hp;obtain⟨q,b,rfl⟩:=List.mem_map.mp hp;exact wM (zb (h q b) (h c (WD e)))
 |none=>
  intro p hp;rcases List.mem_append.mp hp with hp|hp
  ·obtain⟨q,b,rfl⟩:=List.mem_map.mp hp;exact Ie (h q (List.mem_filter.mp b).1)
  ·obtain⟨q,b,hp⟩:=List.mem_flatMap.mp hp;obtain⟨r,g,rfl⟩:=List.mem_map.mp hp;exact wM (zb (h q (List.mem_filter.mp b).1) (h r (List.mem_filter.mp g).1))
noncomputable def fm:Nat->List Cn->Bool
 |0,C=>C.any bad
 |n+1,C=>fm n (elim C)
theorem GE:∀(vs:List Int) (C:List Cn),fm vs.length C=true->¬ ∀p∈C,p.sat vs
 | [],C,h,c=>by
  obtain⟨p,hp,g⟩:=List.any_eq_true.mp h;have hp:=c p hp;obtain⟨b,k,l⟩:=p;induction b with
  |true=>exact EX g ((Int.add_zero k).symm.trans ((congrArg (k+ ·) (rh l).symm).trans hp))
  |false=>exact Int.not_le.mpr (EX g) (Int.le_trans hp (Int.le_of_eq ((congrArg (k+ ·) (rh l)).trans (Int.add_zero k))))
 |v::vs,C,h,c=>GE vs (elim C) h (Ey c)
noncomputable def D5(b:Bool)(p:Ln):Cn:=(false,bif b then p else(p.mul (-1)).add (-1,[]))
noncomputable def TA(b:Bool)(p:Ln):Cn:=(false,bif b then p.add (-1,[]) else p.mul (-1))
noncomputable def df(x y:Ln):Ln:=y.add (x.mul (-1))
noncomputable def ref(j m:Nat):Nat->List (Bool×F)->List Cn->Bool
 |0,_,_=>false
 |_+1,[],C=>fm m C
 |n+1,(b,p)::r,C=>match p with
  | .l x y=>(x.ok j&&y.ok j)&&ref j m n r (D5 b (df x.ln y.ln)::C)
  | .t x y=>(x.ok j&&y.ok j)&&ref j m n r (TA b (df x.ln y.ln)::C)
  | .e x y=>(x.ok j&&y.ok j)&&bif b then ref j m n r ((true,df x.ln y.ln)::C) else ref j m n r (D5 false (df x.ln y.ln)::C)&&ref j m n r (D5 false (df y.ln x.ln)::C)
  | .L x y=>(x.ok j&&y.ok j)&&ref j m n r (D5 b (df (x.ln j) (y.ln j))::C)
  | .T x y=>(x.ok j&&y.ok j)&&ref j m n r (TA b (df (x.ln j) (y.ln j))::C)
  | .E x y=>(x.ok j&&y.ok j)&&bif b then ref j m n r ((true,df (x.ln j) (y.ln j))::C) else ref j m n r (D5 false (df (x.ln j) (y.ln j))::C)&&ref j m n r (D5 false (df (y.ln j) (x.ln j))::C)
  | .n x=>ref j m n ((!b,x)::r) C
  | .a x y=>bif b then ref j m n ((true,x)::(true,y)::r) C else ref j m n ((false,x)::r) C&&ref j m n ((false,y)::r) C
  | .o x y=>bif b then ref j m n ((true,x)::r) C&&ref j m n ((true,y)::r) C else ref j m n ((false,x)::(false,y)::r) C
  | .i x y=>bif b then ref j m n ((false,x)::r) C&&ref j m n ((true,y)::r) C else ref j m n ((true,x)::(false,y)::r) C
  | .q x y=>ref j m n ((true,x)::(b,y)::r) C&&ref j m n ((false,x)::(!b,y)::r) C
  | .f=>bif b then true else ref j m n r C
def sg(A:List Nat)(B:List Int)(b:Bool)(p:F):Prop:=bif b then p.d A B else ¬p.d A B
def Go(A:List Nat)(B:List Int)(r:List (Bool×F)):Prop:=∀z∈r,sg A B z.1 z.2
def SU(A:List Nat)(B:List Int)(C:List Cn):Prop:=∀p∈C,p.sat (cu A B)
section
variable{A:List Nat}{B:List Int}{r:List (Bool×F)}{C:List Cn}{b:Bool}{x y:F}{p:Cn}{u w:Ln}{n:Nat}
def Go.cons(h:sg A B b x)(c:Go A B r):Go A B ((b,x)::r):=λz hz=>by
 rcases List.mem_cons.mp hz with rfl|hz
 ·exact h
 ·exact c z hz
def SU.cons(h:p.sat (cu A B))(b:SU A B C):SU A B (p::C):=λz hz=>by
 rcases List.mem_cons.mp hz with rfl|hz
 ·exact h
 ·exact b z hz
def vR(vs:List Int):(df u w).ev vs=w.ev vs-u.ev vs:=by
 rw [show(df u w).ev vs=_ from ng ..,fX,Int.neg_mul,Int.one_mul];rfl
def L4(vs:List Int):Ln.ev (u.add (-1,[])) vs=u.ev vs-1:=by
 rw [ng];show _+(-1+iu [] vs)=_;rw [dz];rfl
def tR{vs:List Int}(h:bif b then u.ev vs<=w.ev vs else ¬u.ev vs<=w.ev vs):(D5 b (df u w)).sat vs:=by
 induction b with
 |true=>show 0<=(df u w).ev vs;rw [vR];exact Int.sub_nonneg.mpr h
 |false=>
  show 0<=Ln.ev (((df u w).mul (-1)).add (-1,[])) vs;rw [L4,fX,vR,Int.neg_mul,Int.one_mul,Int.neg_sub];exact Int.le_sub_one_of_lt (Int.sub_pos_of_lt (Int.not_le.mp h))
def Bd{vs:List Int}(h:bif b then u.ev vs<w.ev vs else ¬u.ev vs<w.ev vs):(TA b (df u w)).sat vs:=by
 induction b with
 |true=>
  show 0<=Ln.ev ((df u w).add (-1,[])) vs;rw [L4,vR];exact Int.le_sub_one_of_lt (Int.sub_pos_of_lt h)
 |false=>
  show 0<=Ln.ev ((df u w).mul (-1)) vs;rw [fX,vR,Int.neg_mul,Int.one_mul,Int.neg_sub];exact Int.sub_nonneg_of_le (Int.not_lt.mp h)
def jH{p:F}{P:Prop}(h:sg A B b p)(e:p.d A B↔P):bif b then P else ¬P:=by
 induction b with
 |true=>exact e.mp h
 |false=>exact λz=>h (e.mpr z)
theorem ch:∀(n:Nat) (r:List (Bool×F)) (C:List Cn),ref A.length (cu A B).length n r C=true->Go A B r->¬SU A B C
 |0,_,_,h,_,_=>nomatch h
 |n+1,[],C,h,_,g=>GE _ _ h g
 |n+1,(b,p)::r,C,h,v,g=>by
  have j:sg A B b p:=v _ (.head _);have k:Go A B r:=λz Q=>v z (.tail _ Q)
  clear v;have D:=N.ln_ok A B;have G:=Z.ln_ok A B;have M:∀ {a b c:Bool},((a&&b)&&c)=true->a=true/\b=true/\c=true:=λ{a b c} h=>⟨(Bool.and_eq_true_iff.mp (Bool.and_eq_true_iff.mp h).1).1,(Bool.and_eq_true_iff.mp (Bool.and_eq_true_iff.mp h).1).2,(Bool.and_eq_true_iff.mp h).2⟩
  have O:∀u w:Ln,(bif b then u.ev (cu A B)=w.ev (cu A B) else ¬u.ev (cu A B)=w.ev (cu A B))->(bif b then ref A.length (cu A B).length n r ((true,df u w)::C) else ref A.length (cu A B).length n r (D5 false (df u w)::C)&&ref A.length (cu A B).length n r (D5 false (df w u)::C))=true->False:=λu w e h=>by
   induction b with
   |true=>exact ch n _ _ h k (g.cons (show(df u w).ev _=0 by rw [vR];exact Int.sub_eq_zero.mpr (abC e)))
   |false=>
    have h:=Bool.and_eq_true_iff.mp h;have e:¬u.ev (cu A B)=w.ev (cu A B):=e;rcases Int.lt_or_gt_of_ne e with z|z
    ·exact ch n _ _ h.2 k (g.cons (tR (b:=false) (Int.not_le.mpr z)))
    ·exact ch n _ _ h.1 k (g.cons (tR (b:=false) (Int.not_le.mpr z)))
  rcases p with⟨x,y⟩|⟨x,y⟩|⟨x,y⟩|⟨x,y⟩|⟨x,y⟩|⟨x,y⟩|x|⟨x,y⟩|⟨x,y⟩|⟨x,y⟩|⟨x,y⟩|_
  ·
   obtain⟨m,s,h⟩:=M h;exact ch n _ _ h k (g.cons (tR (jH j (by rw [D x m,D y s];exact Int.ofNat_le.symm))))
  ·
   obtain⟨m,s,h⟩:=M h;exact ch n _ _ h k (g.cons (Bd (jH j (by rw [D x m,D y s];exact Int.ofNat_lt.symm))))
  ·
   obtain⟨m,s,h⟩:=M h;exact O _ _ (jH j (by rw [D x m,D y s];exact Int.ofNat_inj.symm)) h
  ·
   obtain⟨m,s,h⟩:=M h;exact ch n _ _ h k (g.cons (tR (jH j (by rw [G x m,G y s];rfl))))
  ·
   obtain⟨m,s,h⟩:=M h;exact ch n _ _ h k (g.cons (Bd (jH j (by rw [G x m,G y s];rfl))))
  ·
   obtain⟨m,s,h⟩:=M h;exact O _ _ (jH j (by rw [G x m,G y s];rfl)) h
  ·exact ch n _ _ h (k.cons (by induction b with|true=>exact j|false=>exact Classical.not_not.mp j)) g
  ·
   cases b with
   |true=>exact ch n _ _ h ((k.cons (b:=true) j.2).cons (b:=true) j.1) g
   |false=>
    have h:=Bool.and_eq_true_iff.mp h;by_cases z:x.d A B
    ·exact ch n _ _ h.2 (k.cons (b:=false) λw=>j ⟨z,w⟩) g
    ·exact ch n _ _ h.1 (k.cons (b:=false) z) g
  ·
   cases b with
   |true=>
    have h:=Bool.and_eq_true_iff.mp h;exact j.elim (λz=>ch n _ _ h.1 (k.cons (b:=true) z) g) λz=>ch n _ _ h.2 (k.cons (b:=true) z) g
   |false=>exact ch n _ _ h ((k.cons (b:=false) λz=>j (.inr z)).cons (b:=false) λz=>j (.inl z)) g
  ·
   cases b with
   |true=>
    have h:=Bool.and_eq_true_iff.mp h;by_cases z:x.d A B
    ·exact ch n _ _ h.2 (k.cons (b:=true) (j z)) g
    ·exact ch n _ _ h.1 (k.cons (b:=false) z) g
   |false=>
    by_cases z:x.d A B
    ·exact ch n _ _ h ((k.cons (b:=false) λw=>j λJ=>w).cons (b:=true) z) g
    ·exact j λw=>absurd w z
  ·
   have h:=Bool.and_eq_true_iff.mp h;by_cases z:x.d A B
   ·refine ch n _ _ h.1 ((k.cons (b:=b) ?_).cons (b:=true) z) g;cases b with
    |true=>exact j.mp z
    |false=>exact λw=>j ⟨λJ=>w,λJ=>z⟩
   ·refine ch n _ _ h.2 ((k.cons (b:= !b) ?_).cons (b:=false) z) g;cases b with
    |true=>exact λw=>z (j.mpr w)
    |false=>exact BS λw=>j ⟨λu=>absurd u z,λu=>absurd u w⟩
  ·
   cases b with
   |true=>exact j
   |false=>exact ch n _ _ h k g
inductive Df where
 |s (i:Nat) (x y:N)|d (i j n:Nat) (x:N)|t (i:Nat) (z:Z)|m (i:Nat) (x y:N)|M (i:Nat) (x y:N)|D (i j n:Nat) (z:Z)|na (i:Nat) (z:Z)|iN (i:Nat) (c:F) (x y:N)|iZ (i:Nat) (c:F) (x y:Z)|P (i n:Nat)
noncomputable def Df.is(A:List Nat)(B:List Int):Df->Prop
 |s i x y=>jW 0 A i=x.d A-y.d A
 |d i j n x=>jW 0 A i=x.d A/(n+1)/\jW 0 A j=x.d A%(n+1)
 |t i z=>jW 0 A i=(z.d A B).toNat
 |m i x y=>jW 0 A i=min (x.d A) (y.d A)
 |M i x y=>jW 0 A i=max (x.d A) (y.d A)
 |D i j n z=>jW 0 B i=z.d A B/Int.ofNat (n+1)/\jW 0 B j=z.d A B%Int.ofNat (n+1)
 |na i z=>jW 0 A i=(z.d A B).natAbs
 |iN i c x y=>(c.d A B->jW 0 A i=x.d A)/\(¬c.d A B->jW 0 A i=y.d A)
 |iZ i c x y=>(c.d A B->jW 0 B i=x.d A B)/\(¬c.d A B->jW 0 B i=y.d A B)
 |P i n=>jW 0 B i=Int.ofNat n
noncomputable def Df.f:Df->F
 |s i x y=>.o (.a (.l x y) (.e (.v i) (.k 0))) (.e (.a (.v i) y) x)
 |d i j n x=>.a (.e x (.a (.m (n+1) (.v i)) (.v j))) (.t (.v j) (.k (n+1)))
 |t i z=>.o (.a (.L z (.k 0)) (.e (.v i) (.k 0))) (.E (.c (.v i)) z)
 |m i x y=>.o (.a (.l x y) (.e (.v i) x)) (.a (.l y x) (.e (.v i) y))
 |M i x y=>.o (.a (.l x y) (.e (.v i) y)) (.a (.l y x) (.e (.v i) x))
 |D i j n z=>.a (.E z (.a (.m (n+1) (.w i)) (.w j))) (.a (.L (.k 0) (.w j)) (.T (.w j) (.k (n+1))))
 |na i z=>.o (.a (.L z (.k 0)) (.E (.c (.v i)) (.g z))) (.E (.c (.v i)) z)
 |iN i c x y=>.a (.i c (.e (.v i) x)) (.i (.n c) (.e (.v i) y))
 |iZ i c x y=>.a (.i c (.E (.w i) x)) (.i (.n c) (.E (.w i) y))
 |P i n=>.E (.w i) (.k n)
def Df.ok:∀z:Df,z.is A B->z.f.d A B
 |s i x y,h=>(XH (x.d A) (y.d A)).imp (λu=>⟨u,WV h (Xb u)⟩) λu=>(congrArg (· +y.d A) h).trans (Nat.sub_add_cancel u)
 |d i j n x,h=>⟨(by rw [show jW 0 A i=_ from h.1,show jW 0 A j=_ from h.2];exact(Nat.div_add_mod ..).symm:x.d A=(n+1)*jW 0 A i+jW 0 A j),Vu (W5 h.2) (W6 _ (YX n))⟩
 |t i z,h=>(Int.le_total (z.d A B) 0).imp (λu=>⟨u,WV h (Int.toNat_of_nonpos u)⟩) λu=>(congrArg aaJ h).trans (Int.toNat_of_nonneg u)
 |m i x y,h=>(XH (x.d A) (y.d A)).imp (λu=>⟨u,WV h (UO u)⟩) λu=>⟨u,WV h (XZ u)⟩
 |M i x y,h=>(XH (x.d A) (y.d A)).imp (λu=>⟨u,WV h (Nat.max_eq_right u)⟩) λu=>⟨u,WV h (Nat.max_eq_left u)⟩
 |D i j n z,h=>by
  have b:(0:Int)<Int.ofNat (n+1):=Int.ofNat_lt.mpr (YX n);refine(⟨?_,Int.le_trans (Int.emod_nonneg _ (Int.ne_of_gt b)) (Int.le_of_eq (abC h.2)),Int.lt_of_le_of_lt (Int.le_of_eq h.2) (Int.emod_lt_of_pos _ b)⟩:z.d A B=Int.ofNat (n+1)*jW 0 B i+jW 0 B j/\(0<=jW 0 B j/\jW 0 B j<Int.ofNat (n+1)));rw [show jW 0 B i=_ from h.1,show jW 0 B j=_ from h.2];exact(Int.mul_ediv_add_emod ..).symm
 |na i z,h=>(Int.le_total (z.d A B) 0).imp (λu=>⟨u,(congrArg aaJ h).trans (Int.ofNat_natAbs_of_nonpos u)⟩) λu=>(congrArg aaJ h).trans (Int.natAbs_of_nonneg u)
 |iN i c x y,h=>h
 |iZ i c x y,h=>h
 |P i n,h=>h
noncomputable def Jr(A:List Nat)(B:List Int):List Df->Prop
 | []=>True
 |z::r=>z.is A B/\Jr A B r
noncomputable def pos:Nat->List (Bool×F)
 |0=> []
 |n+1=>(true,.l (.k 0) (.v n))::pos n
theorem Az:∀n,Go A B (pos n)
 |0=>nofun
 |n+1=>(Az n).cons (b:=true) (Tl _)
theorem Jr.all{r:List (Bool×F)}(c:Go A B r):∀ {l:List Df},Jr A B l->Go A B (l.map (λz=>(true,z.f))++r)
 | [],_=>c
 |z::l,h=>(Jr.all c h.2).cons (b:=true) (z.ok h.1)
def aX(l:List Df){p:F}(h:Jr A B l)(c:ref A.length (A.length+B.length) 200 ((false,p)::(l.map (λz=>(true,z.f))++pos A.length)) []=true:=by kernel_rfl):p.d A B:=
 BS λg=>by
  have e:(cu A B).length=A.length+B.length:=by unfold cu;rw [pS,eS]
  exact ch 200 _ [] (by rw [e];exact c) ((Jr.all (Az _) h).cons (b:=false) g) nofun
def aH{p:F}(b:ref A.length (A.length+B.length) 200 ((false,p)::pos A.length) []=true:=by kernel_rfl):p.d A B:=aX [] ⟨⟩ b
end
end
section
namespace QC
noncomputable abbrev c0:Z:=.c (.v 0)
noncomputable abbrev c1:Z:=.c (.v 1)
noncomputable abbrev c2:Z:=.c (.v 2)
noncomputable abbrev c3:Z:=.c (.v 3)
noncomputable abbrev c4:Z:=.c (.v 4)
noncomputable abbrev c5:Z:=.c (.v 5)
noncomputable abbrev n0:N:=.k 0
noncomputable abbrev n1:N:=.k 1
noncomputable abbrev fe:N:=.k 100
noncomputable abbrev cP:N:=.k 1000
noncomputable abbrev aO:N:=.k 1000000
noncomputable abbrev n12:N:=.k 12
noncomputable abbrev n2:N:=.k 2
noncomputable abbrev t6:N:=.k 20
noncomputable abbrev uX:N:=.k 24
noncomputable abbrev n3:N:=.k 3
noncomputable abbrev n4:N:=.k 4
noncomputable abbrev kE:N:=.k 63
noncomputable abbrev cL:N:=.k 64
noncomputable abbrev n8:N:=.k 8
noncomputable abbrev v0:N:=.v 0
noncomputable abbrev v1:N:=.v 1
noncomputable abbrev v2:N:=.v 2
noncomputable abbrev v3:N:=.v 3
noncomputable abbrev v4:N:=.v 4
noncomputable abbrev v5:N:=.v 5
noncomputable abbrev v6:N:=.v 6
noncomputable abbrev v7:N:=.v 7
noncomputable abbrev w0:Z:=.w 0
noncomputable abbrev w1:Z:=.w 1
noncomputable abbrev w2:Z:=.w 2
noncomputable abbrev z0:Z:=.k 0
noncomputable abbrev z1:Z:=.k 1
noncomputable abbrev b7:Z:=.k 100000
noncomputable abbrev rT:Z:=.k 16
noncomputable abbrev uW:Z:=.k 18
noncomputable abbrev Ak:Z:=.k 19
noncomputable abbrev z2:Z:=.k 2
noncomputable abbrev cV:Z:=.k 20
noncomputable abbrev ds:Z:=.k 21
noncomputable abbrev mF:Z:=.k 24
noncomputable abbrev de:Z:=.k 26
noncomputable abbrev jr:Z:=.k 64
noncomputable abbrev mi(a b:Int):Int:=if a<b then a else b
end QC
abbrev F.D(A:List Nat)(B:List Int)(l:List F)(c:F):Prop:=F.d A B (l.foldr .i c)
section
open QC
variable{a b c d e f g m n o p q:Nat}{x y z u v w r s:Int}
def TM:F.D [a,b,c] [] [.e (.a v0 (.a v2 n1)) v1] (.t v0 v1):=aH
def TQ:F.D [a,b,c] [] [.e (.a v0 (.a v1 n1)) v2] (.e (.a (.a v0 n1) v1) v2):=aH
def Uo:F.d [a] [] (.e (.a n0 v0) v0):=aH
def l_3:F.D [] [x,y,z] [.T w0 w2,.n (.T w1 w2)] (.T w0 w1):=aH
def GC:F.D [] [x] [.L cV w0] (.L z0 w0):=aH
def l_5:F.D [] [x,y] [.L w0 w1,.L w1 de] (.T w0 (.k 32)):=aH
def Uw:F.D [] [x,y] [.L cV w1,.T w1 w0] (.T Ak w0):=aH
def HW:F.D [] [x] [.L cV w0] (.L uW w0):=aH
def l_8:F.D [] [x,y] [.T w0 w1,.L w1 de] (.T w0 (.k 32)):=aH
def Ul:F.D [x.toNat,x.toNat/8,x.toNat%8] [x,y] [.T w0 w1,.L w1 de] (.t v1 cL):=aX [.t 0 w0,.d 1 2 7 v0] ⟨rfl,⟨rfl,rfl⟩,⟨⟩⟩
def Fo:F.D [a,(x-20).toNat] [x] [.t v0 v1] (.T (.a cV c0) w0):=aX [.t 1 (.s w0 cV)] ⟨rfl,⟨⟩⟩
def TV:F.d [(x-20).toNat] [x] (.n (.T (.a cV c0) w0)):=aX [.t 0 (.s w0 cV)] ⟨rfl,⟨⟩⟩
def Ur:F.D [a,(x-20).toNat] [x] [.t v0 v1,.L w0 de] (.T (.a cV c0) (.k 32)):=aX [.t 1 (.s w0 cV)] ⟨rfl,⟨⟩⟩
def S7:F.D [a,(x-20).toNat,((20+(a:Int))).toNat,((20+(a:Int))).toNat/8,((20+(a:Int))).toNat%8] [x] [.t v0 v1,.L w0 de] (.t v3 cL):=aX [.t 1 (.s w0 cV),.t 2 (.a cV c0),.d 3 4 7 v2] ⟨rfl,rfl,⟨rfl,rfl⟩,⟨⟩⟩
def Mz:F.D [a,b] [] [.E (.a cV c0) (.a cV c1)] (.e v0 v1):=aH
def Jm:F.d [a] [] (.L cV (.a cV c0)):=aH
def QO:F.D [a] [x] [.E w0 (.a cV c0)] (.n (.E w0 z0)):=aH
def TY:F.D [a] [x] [.E w0 z0,.E w0 (.a cV c0)] .f:=aH
def Hs:F.D [a,(x-21).toNat] [x] [.T c0 (.s w0 ds)] (.t v0 v1):=aX [.t 1 (.s w0 ds)] ⟨rfl,⟨⟩⟩
def UK:F.D [a,(x-20).toNat,(x-21).toNat,(x-21).toNat-1] [x] [.T c0 (.s w0 ds),.l v1 (.a v3 n1)] .f:=aX [.t 1 (.s w0 cV),.t 2 (.s w0 ds),.s 3 v2 n1] ⟨rfl,rfl,rfl,⟨⟩⟩
def TX:F.D [] [x,y] [.L cV w0,.E w1 z0,.E w1 w0] .f:=aH
def Ue:F.D [a] [x] [.E (.a cV c0) w0] (.n (.E w0 z0)):=aH
def Un:F.d [a] [] (.L z0 c0):=aH
def Tt:F.d [a,a/256,a%256] [] (.T c2 (.k 256)):=aX [.d 1 2 255 v0] ⟨⟨rfl,rfl⟩,⟨⟩⟩
def TG:F.d [a,a/256,a%256,(a/256)/256,(a/256)%256] [] (.T c4 (.k 256)):=aX [.d 1 2 255 v0,.d 3 4 255 v1] ⟨⟨rfl,rfl⟩,⟨rfl,rfl⟩,⟨⟩⟩
def KF:F.D [a,b] [] [.t (.a v0 n3) v1] (.t (.a v0 n1) v1):=aH
def T2:F.D [a,b] [] [.t (.a v0 n3) v1] (.t (.a (.a v0 n2) n1) v1):=aH
def TU:F.D [a] [] [.l v0 cP] (.l v0 cP):=aH
def TP:F.d [a,b] [] (.e (.a (.a v0 n4) (.m 4 v1)) (.a v0 (.m 4 (.a v1 n1)))):=aH
def H8:F.D [a,b,c] [] [.l (.a v0 (.m 4 (.a v1 n1))) v2] (.l (.a (.a v0 n4) (.m 4 v1)) v2):=aH
def Tj:F.D [a,b,c] [] [.o (.t v0 v1) (.l (.a v1 (.m 4 (.a v2 n1))) v0)] (.o (.t v0 (.a v1 n4)) (.l (.a (.a v1 n4) (.m 4 v2)) v0)):=aH
def Sl:F.D [a,b,c] [] [.l (.a v0 (.m 4 (.a v2 n1))) v1] (.t (.a v0 n3) v1):=aH
def Ti:F.D [a,b,c] [] [.o (.t v1 v0) (.l (.a v0 (.m 4 (.a v2 n1))) v1)] (.n (.a (.l v0 v1) (.t v1 (.a v0 n4)))):=aH
def Uy:F.d [a] [] (.l v0 v0):=aH
def T6:F.d [a] [] (.t v0 (.a v0 n4)):=aH
def Ui:F.d [a] [] (.t (.a v0 n1) (.a v0 n4)):=aH
def Tm:F.d [a] [] (.l v0 (.a (.a v0 n2) n1)):=aH
def UN:F.D [a,b,c] [] [.t v0 (.a (.a v1 (.m 4 n0)) n4)] (.o (.t v0 (.a v1 n4)) (.l (.a (.a v1 n4) (.m 4 v2)) v0)):=aH
def Pu:F.D [x.toNat] [x] [.a (.L z0 w0) (.T w0 (.k 4294967296))] (.t v0 (.k 4294967296)):=aX [.t 0 w0] ⟨rfl,⟨⟩⟩
def Tc:F.D [x.toNat] [x] [.a (.L z0 w0) (.T w0 (.k 4294967296))] (.E c0 w0):=aX [.t 0 w0] ⟨rfl,⟨⟩⟩
def UL:F.d [a,b] [] (.e (.a v0 (.m 4 (.a v1 n1))) (.a (.a v0 n4) (.m 4 v1))):=aH
def Ii:F.D [a,b] [] [.o (.e v0 t6) (.e v0 uX),.e v1 cL] (.t (.a v0 n1) v1):=aH
def kX:F.D [a] [] [.e v0 cL] (.l v0 cP):=aH
def HV:F.D [a,b] [] [.o (.e v0 t6) (.e v0 uX),.e v1 cL] (.t (.a (.a v0 n2) n1) v1):=aH
def HG:F.D [a,b] [] [.o (.e v0 t6) (.e v0 uX),.e v1 cL] (.t (.a (.a v0 n4) n1) v1):=aH
def Ih:F.D [a,b] [] [.o (.e v0 t6) (.e v0 uX),.e v1 cL] (.t (.a (.a v0 (.k 6)) n1) v1):=aH
def Tg:F.D [x.toNat] [x] [.a (.L z0 w0) (.T w0 (.k 4294967296))] (.E w0 c0):=aX [.t 0 w0] ⟨rfl,⟨⟩⟩
def Fy:F.D [a,b] [] [.o (.e v0 t6) (.e v0 uX),.e v1 cL] (.t (.a (.a v0 n8) n3) v1):=aH
def TC:F.D [a,b] [x] [.E c0 (.a w0 z1),.E c1 (.a rT (.m 4 w0)),.o (.e v1 t6) (.e v1 uX)] (.l v0 aO):=aH
def Ua:F.D [a,b,c,d] [x] [.E c0 (.a rT (.m 4 w0)),.E c3 (.a w0 z1),.o (.e v0 t6) (.e v0 uX),.t v1 v3,.e v2 cL] (.t (.a (.a (.a v0 n12) (.m 4 v1)) n3) v2):=aH
def zX:F.D [] [x] [.L mF w0] (.T uW w0):=aH
def Ei:F.D [a,b] [] [.t v0 (.k 16),.e v1 cL] (.t (.a (.m 4 v0) n3) v1):=aH
def Us:F.D [a] [] [.n (.e v0 n0)] (.n (.E c0 z0)):=aH
def JI:F.d [a] [] (.E (.m 4 c0) (.c (.m 4 v0))):=aH
def Tf:F.D [] [x] [.L cV w0] (.n (.E w0 Ak)):=aH
def T7:F.D [x.toNat] [x] [.L cV w0] (.E w0 c0):=aX [.t 0 w0] ⟨rfl,⟨⟩⟩
def Tx:F.D [] [x,y,z] [.a (.L cV w1) (.T w1 w2),.E w0 w1,.L w2 de] (.a (.L z0 w0) (.T w0 (.k 4294967296))):=aH
def Tr:F.D [] [x,y] [.a (.L cV w0) (.T w0 w1)] (.n (.E w0 z0)):=aH
def Th:F.D [] [x] [.L cV w0] (.n (.E Ak w0)):=aH
def LN:F.D [] [x,y] [.a (.L cV w0) (.T w0 w1)] (.n (.E w0 Ak)):=aH
def MU:F.D [a,b,c] [] [.t v0 v2,.e v1 (.a v2 n1)] (.t v0 v1):=aH
def TZ:F.D [a,b,c] [] [.t v1 v2,.n (.t v0 v2)] (.n (.e v0 v1)):=aH
def AE:F.D [a,b] [] [.e v1 (.a v0 n1)] (.t v0 v1):=aH
def Ug:F.D [] [x,y] [.E w1 z0,.n (.E w1 w0)] (.n (.E w0 z0)):=aH
def TB:F.D [] [x,y] [.a (.L cV w0) (.T w0 w1)] (.n (.E Ak w0)):=aH
def Ty:F.D [a,b,c] [] [.t v0 v2,.n (.t v1 v2)] (.n (.e v0 v1)):=aH
def RL:F.D [a,b,c,a-b] [x] [.T c0 (.s w0 ds),.e v2 cL,.L w0 de] (.t (.a (.m 4 v3) n3) v2):=aX [.s 3 v0 v1] ⟨rfl,⟨⟩⟩
def UD:F.D [x.toNat] [x,y] [.T w0 w1,.L w1 de] (.t v0 (.k 4294967296)):=aX [.t 0 w0] ⟨rfl,⟨⟩⟩
def Ux:F.D [x.toNat] [x] [.L cV w0] (.E c0 w0):=aX [.t 0 w0] ⟨rfl,⟨⟩⟩
def S0:F.D [a,b,c,a-b,c-b] [] [.n (.t v0 v1),.n (.e v0 v2),.n (.t v2 v1)] (.o (.l (.a (.m 4 v3) n4) (.m 4 v4)) (.l (.a (.m 4 v4) n4) (.m 4 v3))):=aX [.s 3 v0 v1,.s 4 v2 v1] ⟨rfl,rfl,⟨⟩⟩
def JN:F.D [] [x,y] [.a (.L cV w0) (.T w0 w1)] (.n (.E w0 uW)):=aH
def Uf:F.D [a] [x] [.T c0 (.a w0 rT)] (.n (.L (.a w0 rT) c0)):=aH
def Ch:F.D [a,b] [x] [.e v0 (.a v1 n1),.E w0 c1,.o (.E w0 z1) (.E w0 z2)] (.l v0 fe):=aH
def N6:F.D [a,b] [x] [.t v0 v1,.E w0 c1] (.T c0 w0):=aH
def Lv:F.D [a,b] [x] [.E w0 c1,.n (.t v0 v1)] (.n (.T c0 w0)):=aH
def Uv:F.D [a,b] [x] [.t v0 (.a v1 (.k 16)),.E w0 c1] (.T c0 (.a w0 rT)):=aH
def JU:F.D [a,b,a-b] [] [.n (.t v0 v1)] (.E (.s c0 c1) c2):=aX [.s 2 v0 v1] ⟨rfl,⟨⟩⟩
def zL:F.D [] [x,y] [.a (.L cV w0) (.T w0 w1)] (.L uW w0):=aH
def Um:F.D [a,b,a-b] [] [.t v0 (.a v1 (.k 16))] (.t v2 (.k 16)):=aX [.s 2 v0 v1] ⟨rfl,⟨⟩⟩
def UH:F.D [] [x] [.L cV w0] (.n (.E w0 z0)):=aH
def UG:F.D [a,b,c] [] [.t v1 v2,.l v2 v0] (.n (.e v0 v1)):=aH
def TR:F.D [a] [x,y] [.T c0 (.s w1 ds),.o (.E w0 z1) (.E w0 z2),.L w1 de] (.T c0 (.a w0 rT)):=aH
def UB:F.D [a] [x] [.E w0 c0,.E w0 z0] (.e v0 n0):=aH
def TJ:F.D [a] [x] [.E w0 c0,.n (.E w0 z0)] (.n (.e v0 n0)):=aH
def Em:F.D [a,b] [] [.n (.t v1 v0)] (.l v0 v1):=aH
def Uz:F.D [a,b,c,min a b] [] [.l (.a v0 v2) v1] (.e v3 v0):=aX [.m 3 v0 v1] ⟨rfl,⟨⟩⟩
def KB:F.D [a,b,c] [] [.t v1 v0] (.n (.a (.l v0 v1) (.t v1 (.a v0 v2)))):=aH
def OC:F.D [a,b,c] [] [.n (.t v1 (.a v0 v2))] (.n (.a (.l v0 v1) (.t v1 (.a v0 v2)))):=aH
def RQ:F.D [a,b,c,c-(a+b)] [] [.n (.t v2 (.a v0 v1))] (.e (.a (.a v0 v1) v3) v2):=aX [.s 3 v2 (.a v0 v1)] ⟨rfl,⟨⟩⟩
def DF:F.d [a] [] (.n (.T c0 z0)):=aH
def SY:F.D [a,b,c,(a+b)/64,(a+b)%64] [x] [.L (.a c0 c2) (.m 64 (.s w0 ds)),.t v1 v2] (.T c3 (.s w0 ds)):=aX [.d 3 4 63 (.a v0 v1)] ⟨⟨rfl,rfl⟩,⟨⟩⟩
def Po:F.D [a,b,a-b] [] [.t v1 v0] (.E (.s c0 c1) c2):=aX [.s 2 v0 v1] ⟨rfl,⟨⟩⟩
def Kz:F.D [a,b,a-b] [] [.t v1 v0] (.t n0 v2):=aX [.s 2 v0 v1] ⟨rfl,⟨⟩⟩
def Qw:F.D [a,b,b-a] [] [.t v0 v1] (.l (.a v0 v2) v1):=aX [.s 2 v1 v0] ⟨rfl,⟨⟩⟩
def Tn:F.d [a,b,(a+b)/64,(a+b)%64,64-((a+b)%64)] [] (.E (.s jr c3) c4):=aX [.d 2 3 63 (.a v0 v1),.s 4 cL v3] ⟨⟨rfl,rfl⟩,rfl,⟨⟩⟩
def Uh:F.d [a,b,(a+b)/64,(a+b)%64,64-((a+b)%64)] [] (.t n0 v4):=aX [.d 2 3 63 (.a v0 v1),.s 4 cL v3] ⟨⟨rfl,rfl⟩,rfl,⟨⟩⟩
def Uj:F.d [a,b,(a+b)/64,(a+b)%64,64-((a+b)%64)] [] (.l (.a v3 v4) cL):=aX [.d 2 3 63 (.a v0 v1),.s 4 cL v3] ⟨⟨rfl,rfl⟩,rfl,⟨⟩⟩
def Q6:F.D [a,b] [x] [.L (.a c1 c0) (.m 64 (.s w0 ds)),.L w0 de] (.l v0 aO):=aH
def Bg:F.D [a] [] [.e v0 cL] (.l v0 aO):=aH
def LF:F.D [a,b,c,d,(b+c)/64,(b+c)%64,(((b+c)%64)+d)-((b+c)%64)] [] [.e v0 v3] (.e v0 v6):=aX [.d 4 5 63 (.a v1 v2),.s 6 (.a v5 v3) v5] ⟨⟨rfl,rfl⟩,rfl,⟨⟩⟩
def Pc:F.D [a,b,c,d,(a+c)/64,(a+c)%64,b/64,b%64] [] [.a (.l v5 v7) (.t v7 (.a v5 v3)),.e v6 v4] (.a (.l v0 v1) (.t v1 (.a v0 (.a v2 v3)))):=aX [.d 4 5 63 (.a v0 v2),.d 6 7 63 v1] ⟨⟨rfl,rfl⟩,⟨rfl,rfl⟩,⟨⟩⟩
def Pe:F.D [a,b,c,d,(c+a)/64,(c+a)%64,b/64,b%64,(b%64)-((c+a)%64)] [] [.a (.l v5 v7) (.t v7 (.a v5 v3))] (.t (.a v0 (.v 8)) (.a v0 v3)):=aX [.d 4 5 63 (.a v2 v0),.d 6 7 63 v1,.s 8 v7 v5] ⟨⟨rfl,rfl⟩,⟨rfl,rfl⟩,rfl,⟨⟩⟩
def MX:F.D [a,b,c,d,(c+a)/64,(c+a)%64,b/64,b%64,(b%64)-((c+a)%64),b-c] [] [.a (.l v5 v7) (.t v7 (.a v5 v3)),.e v6 v4] (.e (.a v0 (.v 8)) (.v 9)):=aX [.d 4 5 63 (.a v2 v0),.d 6 7 63 v1,.s 8 v7 v5,.s 9 v1 v2] ⟨⟨rfl,rfl⟩,⟨rfl,rfl⟩,rfl,rfl,⟨⟩⟩
def Gg:F.D [a,b,c,d] [] [.a (.l v0 v1) (.t v1 (.a v0 v2))] (.a (.l v0 v1) (.t v1 (.a v0 (.a v2 v3)))):=aH
def M9:F.D [a,b] [x,y] [.L (.a c0 c1) (.m 64 (.s w1 ds)),.o (.E w0 z1) (.E w0 z2),.L w1 de] (.n (.T (.m 64 (.a w0 rT)) (.a c0 c1))):=aH
def ND:F.d [a,b] [] (.n (.a (.l v0 v1) (.t v1 (.a v0 n0)))):=aH
def Og:F.D [a] [] [.l v0 n8] (.L (.k 4) (.s (.k 15) c0)):=aH
def GO:F.D [a] [] [.t n0 v0] (.n (.E c0 z0)):=aH
def Qi:F.d [a,b] [] (.E (.a c0 c1) (.c (.a v0 v1))):=aH
def FY:F.D [a,b,c,d,a-b,a-(b+c)] [] [.t n0 v2,.t v1 v0,.e v3 v4] (.t v5 v3):=aX [.s 4 v0 v1,.s 5 v0 (.a v1 v2)] ⟨rfl,rfl,⟨⟩⟩
def Bb:F.D [a,b] [] [.t n0 v1] (.t n0 (.a v0 v1)):=aH
def Pd:F.D [a,b,c,(a+c)/64,(a+c)%64] [] [.e v1 v3] (.t v0 (.a (.m 64 v1) cL)):=aX [.d 3 4 63 (.a v0 v2)] ⟨⟨rfl,rfl⟩,⟨⟩⟩
def KK:F.D [a,b,c,d,(b+c)/64,(b+c)%64] [] [.t n0 v3,.e v0 v4] (.t (.m 64 v0) (.a v1 (.a v2 v3))):=aX [.d 4 5 63 (.a v1 v2)] ⟨⟨rfl,rfl⟩,⟨⟩⟩
def Rs:F.D [a,b,c] [] [.a (.t n0 v2) (.a (.t v0 (.a (.m 64 v1) cL)) (.t (.m 64 v1) (.a v0 v2)))] (.t v0 (.a (.m 64 v1) cL)):=aH
def Mn:F.D [a,b,c,d] [] [.a (.t n0 v2) (.a (.t v1 (.a (.m 64 v0) cL)) (.t (.m 64 v0) (.a v1 v2)))] (.t (.m 64 v0) (.a v1 (.a v2 v3))):=aH
def Qn:F.D [a,b,c,d,(b+a)/64,(b+a)%64] [] [.l (.a v5 v2) cL,.a (.t n0 (.a v0 v2)) (.a (.t v1 (.a (.m 64 v3) cL)) (.t (.m 64 v3) (.a v1 (.a v0 v2)))),.n (.e v3 v4)] (.t n0 v0):=aX [.d 4 5 63 (.a v1 v0)] ⟨⟨rfl,rfl⟩,⟨⟩⟩
def Lh:F.D [a,b,c,d] [] [.a (.t n0 (.a v2 v3)) (.a (.t v0 (.a (.m 64 v1) cL)) (.t (.m 64 v1) (.a v0 (.a v2 v3))))] (.t v0 (.a (.m 64 v1) cL)):=aH
def KJ:F.D [a,b,c,d,(b+c)/64,(b+c)%64] [] [.l (.a v5 v3) cL,.a (.t n0 (.a v2 v3)) (.a (.t v1 (.a (.m 64 v0) cL)) (.t (.m 64 v0) (.a v1 (.a v2 v3)))),.n (.e v0 v4)] (.t (.m 64 v0) (.a v1 v2)):=aX [.d 4 5 63 (.a v1 v2)] ⟨⟨rfl,rfl⟩,⟨⟩⟩
def N5:F.D [a,b] [] [.l v0 v1,.n (.t v0 v1)] (.e v0 v1):=aH
def Kh:F.d [a] [] (.n (.T c0 c0)):=aH
def SI:F.D [a,b] [x] [.L (.a c0 c1) (.m 64 (.s w0 ds)),.L w0 de] (.T (.a c0 c1) (.k 4294967296)):=aH
def Qp:F.D [a,b] [x,y] [.T w1 (.a c0 c1),.E w1 w0] (.T w0 (.a c0 c1)):=aH
def Si:F.D [a,b] [x,y] [.E w1 w0,.n (.T w1 (.a c0 c1))] (.n (.T w0 (.a c0 c1))):=aH
def PN:F.D [a,b,c,min (b+a) c,(min (b+a) c)-b] [] [.l (.a v1 v0) v2] (.e v0 v4):=aX [.m 3 (.a v1 v0) v2,.s 4 v3 v1] ⟨rfl,rfl,⟨⟩⟩
def Nq:F.d [a,a/64,a%64,64-(a%64)] [] (.E (.s jr c2) c3):=aX [.d 1 2 63 v0,.s 3 cL v2] ⟨⟨rfl,rfl⟩,rfl,⟨⟩⟩
def Kr:F.d [a,a/64,a%64,64-(a%64)] [] (.t n0 v3):=aX [.d 1 2 63 v0,.s 3 cL v2] ⟨⟨rfl,rfl⟩,rfl,⟨⟩⟩
def N2:F.d [a,a/64,a%64,64-(a%64)] [] (.l (.a v2 v3) cL):=aX [.d 1 2 63 v0,.s 3 cL v2] ⟨⟨rfl,rfl⟩,rfl,⟨⟩⟩
def KG:F.D [a,b,c,d,e,f,g,min c (d+e),a/64,a%64] [x] [.e v7 v5,.L c2 (.m 64 (.s w0 ds)),.t n0 v6,.l (.a v0 v6) v5,.L w0 de] (.t (.v 8) (.a v1 (.k 16))):=aX [.m 7 v2 (.a v3 v4),.d 8 9 63 v0] ⟨rfl,⟨rfl,rfl⟩,⟨⟩⟩
def Kf:F.D [a,b,c,a-b,(a+c)-b] [] [.l v1 v0] (.e (.a v3 v2) v4):=aX [.s 3 v0 v1,.s 4 (.a v0 v2) v1] ⟨rfl,rfl,⟨⟩⟩
def Mg:F.D [a,b,b-a] [] [.l v0 v1] (.e (.a v0 v2) v1):=aX [.s 2 v1 v0] ⟨rfl,⟨⟩⟩
def Ph:F.D [a,b,c,d] [] [.t n0 v1,.l (.a v0 v1) v3,.l v2 v0,.l v3 v2] (.e (.a v0 v1) v2):=aH
def Jz:F.D [a,b] [] [.n (.t v0 v1)] (.n (.T c0 c1)):=aH
def PM:F.D [a,b,c,a-b,c-b] [] [.i (.l v1 v2) (.l v0 v2),.i (.l v2 v1) (.e v0 v1),.n (.t v0 v2)] (.e v3 v4):=aX [.s 3 v0 v1,.s 4 v2 v1] ⟨rfl,rfl,⟨⟩⟩
def Rr:F.D [a,b,c,d,e,min c (b+d),a-b] [] [.e v5 v4,.i (.l v1 v4) (.l v0 v4),.l v3 (.k 10000),.i (.l v4 v1) (.e v0 v1)] (.l v6 aO):=aX [.m 5 v2 (.a v1 v3),.s 6 v0 v1] ⟨rfl,rfl,⟨⟩⟩
def AW:F.D [a] [] [.l v0 cP] (.l v0 aO):=aH
def Li:F.D [a] [] [.t v0 (.k 16)] (.T (.a z0 c0) rT):=aH
def QV:F.d [a] [] (.E (.m 4 (.a z0 c0)) (.c (.m 4 v0))):=aH
def Mo:F.D [a] [] [.t v0 (.k 16)] (.l v0 aO):=aH
def Q4:F.D [a,b] [x] [.T c0 (.s w0 ds),.L w0 de] (.t v0 (.a v1 (.k 16))):=aH
def Jv:F.D [a,b,c] [] [.t v0 v2,.e v2 (.a v1 n1),.n (.t v0 v1)] (.e v0 v1):=aH
def Gc:F.d [a,b] [] (.n (.t (.a v0 v1) v0)):=aH
def Ou:F.d [a,b,(a+b)-a] [] (.e v2 v1):=aX [.s 2 (.a v0 v1) v0] ⟨rfl,⟨⟩⟩
def Ov:F.D [a,x.toNat,x.toNat/8,x.toNat%8] [x] [.a (.L z0 w0) (.T w0 (.k 32)),.e v0 cL] (.t v2 v0):=aX [.t 1 w0,.d 2 3 7 v1] ⟨rfl,⟨rfl,rfl⟩,⟨⟩⟩
def Rq:F.D [a] [x] [.E w0 c0] (.E (.a w0 z1) (.c (.a v0 n1))):=aH
def OG:F.D [a] [x] [.E w0 c0] (.E (.a w0 z2) (.c (.a v0 n2))):=aH
def Gm:F.d [a,(((-1)+((((a+1):Nat):Nat):Int))).toNat] [] (.e v1 v0):=aX [.t 1 (.a (.g z1) (.c (.a v0 n1)))] ⟨rfl,⟨⟩⟩
def NZ:F.D [] [x,y] [.L cV w0,.T w0 w1,.L w1 de] (.o (.E w0 cV) (.o (.E w0 ds) (.o (.E w0 (.k 22)) (.o (.E w0 (.k 23)) (.o (.E w0 mF) (.E w0 (.k 25))))))):=aH
def Mv:F.D [a,b] [x] [.e v0 (.a v1 n1),.E w0 c1,.o (.E w0 z1) (.E w0 z2)] (.l v0 cP):=aH
def Gh:F.D [a,b] [] [.l (.a (.a v0 v1) n1) (.k 6)] (.l (.a v0 n1) aO):=aH
def Qe:F.D [a,b] [] [.l (.a (.a v0 v1) n1) (.k 6)] (.l (.a v0 v1) aO):=aH
def JK:F.D [a,b] [] [.l (.a (.a v0 v1) n1) (.k 6)] (.l (.a (.a v0 v1) n1) aO):=aH
def MH:F.D [a,b] [] [.t v0 v1,.l v1 (.k 6)] (.l v0 aO):=aH
def OW:F.D [a] [] [.l v0 (.k 6)] (.l (.a n1 v0) aO):=aH
def yD:F.D [] [x] [.L mF w0] (.T Ak w0):=aH
def Nv:F.D [a] [] [.l v0 (.k 6)] (.l v0 aO):=aH
def JJ:F.D [a,b] [x] [.L cV w0,.t v0 v1] (.L z0 w0):=aH
def Cw:F.D [a,b,c,min a b] [] [.t v0 v1,.t v2 v3,.e v2 v0] .f:=aX [.m 3 v0 v1] ⟨rfl,⟨⟩⟩
def Lu:F.D [] [x] [.o (.E w0 z1) (.E w0 z2)] (.L z0 (.a w0 z1)):=aH
def LZ:F.D [] [x] [.o (.E w0 z1) (.E w0 z2)] (.L (.a w0 z1) b7):=aH
def v9:F.D [] [x] [.L uW w0] (.L z0 w0):=aH
def Rt:F.D [] [x,y,z] [.L z0 w1,.E w0 w1,.T w1 w2,.L w2 de] (.a (.L z0 w0) (.T w0 b7)):=aH
def zh:F.D [] [x,y] [.T w0 w1,.L w1 de] (.T w0 b7):=aH
def KP:F.D [a] [] [.t v0 (.k 256)] (.a (.L z0 c0) (.T c0 (.k 256))):=aH
def LH:F.D [a] [] [.l v0 n8] (.n (.T jr (.m 4 (.a c0 z1)))):=aH
def Su:F.D [a] [] [.l v0 n8] (.l (.a n1 v0) aO):=aH
def R9:F.D [a] [x] [.E w0 c0] (.L z0 w0):=aH
def RN:F.d [(x%256).toNat] [x,x/256,x%256] (.t v0 (.k 256)):=aX [.D 1 2 255 w0,.t 0 w2] ⟨⟨rfl,rfl⟩,rfl,⟨⟩⟩
def K7:F.d [(x%256).toNat] [x,x/256,x%256] (.E w2 c0):=aX [.D 1 2 255 w0,.t 0 w2] ⟨⟨rfl,rfl⟩,rfl,⟨⟩⟩
def K9:F.D [a] [] [.t v0 n4] (.T (.a z0 c0) (.k 4)):=aH
def PG:F.D [a] [] [.t v0 n4] (.l v0 aO):=aH
def Qy:F.D [a,b,c] [] [.e v0 (.m 4 v1),.t v1 v2,.l v2 (.k 9)] (.l v0 aO):=aH
def Qc:F.D [a,b] [] [.e v0 (.m 4 v1)] (.e (.a v0 n4) (.m 4 (.a v1 n1))):=aH
def Gl:F.D [a,b] [] [.e v0 (.m 4 v1),.l v1 (.k 9)] (.l v0 aO):=aH
def Nn:F.D [a,b,64-a] [] [.e v0 (.m 4 v1),.l v1 (.k 9)] (.E (.s jr c0) c2):=aX [.s 2 cL v0] ⟨rfl,⟨⟩⟩
def RY:F.d [a,64-a] [] (.l v1 aO):=aX [.s 1 cL v0] ⟨rfl,⟨⟩⟩
def Pa:F.D [a,b,64-a] [] [.e v0 (.m 4 v1),.l v1 (.k 9)] (.l (.a v0 v2) aO):=aX [.s 2 cL v0] ⟨rfl,⟨⟩⟩
def JD:F.D [a,b,64-a] [] [.e v0 (.m 4 v1),.l v1 (.k 9)] (.e (.a v0 v2) cL):=aX [.s 2 cL v0] ⟨rfl,⟨⟩⟩
def Od:F.D [] [x,y] [.L uW w1,.E w1 w0] (.n (.T w0 uW)):=aH
def Gv:F.D [a] [] [.l v0 fe] (.l v0 (.a fe n0)):=aH
def Ob:F.D [a,b] [x,y] [.L uW w1,.t v0 v1,.T w1 w0,.l v1 n8] (.T (.c (.a n3 v0)) w0):=aH
def SH:F.d [a] [] (.L z2 (.c (.a n3 v0))):=aH
def Ql:F.D [a,b] [] [.t v0 v1,.l v1 n8] (.T (.c (.a n3 v0)) (.k 11)):=aH
def GW:F.D [a,b,c] [] [.l v0 (.a fe v1),.t v1 v2,.l v2 n8] (.l v0 cP):=aH
def KE:F.D [a,b] [] [.t v0 v1,.l v1 n8] (.T (.c (.a n3 v0)) uW):=aH
def GY:F.D [a,b] [] [.l v0 (.a fe v1),.l v1 n8] (.l v0 cP):=aH
def Rj:F.D [] [x] [.L mF w0] (.T z2 w0):=aH
def Rf:F.D [] [x] [.L uW w0] (.n (.E w0 z2)):=aH
def Qq:F.D [a,b] [] [.l v0 (.a fe v1)] (.l (.a v0 n1) (.a fe (.a v1 n1))):=aH
def RR:F.D [a,b] [x,y] [.L z1 w1,.E w0 w1,.t v0 v1] (.n (.E w0 z0)):=aH
def Bo:F.D [] [x] [.E w0 z1] (.n (.E w0 z0)):=aH
def JF:F.D [] [x] [.a (.T z0 w0) (.T w0 (.k 10000))] (.n (.E w0 z0)):=aH
def NO:F.D [] [x,((x+512)-1)/512,((x+512)-1)%512] [.a (.L mF w0) (.L w0 de)] (.E w1 z1):=aX [.D 1 2 511 (.s (.a w0 (.k 512)) z1)] ⟨⟨rfl,rfl⟩,⟨⟩⟩
def Oe:F.D [] [x] [.o (.E w0 z1) (.E w0 z2)] (.n (.T w0 z1)):=aH
def So:F.D [] [x] [.o (.E w0 z1) (.E w0 z2)] (.n (.T jr (.a (.k 12) (.m 4 (.a w0 z1))))):=aH
def JH:F.D [] [x,y,z] [.a (.T z0 w0) (.a (.T w0 (.k 100)) (.a (.E w1 z1) (.a (.n (.E w2 z0)) (.a (.T w2 (.k 100)) (.T z0 w2)))))] (.a (.T z0 w0) (.T w0 (.k 10000))):=aH
def Rg:F.D [] [x] [.a (.L mF w0) (.L w0 de)] (.n (.L w0 cV)):=aH
def NT:F.D [] [x] [.L z1 w0] (.n (.T w0 z1)):=aH
def M8:F.D [] [x,y] [.L z0 w1,.E w0 w1,.T w1 b7] (.a (.L z0 w0) (.T w0 b7)):=aH
def Pz:F.D [a] [] [.l v0 cP] (.L c0 (.k 1000000)):=aH
def LU:F.D [] [x] [.a (.L mF w0) (.L w0 de)] (.L z1 w0):=aH
def Mq:F.D [] [x] [.a (.L mF w0) (.L w0 de)] (.L (.s w0 cV) b7):=aH
def KA:F.D [(x-20).toNat] [x] [.a (.L mF w0) (.L w0 de)] (.l (.a n1 v0) aO):=aX [.t 0 (.s w0 cV)] ⟨rfl,⟨⟩⟩
def M0:F.D [] [x] [.a (.L mF w0) (.L w0 de)] (.a (.L z0 z0) (.T z0 w0)):=aH
def SK:F.D [a,(x-20).toNat] [x] [.t v0 v1] (.a (.L z0 (.a cV c0)) (.T (.a cV c0) w0)):=aX [.t 1 (.s w0 cV)] ⟨rfl,⟨⟩⟩
def J2:F.D [(x-20).toNat] [x] [.a (.L mF w0) (.L w0 de)] (.l (.a v0 n1) (.k 7)):=aX [.t 0 (.s w0 cV)] ⟨rfl,⟨⟩⟩
def CD:F.D [] [x,y] [.a (.L mF w1) (.L w1 de),.E w0 w1] (.L w0 de):=aH
def MN:F.D [a,b,c] [] [.l v0 v1,.t v1 v2,.l v2 (.k 7)] (.l v0 cP):=aH
def Qz:F.D [] [x,y] [.a (.L mF w1) (.L w1 de),.E w0 w1] (.T uW w0):=aH
def Qo:F.D [a,b] [] [.l v0 v1,.l v1 (.k 7)] (.l v0 cP):=aH
def RC:F.D [a,b] [] [.l v0 v1,.l v1 (.k 7)] (.l (.a v0 n1) (.k 9)):=aH
def Sk:F.D [] [x,y] [.a (.L mF w1) (.L w1 de),.E w0 w1] (.T Ak w0):=aH
def G1:F.D [] [x] [.L uW w0] (.n (.T w0 (.a z2 rT))):=aH
def MI:F.D [a,b] [x] [.E c1 (.a w0 z1),.t v0 v1] (.T (.a z0 c0) (.a w0 z1)):=aH
def Ku:F.D [a] [x] [.E c0 (.a w0 z1)] (.n (.T (.a z0 c0) (.a w0 z1))):=aH
def Sq:F.d [a,b] [] (.E (.a (.a c0 (.k 12)) (.m 4 (.a z0 c1))) (.c (.a (.a v0 n12) (.m 4 v1)))):=aH
def LM:F.D [a,b,c,d] [x] [.E c3 (.a w0 z1),.o (.e v0 t6) (.e v0 uX),.t v1 v3,.e v2 cL,.o (.E w0 z1) (.E w0 z2)] (.t (.a (.a (.a v0 n12) (.m 4 v1)) n3) v2):=aH
def SG:F.D [a] [x] [.E c0 (.a w0 z1),.o (.E w0 z1) (.E w0 z2)] (.l v0 aO):=aH
def Oz:F.D [a] [] [.e v0 (.k 14)] (.l (.k 14) v0):=aH
def Ml:F.D [] [x] [.E w0 z2] (.n (.E w0 z0)):=aH
def MA:F.D [] [x] [.E w0 z2] (.n (.T (.k 3) w0)):=aH
def Sj:F.D [a] [x,y] [.L c0 (.m 64 (.a w0 rT)),.E w1 c0] (.n (.T (.m 64 (.a w0 rT)) w1)):=aH
def F9:F.D [a] [] [.e v0 n12] (.l n12 v0):=aH
def Pj:F.D [] [x] [.a (.L mF w0) (.L w0 de)] (.L uW w0):=aH
def Ci:F.D [] [x] [.a (.T z0 w0) (.L w0 b7)] (.n (.E w0 z0)):=aH
def GN:F.D [] [x,y] [.L w0 w1] (.L w0 (.a w1 z1)):=aH
def GP:F.D [] [x] [.L z0 w0] (.L z0 (.a w0 z1)):=aH
def JM:F.D [] [x,y] [.L w0 w1] (.L (.a w0 z1) (.a w1 z1)):=aH
def Sf:F.d [a,min 24 a,min (min 24 a) a] [] (.e v2 v1):=aX [.m 1 uX v0,.m 2 v1 v0] ⟨rfl,rfl,⟨⟩⟩
def QK:F.d [a,min 24 a] [] (.l v1 aO):=aX [.m 1 uX v0] ⟨rfl,⟨⟩⟩
def Oc:F.D [a,b,c,d,min b (a+d),(min b (a+d))-a,min a b] [] [.t v2 v5] (.e v6 v0):=aX [.m 4 v1 (.a v0 v3),.s 5 v4 v0,.m 6 v0 v1] ⟨rfl,rfl,rfl,⟨⟩⟩
def Lq:F.D [a] [] [.l v0 cP] (.l (.a v0 (.k 5)) (.k 10000)):=aH
def N8:F.D [a,b] [] [.E c0 c1] (.e v0 v1):=aH
def MZ:F.D [a,(a+63)/64,(a+63)%64] [] [.l v0 (.k 10000)] (.l v1 (.k 200)):=aX [.d 1 2 63 (.a v0 kE)] ⟨⟨rfl,rfl⟩,⟨⟩⟩
def Bh:F.D [a,b] [] [.t v0 v1] (.T (.a z0 c0) c1):=aH
def BI:F.d [a] [] (.n (.T (.a z0 c0) c0)):=aH
def Ry:F.D [a,b] [] [.t v0 v1,.l v1 (.k 200)] (.l v0 aO):=aH
def LL:F.D [a,b] [] [.t (.a v0 v1) v0] .f:=aH
def Q8:F.D [a,b,c,(x-20).toNat] [x] [.e v3 (.a v2 v0),.L mF w0,.e v2 (.a v1 n0)] (.E c0 (.s (.s (.s w0 cV) c1) z0)):=aX [.t 3 (.s w0 cV)] ⟨rfl,⟨⟩⟩
def MT:F.D [a,b,c,(x-20).toNat] [x] [.e v3 (.a v2 v0),.e v2 (.a v1 n1)] (.E c0 (.s (.s (.s w0 cV) c1) z1)):=aX [.t 3 (.s w0 cV)] ⟨rfl,⟨⟩⟩
def JZ:F.D [a,(a+63)/64,(a+63)%64] [x] [.L c0 (.m 64 (.s w0 ds))] (.L c1 (.s w0 ds)):=aX [.d 1 2 63 (.a v0 kE)] ⟨⟨rfl,rfl⟩,⟨⟩⟩
def FW:F.D [a,(a+63)/64,(a+63)%64,(x-21).toNat] [x] [.L c1 (.s w0 ds)] (.l v1 v3):=aX [.d 1 2 63 (.a v0 kE),.t 3 (.s w0 ds)] ⟨⟨rfl,rfl⟩,rfl,⟨⟩⟩
def OE:F.D [a,b,(b+63)/64,(b+63)%64,((b+63)/64)-1] [] [.t v0 v2] (.l v0 v4):=aX [.d 2 3 63 (.a v1 kE),.s 4 v2 n1] ⟨⟨rfl,rfl⟩,rfl,⟨⟩⟩
def GT:F.D [a,b,(a+63)/64,(a+63)%64] [] [.t v1 v2] (.t n0 v0):=aX [.d 2 3 63 (.a v0 kE)] ⟨⟨rfl,rfl⟩,⟨⟩⟩
def Nj:F.D [a] [x] [.L c0 (.m 64 (.s w0 ds)),.L w0 de] (.l v0 (.k 320)):=aH
def Sp:F.D [a,(a+63)/64,(a+63)%64] [] [.l v0 (.k 320)] (.l v1 cP):=aX [.d 1 2 63 (.a v0 kE)] ⟨⟨rfl,rfl⟩,⟨⟩⟩
def GU:F.D [] [x] [.L w0 (.k 1000)] (.L w0 b7):=aH
def NX:F.D [a] [] [.l v0 (.k 320)] (.a (.T z0 (.a c0 (.k 10))) (.L (.a c0 (.k 10)) b7)):=aH
def J3:F.D [] [x] [.L w0 (.k 1000)] (.L (.a w0 z1) b7):=aH
def Oq:F.d [] [x] (.E (.a (.a w0 z1) z1) (.a w0 z2)):=aH
def yM:F.D [a] [] [.t v0 n2] (.o (.e v0 n0) (.e v0 n1)):=aH
def GM:F.D [a,b] [] [.T c0 (.a c1 (.k 10)),.l v1 (.k 320)] (.l v0 (.k 5000)):=aH
def FN:F.D [a] [] [.T c0 (.k 90)] (.l v0 cP):=aH
def Kg:F.D [a,b,(b+63)/64,(b+63)%64] [] [.n (.t v0 v2)] (.n (.T c0 c2)):=aX [.d 2 3 63 (.a v1 kE)] ⟨⟨rfl,rfl⟩,⟨⟩⟩
def L1:F.D [a] [] [.l v0 (.k 320)] (.l v0 (.k 10000)):=aH
def Nf:F.D [a,(a+63)/64,(a+63)%64] [] [.l v0 (.k 320)] (.l v1 aO):=aX [.d 1 2 63 (.a v0 kE)] ⟨⟨rfl,rfl⟩,⟨⟩⟩
def Nk:F.D [a] [x,y] [.L c0 (.m 64 (.s w1 ds)),.E w0 c0,.L w1 de] (.L w0 (.k 10000)):=aH
def Qr:F.D [a,b,c,max a (b+c)] [x] [.L c0 (.m 64 (.s w0 ds)),.L (.a c1 c2) (.m 64 (.s w0 ds))] (.L c3 (.m 64 (.s w0 ds))):=aX [.M 3 v0 (.a v1 v2)] ⟨rfl,⟨⟩⟩
def Qt:F.D [a,b,c,d,max d (a+c)] [] [.l v4 v1] (.n (.a (.l v0 v1) (.t v1 (.a v0 v2)))):=aX [.M 4 v3 (.a v0 v2)] ⟨rfl,⟨⟩⟩
def Lb:F.D [a,b,c,d,max a (c+d)] [] [.l v4 v1] (.l v0 v1):=aX [.M 4 v0 (.a v2 v3)] ⟨rfl,⟨⟩⟩
def Gx:F.D [] [x] [.L mF w0] (.L (.c n0) (.m 64 (.s w0 ds))):=aH
def J8:F.D [a,b,c] [] [.t v0 v2,.e v2 v1] (.t v0 v1):=aH
def J1:F.d [a,b,a-b,min a (b+(a-b))] [] (.e v3 v0):=aX [.s 2 v0 v1,.m 3 v0 (.a v1 v2)] ⟨rfl,rfl,⟨⟩⟩
def OH:F.d [a,b,c,c-(a+b),max c (a+b)] [] (.e (.a (.a v0 v1) v3) v4):=aX [.s 3 v2 (.a v0 v1),.M 4 v2 (.a v0 v1)] ⟨rfl,rfl,⟨⟩⟩
def Qa:F.D [a,b,c,d,max b (c+d)] [] [.t v0 v4,.n (.t v0 (.a v2 v3))] (.t v0 v1):=aX [.M 4 v1 (.a v2 v3)] ⟨rfl,⟨⟩⟩
def Gr:F.D [a,b,c] [] [.a (.l v1 v0) (.t v0 (.a v1 v2))] (.t v0 (.a v1 (.a v2 n1))):=aH
def Gq:F.D [a,b,c] [] [.a (.l v1 v0) (.t v0 (.a v1 (.a v2 n1))),.n (.e v0 (.a v1 v2))] (.t v0 (.a v1 v2)):=aH
def Q3:F.D [a,b,c] [] [.e v1 (.a v0 v2)] (.l v0 v1):=aH
def PJ:F.D [a,b,c] [] [.e v0 (.a v1 v2)] (.t v0 (.a v1 (.a v2 n1))):=aH
def OT:F.D [a,b] [] [.a (.l v0 (.a v0 v1)) (.t (.a v0 v1) (.a v0 v1))] .f:=aH
def Nx:F.D [a,b,c] [] [.l v0 (.a v1 v2)] (.l v0 (.a v1 (.a v2 n1))):=aH
def Mr:F.D [a,b,c,c-a] [] [.t v1 v3] (.T (.a c0 c1) c2):=aX [.s 3 v2 v0] ⟨rfl,⟨⟩⟩
def LI:F.d [a,b,b-a] [] (.n (.T (.a c0 c2) c1)):=aX [.s 2 v1 v0] ⟨rfl,⟨⟩⟩
def Pp:F.D [a,b,c,d,e,d-e] [] [.l v0 (.a v1 v2),.l v1 fe,.t v2 v5,.l v3 fe] (.l v0 aO):=aX [.s 5 v3 v4] ⟨rfl,⟨⟩⟩
def QR:F.D [a,b,c,d,e,d-e] [] [.l v0 (.a v1 v2),.l v1 fe,.t v2 v5,.l v3 fe] (.l (.a v0 n1) aO):=aX [.s 5 v3 v4] ⟨rfl,⟨⟩⟩
def NR:F.D [a,b,a-b] [] [.l v0 v1] (.e v2 n0):=aX [.s 2 v0 v1] ⟨rfl,⟨⟩⟩
def J5:F.D [a,b,max a b] [] [.l v1 v0] (.e v2 v0):=aX [.M 2 v0 v1] ⟨rfl,⟨⟩⟩
def Mb:F.D [a,b,c,b-c] [] [.e v0 v3,.n (.l v1 v2)] (.t n0 v0):=aX [.s 3 v1 v2] ⟨rfl,⟨⟩⟩
def Nh:F.D [a,b,c,b-c] [x] [.L c1 (.m 64 (.s w0 ds)),.e v0 v3,.L w0 de] (.l v0 cP):=aX [.s 3 v1 v2] ⟨rfl,⟨⟩⟩
def LJ:F.D [a,b,b-a] [x] [.L c1 (.m 64 (.s w0 ds)),.n (.l v1 v0)] (.L (.a c0 c2) (.m 64 (.s w0 ds))):=aX [.s 2 v1 v0] ⟨rfl,⟨⟩⟩
def QL:F.D [a,b,a-b] [] [.e n0 v2,.n (.l v0 v1)] .f:=aX [.s 2 v0 v1] ⟨rfl,⟨⟩⟩
def Jy:F.D [a,b,c,b-c] [x] [.L c1 (.m 64 (.s w0 ds)),.e v0 v3,.L w0 de] (.l v0 aO):=aX [.s 3 v1 v2] ⟨rfl,⟨⟩⟩
def MG:F.d [a,b,b-a,max a (a+(b-a)),max a b] [] (.e v3 v4):=aX [.s 2 v1 v0,.M 3 v0 (.a v0 v2),.M 4 v0 v1] ⟨rfl,rfl,rfl,⟨⟩⟩
def K8:F.d [a,b,c,(b+63)/64,(b+63)%64,c-b,max b c,((max b c)+63)/64,((max b c)+63)%64] [] (.q (.o (.t v0 v3) (.a (.t v1 (.a (.m 64 v0) cL)) (.t (.m 64 v0) (.a v1 v5)))) (.t v0 v7)):=aX [.d 3 4 63 (.a v1 kE),.s 5 v2 v1,.M 6 v1 v2,.d 7 8 63 (.a v6 kE)] ⟨⟨rfl,rfl⟩,rfl,rfl,⟨rfl,rfl⟩,⟨⟩⟩
def F0:F.D [a,b] [] [.n (.l v1 v0)] (.l v0 v1):=aH
def zr:F.D [a,(a+63)/64,(a+63)%64] [x] [.L c0 (.m 64 (.s w0 ds)),.L w0 de] (.l v1 (.k 10)):=aX [.d 1 2 63 (.a v0 kE)] ⟨⟨rfl,rfl⟩,⟨⟩⟩
def Dr:F.D [a] [x] [.L c0 (.m 64 (.s w0 ds)),.L w0 de] (.l v0 aO):=aH
def RG:F.D [a,b,c,a-b] [x] [.L (.a c0 c2) (.m 64 (.s w0 ds)),.L w0 de] (.l v3 aO):=aX [.s 3 v0 v1] ⟨rfl,⟨⟩⟩
def OU:F.D [a,b] [x] [.L (.a c0 c1) (.m 64 (.s w0 ds))] (.L c0 (.m 64 (.s w0 ds))):=aH
def GZ:F.D [a,b,c,b-a] [x] [.L c0 (.m 64 (.s w0 ds)),.L (.a c1 c2) (.m 64 (.s w0 ds)),.L w0 de] (.l (.a v0 v3) aO):=aX [.s 3 v1 v0] ⟨rfl,⟨⟩⟩
def NC:F.d [a,b,a-b] [] (.l v0 (.a v1 v2)):=aX [.s 2 v0 v1] ⟨rfl,⟨⟩⟩
def QY:F.D [a,b,c,a-b,min a (b+(a-b))] [x] [.L (.a c0 c2) (.m 64 (.s w0 ds)),.L w0 de] (.l (.a v4 v2) aO):=aX [.s 3 v0 v1,.m 4 v0 (.a v1 v3)] ⟨rfl,rfl,⟨⟩⟩
def LG:F.D [a,b,c,a-b,min a (b+(a-b)),b-(a+c)] [x] [.L (.a c0 c2) (.m 64 (.s w0 ds)),.L c1 (.m 64 (.s w0 ds)),.L w0 de] (.l (.a (.a v4 v2) v5) aO):=aX [.s 3 v0 v1,.m 4 v0 (.a v1 v3),.s 5 v1 (.a v0 v2)] ⟨rfl,rfl,rfl,⟨⟩⟩
def KW:F.d [a,b,a/64,a%64,((a+b)+63)/64,((a+b)+63)%64] [] (.l v2 v4):=aX [.d 2 3 63 v0,.d 4 5 63 (.a (.a v0 v1) kE)] ⟨⟨rfl,rfl⟩,⟨rfl,rfl⟩,⟨⟩⟩
def OI:F.D [a,b,((a+b)+63)/64,((a+b)+63)%64] [x] [.L (.a c0 c1) (.m 64 (.s w0 ds)),.L w0 de] (.l v2 fe):=aX [.d 2 3 63 (.a (.a v0 v1) kE)] ⟨⟨rfl,rfl⟩,⟨⟩⟩
def Qm:F.d [a,b,c,max a b,max (max a b) (b+c),max a (b+c)] [] (.e v4 v5):=aX [.M 3 v0 v1,.M 4 v3 (.a v1 v2),.M 5 v0 (.a v1 v2)] ⟨rfl,rfl,rfl,⟨⟩⟩
def JP:F.d [a,b,c,a/64,a%64,((a+c)+63)/64,((a+c)+63)%64,(((a+c)+63)/64)-(a/64)] [] (.q (.a (.t v0 (.a (.m 64 v1) cL)) (.t (.m 64 v1) (.a v0 v2))) (.a (.l v3 v1) (.t v1 (.a v3 v7)))):=aX [.d 3 4 63 v0,.d 5 6 63 (.a (.a v0 v2) kE),.s 7 v5 v3] ⟨⟨rfl,rfl⟩,⟨rfl,rfl⟩,rfl,⟨⟩⟩
def Mi:F.d [a,b,c,d,max b c,((max b c)+63)/64,((max b c)+63)%64,max b (c+d),((max b (c+d))+63)/64,((max b (c+d))+63)%64] [] (.q (.o (.t v0 v5) (.a (.t v2 (.a (.m 64 v0) cL)) (.t (.m 64 v0) (.a v2 v3)))) (.t v0 (.v 8))):=aX [.M 4 v1 v2,.d 5 6 63 (.a v4 kE),.M 7 v1 (.a v2 v3),.d 8 9 63 (.a v7 kE)] ⟨rfl,⟨rfl,rfl⟩,rfl,⟨rfl,rfl⟩,⟨⟩⟩
def Ld:F.D [a,b,c,d,(b+63)/64,(b+63)%64,max b (c+d),((max b (c+d))+63)/64,((max b (c+d))+63)%64] [] [.t v0 v4] (.t v0 v7):=aX [.d 4 5 63 (.a v1 kE),.M 6 v1 (.a v2 v3),.d 7 8 63 (.a v6 kE)] ⟨⟨rfl,rfl⟩,rfl,⟨rfl,rfl⟩,⟨⟩⟩
def Oj:F.D [a,b,c,d,c/64,c%64,((c+d)+63)/64,((c+d)+63)%64,(((c+d)+63)/64)-(c/64),max b (c+d),((max b (c+d))+63)/64,((max b (c+d))+63)%64] [] [.a (.l v4 v0) (.t v0 (.a v4 (.v 8)))] (.t v0 (.v 10)):=aX [.d 4 5 63 v2,.d 6 7 63 (.a (.a v2 v3) kE),.s 8 v6 v4,.M 9 v1 (.a v2 v3),.d 10 11 63 (.a (.v 9) kE)] ⟨⟨rfl,rfl⟩,⟨rfl,rfl⟩,rfl,rfl,⟨rfl,rfl⟩,⟨⟩⟩
def LK:F.D [a,b,c,max a (b+c)] [] [.n (.t v0 (.a v1 v2))] (.e v3 v0):=aX [.M 3 v0 (.a v1 v2)] ⟨rfl,⟨⟩⟩
def FO:F.d [] [x] (.L w0 (.a w0 z2)):=aH
def zs:F.D [] [x] [.L w0 (.k 900)] (.L w0 (.k 1000)):=aH
def RP:F.D [a] [x] [.l v0 cP,.a (.E w0 (.k 3)) (.T z0 c0)] (.a (.T z0 c0) (.L c0 b7)):=aH
def Ok:F.d [] [x] (.L (.a w0 z1) (.a w0 z2)):=aH
def GA:F.D [] [x] [.L w0 (.k 900)] (.L (.a w0 z1) (.k 1000)):=aH
def FU:F.d [] [x] (.L (.a (.a w0 z1) z1) (.a w0 z2)):=aH
def SL:F.D [a] [] [.t n0 v0,.l v0 fe] (.a (.T z0 c0) (.L c0 b7)):=aH
def OA:F.D [a] [] [.l v0 fe] (.l v0 aO):=aH
def Nz:F.d [a,b,(a+(7*b))/255,(a+(7*b))%255] [] (.t (.a n1 v3) (.k 256)):=aX [.d 2 3 254 (.a v0 (.m 7 v1))] ⟨⟨rfl,rfl⟩,⟨⟩⟩
def K6:F.D [a,b] [] [.t v0 v1,.l v1 fe] (.l v0 aO):=aH
def QD:F.D [] [x] [.L w0 (.k 800)] (.L w0 (.k 1000)):=aH
def Sr:F.D [] [x] [.L w0 (.k 800)] (.L (.a w0 z1) (.k 1000)):=aH
def Rd:F.D [] [x] [.L w0 (.k 800)] (.L (.a (.a w0 z1) z1) (.k 1000)):=aH
def SF:F.D [] [x] [.L w0 (.k 800)] (.L (.a (.a (.a w0 z1) z1) z1) (.k 900)):=aH
def QM:F.D [a] [x] [.L c0 (.m 64 (.s w0 ds)),.L w0 de] (.l v0 (.k 10000)):=aH
def Jt:F.D [] [x] [.L w0 (.k 800)] (.L (.a (.a (.a (.a w0 z1) z1) z1) z2) (.k 900)):=aH
def KT:F.D [a,(a+63)/64,(a+63)%64] [x] [.L c0 (.m 64 (.s w0 ds)),.L w0 de] (.l v1 fe):=aX [.d 1 2 63 (.a v0 kE)] ⟨⟨rfl,rfl⟩,⟨⟩⟩
def Mh:F.D [a] [x] [.L c0 (.m 64 (.s w0 ds)),.L w0 de] (.l v0 cP):=aH
def LR:F.D [a,(((64*(x-21))-((((1+a):Nat):Nat):Int))).toNat] [x] [.T c0 (.k 60),.L mF w0] (.E (.s (.m 64 (.s w0 ds)) (.c (.a n1 v0))) c1):=aX [.t 1 (.s (.m 64 (.s w0 ds)) (.c (.a n1 v0)))] ⟨rfl,⟨⟩⟩
def Px:F.D [a,(((64*(x-21))-((((1+a):Nat):Nat):Int))).toNat] [x] [.T c0 (.k 60),.L mF w0] (.L (.a c1 (.c (.a n1 v0))) (.m 64 (.s w0 ds))):=aX [.t 1 (.s (.m 64 (.s w0 ds)) (.c (.a n1 v0)))] ⟨rfl,⟨⟩⟩
def Lf:F.D [a] [] [.T c0 (.k 60)] (.l (.a n1 v0) fe):=aH
def Ol:F.D [a,b] [] [.e v0 (.a n1 v1)] (.t n0 v0):=aH
def Sy:F.D [a,b] [] [.T c1 (.k 60),.e v0 (.a n1 v1)] (.l v0 fe):=aH
def J6:F.d [] [x] (.L (.a (.a (.a (.a (.a w0 z1) z1) z1) z2) z2) (.a w0 (.k 10))):=aH
def Gb:F.D [] [x,y] [.a (.L cV w0) (.T w0 w1)] (.L Ak w0):=aH
def CO:F.D [a,b,c] [x] [.E c0 (.a rT (.m 4 w0)),.E c1 (.a w0 z1),.o (.e v0 t6) (.e v0 uX),.e v2 cL] (.l (.a (.a v0 n12) (.m 4 v1)) v2):=aH
def MC:F.D [a,b,c] [] [.t v0 (.a v1 n8)] (.o (.t v0 (.a v1 n12)) (.l (.a (.a v1 n12) (.m 4 v2)) v0)):=aH
def JW:F.D [a,b] [] [.t v1 (.a v0 n8)] (.n (.a (.l (.a v0 n8) v1) (.t v1 (.a (.a v0 n8) n4)))):=aH
def GQ:F.d [a] [] (.t (.a v0 n1) (.a v0 n8)):=aH
def Lc:F.d [a] [] (.t v0 (.a v0 n8)):=aH
def FP:F.d [a] [] (.t (.a (.a v0 n2) n1) (.a v0 n8)):=aH
def Rz:F.d [a] [] (.t (.a v0 n2) (.a v0 n8)):=aH
def Ga:F.d [a] [] (.t (.a (.a v0 n4) n1) (.a v0 n8)):=aH
def Me:F.d [a] [] (.t (.a v0 n4) (.a v0 n8)):=aH
def Ng:F.D [a,b,c] [] [.t v0 (.a (.a v1 n8) n4)] (.o (.t v0 (.a v1 n12)) (.l (.a (.a v1 n12) (.m 4 v2)) v0)):=aH
def MB:F.D [a] [] [.l t6 v0,.t v0 (.k 26)] (.o (.e v0 t6) (.o (.e v0 (.k 21)) (.o (.e v0 (.k 22)) (.o (.e v0 (.k 23)) (.o (.e v0 uX) (.e v0 (.k 25))))))):=aH
def QX:F.D [a] [] [.t v0 n3] (.o (.e v0 n0) (.o (.e v0 n1) (.e v0 n2))):=aH
def RM:F.D [(x+1).toNat] [x] [.o (.E w0 z1) (.E w0 z2)] (.E c0 (.a w0 z1)):=aX [.t 0 (.a w0 z1)] ⟨rfl,⟨⟩⟩
def NH:F.D [a] [x] [.L c0 (.m 64 (.s w0 ds))] (.L z1 w0):=aH
def Ju:F.D [a] [x,y] [.L c0 (.m 64 (.s w1 ds)),.o (.E w0 z1) (.E w0 z2),.L w1 de] (.L c0 (.m 64 (.a w0 rT))):=aH
def ME:F.D [a,b,c,d,a/64,a%64] [] [.a (.l (.m 64 v1) v0) (.t v0 (.a (.m 64 v1) cL)),.t v2 v3] (.e v4 v1):=aX [.d 4 5 63 v0] ⟨⟨rfl,rfl⟩,⟨⟩⟩
def Pf:F.D [a,b,c,d] [x] [.L c1 (.m 64 (.s w0 ds)),.l (.a (.m 64 v0) cL) v1,.t v2 v3] (.L (.a (.m 64 c0) jr) (.m 64 (.s w0 ds))):=aH
def NV:F.D [a,b,c,d,max a ((64*b)+64)] [] [.l (.a (.m 64 v1) cL) v0,.t v2 v3] (.e v4 v0):=aX [.M 4 v0 (.a (.m 64 v1) cL)] ⟨rfl,⟨⟩⟩
def Ro:F.D [a,b,c,d] [] [.a (.t (.m 64 v1) (.a (.m 64 v0) cL)) (.t (.m 64 v0) (.a (.m 64 v1) cL)),.t v2 v3] (.e v0 v1):=aH
def KH:F.D [a,b,c,d] [] [.e v1 v0,.t v2 v3] (.a (.t (.m 64 v0) (.a (.m 64 v1) cL)) (.t (.m 64 v1) (.a (.m 64 v0) cL))):=aH
def Ll:F.D [a] [] [.t v0 n2] (.T (.a z0 c0) z2):=aH
def PF:F.D [] [x] [.L w0 (.k 500)] (.L w0 (.k 1000)):=aH
def Kl:F.D [] [x] [.L w0 (.k 500)] (.L (.a w0 z2) (.k 1000)):=aH
def Kc:F.D [a,(a+63)/64,(a+63)%64,((a+63)/64)-1] [] [.t n0 v0] (.t v3 v1):=aX [.d 1 2 63 (.a v0 kE),.s 3 v1 n1] ⟨⟨rfl,rfl⟩,rfl,⟨⟩⟩
def GK:F.D [a,(a+63)/64,(a+63)%64] [] [.l v1 (.k 10)] (.l v0 (.k 10000)):=aX [.d 1 2 63 (.a v0 kE)] ⟨⟨rfl,rfl⟩,⟨⟩⟩
def Kn:F.D [a,b,(b+63)/64,(b+63)%64,((b+63)/64)-1] [] [.t v0 v2,.n (.e v0 v4)] (.l (.a (.m 64 v0) cL) v1):=aX [.d 2 3 63 (.a v1 kE),.s 4 v2 n1] ⟨⟨rfl,rfl⟩,rfl,⟨⟩⟩
def NN:F.D [a,(a+63)/64,(a+63)%64] [] [.l v1 (.k 10)] (.L (.s c1 z0) b7):=aX [.d 1 2 63 (.a v0 kE)] ⟨⟨rfl,rfl⟩,⟨⟩⟩
def Se:F.D [] [x] [.L w0 (.k 400)] (.L w0 (.k 800)):=aH
def J7:F.D [] [x] [.L w0 (.k 400)] (.L (.a w0 (.k 10)) (.k 1000)):=aH
def Gj:F.d [] [x] (.L (.a (.a w0 (.k 10)) z2) (.a w0 (.k 12))):=aH
def GB:F.D [] [x] [.o (.E w0 z0) (.E w0 z1)] (.a (.L mF (.a mF (.m 2 w0))) (.L (.a mF (.m 2 w0)) de)):=aH
def QP:F.D [] [x] [.L z0 w0,.T w0 z2] (.o (.E (.a z1 w0) z1) (.E (.a z1 w0) z2)):=aH
def Qb:F.D [(1+x).toNat] [x] [.L z0 w0] (.E (.a z1 w0) c0):=aX [.t 0 (.a z1 w0)] ⟨rfl,⟨⟩⟩
def Sb:F.D [a] [x] [.L z0 w0,.E (.a z1 w0) c0,.T w0 z2] (.o (.E c0 z1) (.E c0 z2)):=aH
def OB:F.D [a] [] [.t v0 t6] (.l v0 aO):=aH
def Lx:F.D [a,a-1] [] [.t n0 v0] (.e (.a v1 n1) v0):=aX [.s 1 v0 n1] ⟨rfl,⟨⟩⟩
def NG:F.D [((1+(2*x))).toNat] [x] [.o (.E w0 z0) (.E w0 z1)] (.E (.a z1 (.m 2 w0)) c0):=aX [.t 0 (.a z1 (.m 2 w0))] ⟨rfl,⟨⟩⟩
def PQ:F.D [((1+(2*x))).toNat] [x] [.o (.E w0 z0) (.E w0 z1)] (.a (.t n0 v0) (.l v0 n3)):=aX [.t 0 (.a z1 (.m 2 w0))] ⟨rfl,⟨⟩⟩
def NI:F.D [a,b] [] [.a (.t n0 v1) (.l v1 n3),.t v0 v1] (.L (.a z2 (.m 12 c0)) (.k 400)):=aH
def Sg:F.D [a] [] [.a (.t n0 v0) (.l v0 n3)] (.n (.e v0 n0)):=aH
def QH:F.D [a] [] [.a (.t n0 v0) (.l v0 n3)] (.L (.a z2 (.m 12 c0)) (.k 100)):=aH
def PY:F.D [] [x] [.L w0 (.k 100)] (.L w0 (.k 500)):=aH
def Jx:F.d [] [x,y] (.E w0 (.a w1 (.s w0 w1))):=aH
def QJ:F.D [a,(x-y).toNat] [x,y] [.T w0 (.a w1 c0),.L w1 w0] (.t v1 v0):=aX [.t 1 (.s w0 w1)] ⟨rfl,⟨⟩⟩
def JR:F.D [] [x] [.L uW w0] (.L z2 w0):=aH
def MQ:F.D [] [x] [.L z0 w0] (.L z1 (.a w0 z1)):=aH
def O0:F.D [a] [] [.l v0 n8] (.n (.L (.k 15) c0)):=aH
def Sn:F.D [x.toNat,x.toNat/8,x.toNat%8,y.toNat,y.toNat/8,y.toNat%8] [x,y] [.L z0 w0,.L z0 w1,.e v1 v4,.n (.E w1 w0)] (.n (.e v2 v5)):=aX [.t 0 w0,.d 1 2 7 v0,.t 3 w1,.d 4 5 7 v3] ⟨rfl,⟨rfl,rfl⟩,rfl,⟨rfl,rfl⟩,⟨⟩⟩
def PC:F.D [a,a/30,a%30] [] [.t v0 cL] (.n (.t (.k 300) (.a v1 n1))):=aX [.d 1 2 29 v0] ⟨⟨rfl,rfl⟩,⟨⟩⟩
def RX:F.D [x.toNat,x.toNat/8,x.toNat%8] [x,x/8,x%8] [.L z0 w0] (.E w1 c1):=aX [.D 1 2 7 w0,.t 0 w0,.d 1 2 7 v0] ⟨⟨rfl,rfl⟩,rfl,⟨rfl,rfl⟩,⟨⟩⟩
def KL:F.D [x.toNat,x.toNat/8,x.toNat%8] [x,((((x.toNat/8):Nat):Nat):Int)/64,((((x.toNat/8):Nat):Nat):Int)%64] [.T w0 (.k 32)] (.E (.a Ak w1) Ak):=aX [.t 0 w0,.d 1 2 7 v0,.D 1 2 63 c1] ⟨rfl,⟨rfl,rfl⟩,⟨rfl,rfl⟩,⟨⟩⟩
def Re:F.D [x.toNat,x.toNat/8,x.toNat%8] [x,((((x.toNat/8):Nat):Nat):Int)/64,((((x.toNat/8):Nat):Nat):Int)%64] [.T w0 (.k 32)] (.E w2 c1):=aX [.t 0 w0,.d 1 2 7 v0,.D 1 2 63 c1] ⟨rfl,⟨rfl,rfl⟩,⟨rfl,rfl⟩,⟨⟩⟩
def Om:F.d [] [x,x/8,x%8] (.L z0 w2):=aX [.D 1 2 7 w0] ⟨⟨rfl,rfl⟩,⟨⟩⟩
def Oi:F.d [] [x,x/8,x%8] (.L w2 (.k 1000)):=aX [.D 1 2 7 w0] ⟨⟨rfl,rfl⟩,⟨⟩⟩
def Sx:F.D [a] [] [.t v0 (.k 256)] (.T c0 (.k 256)):=aH
def KY:F.D [] [x,y] [.a (.L uW w0) (.T w0 w1),.L w1 de] (.a (.L z0 w0) (.T w0 jr)):=aH
def NA:F.D [] [x,y] [.a (.L uW w0) (.T w0 w1),.L w1 de] (.o (.E w0 uW) (.o (.E w0 Ak) (.o (.E w0 cV) (.o (.E w0 ds) (.o (.E w0 (.k 22)) (.o (.E w0 (.k 23)) (.o (.E w0 mF) (.E w0 (.k 25))))))))):=aH
def MY:F.D [a,b,15-b] [] [.l (.a v0 v1) (.a (.a (.a (.a (.a (.a (.a (.a n0 n1) n1) n1) n1) n1) n1) n1) n1)] (.l v0 v2):=aX [.s 2 (.k 15) v1] ⟨rfl,⟨⟩⟩
def Sh:F.D [a,b,15-b] [] [.l v0 v2] (.l v0 aO):=aX [.s 2 (.k 15) v1] ⟨rfl,⟨⟩⟩
def Nu:F.D [a,b,15-a] [] [.l v0 n8,.l v1 v2] (.n (.T (.s (.k 15) c0) c1)):=aX [.s 2 (.k 15) v0] ⟨rfl,⟨⟩⟩
def L8:F.D [(x-y).toNat] [x,y] [.L w1 w0] (.E c0 (.s w0 w1)):=aX [.t 0 (.s w0 w1)] ⟨rfl,⟨⟩⟩
def Qg:F.D [a,x.toNat,x.toNat/8,x.toNat%8] [x,y] [.E c0 (.s w1 w0),.L w1 de] (.t v2 cL):=aX [.t 1 w0,.d 2 3 7 v1] ⟨rfl,⟨rfl,rfl⟩,⟨⟩⟩
def Mx:F.D [a,a-1] [x,y] [.E c0 (.s w0 w1),.T w1 w0] (.t v1 v0):=aX [.s 1 v0 n1] ⟨rfl,⟨⟩⟩
def LC:F.D [a,a-1] [x,y] [.E c0 (.s w0 w1),.T w1 w0] (.E c1 (.s w0 (.a w1 z1))):=aX [.s 1 v0 n1] ⟨rfl,⟨⟩⟩
def RE:F.D [] [x,y] [.T w0 (.a w1 z1),.n (.E w0 w1)] (.T w0 w1):=aH
def MP:F.D [x.toNat] [x] [.T w0 jr] (.t v0 cL):=aX [.t 0 w0] ⟨rfl,⟨⟩⟩
def PK:F.D [x.toNat] [x] [.L z0 w0] (.E w0 c0):=aX [.t 0 w0] ⟨rfl,⟨⟩⟩
def Ny:F.D [a,b] [] [.n (.t v1 v0),.n (.e v1 v0)] (.t v0 v1):=aH
def Kt:F.D [] [x,y,z,u,v] [.o (.E w0 w2) (.E w0 (.w 3)),.o (.E w1 w2) (.E w1 (.w 3)),.o (.E (.w 4) w2) (.E (.w 4) (.w 3)),.n (.E w0 (.w 4)),.n (.E (.w 4) w1)] (.E w0 w1):=aH
def MO:F.D [a,b,a-b] [] [.e v2 n0] (.l v0 v1):=aX [.s 2 v0 v1] ⟨rfl,⟨⟩⟩
def Mm:F.D [a,b,c,c-b] [] [.t v0 v2,.e v3 n0] (.t v0 v1):=aX [.s 3 v2 v1] ⟨rfl,⟨⟩⟩
def Gu:F.D [a,b,c,b-a] [] [.e v3 (.a v2 n1)] (.t v0 v1):=aX [.s 3 v1 v0] ⟨rfl,⟨⟩⟩
def Gk:F.D [a,b,c,a-b,a-(b+1)] [] [.e v3 (.a v2 n1)] (.e v4 v2):=aX [.s 3 v0 v1,.s 4 v0 (.a v1 n1)] ⟨rfl,rfl,⟨⟩⟩
def Kk:F.D [a,b] [] [.t v0 (.a v1 n1),.n (.e v0 v1)] (.t v0 v1):=aH
def JQ:F.D [a,b] [] [.t v0 v1] (.l v0 v1):=aH
def PE:F.D [a,b,c] [] [.t v0 v2,.e v2 v1] (.l (.a v0 n1) v1):=aH
def Lm:F.D [] [x] [.L z0 w0,.L w0 b7] (.a (.L (.g (.k 9223372036854775808)) w0) (.T w0 (.k 9223372036854775808))):=aH
def KR:F.D [] [x] [.L w0 b7] (.L w0 (.k 1152921504606846975)):=aH
def Qx:F.D [] [x] [.L w0 b7] (.L w0 (.k 16777216)):=aH
def F8:F.D [a,b] [] [.l (.a v0 v1) aO] (.l (.a v0 v1) (.k 16777216)):=aH
def Ma:F.D [a,b] [] [.t (.a (.a v0 (.m 8 v1)) n8) (.k 9000)] (.t (.a v0 cL) (.k 9900)):=aH
def PD:F.D [] [x] [.L z0 w0] (.n (.T w0 z0)):=aH
def Ky:F.D [a,x.toNat] [x] [.t v1 v0] (.T w0 c0):=aX [.t 1 w0] ⟨rfl,⟨⟩⟩
def Sv:F.D [a] [x] [.T w0 z0] (.L (.a w0 c0) c0):=aH
def OF:F.D [a] [x] [.a (.L z0 w0) (.T w0 (.c n0))] (.l v0 n0):=aH
def LX:F.D [a] [x] [.a (.L z0 w0) (.T w0 (.c (.a v0 n1))),.n (.E w0 c0)] (.a (.L z0 w0) (.T w0 c0)):=aH
def KZ:F.D [a,b,c,d,b-c] [] [.e v0 v4,.l v1 v3,.l v3 aO] (.l v0 aO):=aX [.s 4 v1 v2] ⟨rfl,⟨⟩⟩
def Cd:F.D [a] [] [.t v0 fe] (.t v0 (.k 300)):=aH
def Sa:F.D [a,(x-y).toNat] [x,y] [.n (.t v0 v1)] (.L (.s w0 w1) c0):=aX [.t 1 (.s w0 w1)] ⟨rfl,⟨⟩⟩
def QI:F.D [a] [] [.l v0 aO] (.l v0 (.k 1099511627776)):=aH
def NE:F.D [a] [] [.t v0 t6] (.t v0 (.k 30)):=aH
def OX:F.D [a,b,b-a] [] [.l v0 v1,.e v2 n0] (.e v0 v1):=aX [.s 2 v1 v0] ⟨rfl,⟨⟩⟩
def Ka:F.D [a,b,c,d,c-a] [] [.e v4 (.a v3 n1),.t v2 v1] (.t v0 v1):=aX [.s 4 v2 v0] ⟨rfl,⟨⟩⟩
def RS:F.D [a,b,c,b-a] [] [.e v3 (.a v2 n1)] (.l (.a v0 n1) v1):=aX [.s 3 v1 v0] ⟨rfl,⟨⟩⟩
def GV:F.D [a,b] [] [.l (.a v0 n1) v1] (.l v0 v1):=aH
def Pi:F.D [a,b] [] [.t (.a (.a v0 (.m 8 v1)) n8) (.k 9000)] (.t (.a v0 n1) (.k 9900)):=aH
def K0:F.D [a] [] [.l v0 (.a n0 n2)] (.l v0 cP):=aH
def N1:F.D [a,(x-y).toNat] [x,y] [.T (.a w1 c0) w0] (.T z0 (.s c1 c0)):=aX [.t 1 (.s w0 w1)] ⟨rfl,⟨⟩⟩
def MJ:F.D [a,(x-y).toNat] [x,y] [.T (.a w1 c0) w0] (.L (.c (.a v0 n1)) c1):=aX [.t 1 (.s w0 w1)] ⟨rfl,⟨⟩⟩
def Mj:F.d [a] [x] (.E (.a (.a w0 c0) z1) (.a w0 (.a c0 z1))):=aH
def PZ:F.d [a,(x-y).toNat] [x,y] (.E (.s (.s c1 c0) z1) (.s c1 (.a c0 z1))):=aX [.t 1 (.s w0 w1)] ⟨rfl,⟨⟩⟩
def O8:F.D [a,(x-y).toNat] [x,y] [.n (.T (.a w1 c0) w0)] (.L (.s c1 c0) z0):=aX [.t 1 (.s w0 w1)] ⟨rfl,⟨⟩⟩
def JC:F.d [(x-y).toNat] [x,y] (.L (.c n0) c0):=aX [.t 0 (.s w0 w1)] ⟨rfl,⟨⟩⟩
def Ms:F.D [a,b,c] [] [.e v0 v2,.e v2 v1] (.e v0 v1):=aH
def Pg:F.D [a,b] [] [.e v0 (.a v1 n1),.l v0 v1] .f:=aH
def Rk:F.D [a,b] [] [.e v1 v0] (.l v0 v1):=aH
def Lg:F.D [a,b] [] [.e v1 v0] (.e v0 v1):=aH
def N9:F.D [a] [] [.o (.e v0 (.k 15)) (.e v0 n0),.n (.e v0 (.k 15))] (.e v0 n0):=aH
def JY:F.D [a,b,a-b,a-(b+1)] [] [.l (.a v1 n1) v0] (.e v2 (.a v3 n1)):=aX [.s 2 v0 v1,.s 3 v0 (.a v1 n1)] ⟨rfl,rfl,⟨⟩⟩
def Qh:F.D [a,b] [] [.t (.a (.a v0 (.m 2 (.a v1 n1))) n2) (.k 700)] (.t (.a (.a v0 (.m 2 v1)) n3) (.k 700)):=aH
def LD:F.D [a,b] [] [.t (.a (.a v0 (.m 8 (.a v1 n1))) n8) (.k 9000)] (.t (.a (.a v0 (.m 8 v1)) n12) (.k 9000)):=aH
def OK:F.D [a,b,c] [] [.t (.a (.a v0 (.m 2 (.a v2 n1))) n2) (.k 700),.e v1 n1] (.t (.a (.a (.a v0 v1) (.m 2 v2)) n3) (.k 700)):=aH
def Jw:F.D [a,b,c] [] [.t (.a (.a v0 (.m 8 (.a v2 n1))) n8) (.k 9000),.e v1 n1] (.t (.a (.a (.a v0 v1) (.m 8 v2)) n12) (.k 9000)):=aH
def JT:F.D [a,b] [] [.t (.a (.a v0 (.m 2 v1)) n3) (.k 700)] (.t v0 (.k 700)):=aH
def Qf:F.D [a,b,c] [] [.t (.a (.a v0 (.m 2 v2)) n3) (.k 700),.e v1 n1] (.t (.a (.a (.a v0 v1) (.m 2 v2)) n2) (.k 700)):=aH
def Kv:F.D [a,b,c] [] [.t (.a (.a v0 (.m 8 v2)) n12) (.k 9000),.e v1 n3] (.t (.a (.a (.a v0 v1) (.m 8 v2)) n8) (.k 9000)):=aH
def OO:F.D [a,b] [] [.t v0 v1] (.n (.e v0 v1)):=aH
def Lj:F.D [] [x,2^60] [.L mF w0] (.T (.g w1) w0):=aX [.P 1 1152921504606846976] ⟨rfl,⟨⟩⟩
def ML:F.D [] [x,2^60] [.L w0 de] (.T w0 w1):=aX [.P 1 1152921504606846976] ⟨rfl,⟨⟩⟩
def L0:F.D [a,(x-20).toNat] [x] [.t v0 v1] (.T Ak w0):=aX [.t 1 (.s w0 cV)] ⟨rfl,⟨⟩⟩
def L2:F.D [(x-20).toNat,(y-20).toNat] [x,y] [.L cV w0,.T w0 w1] (.t v0 v1):=aX [.t 0 (.s w0 cV),.t 1 (.s w1 cV)] ⟨rfl,rfl,⟨⟩⟩
def NY:F.D [(x-20).toNat] [x,y] [.L cV w0,.T w0 w1] (.E (.a cV c0) w0):=aX [.t 0 (.s w0 cV)] ⟨rfl,⟨⟩⟩
def Kx:F.D [a,b] [2^62] [.t (.a v0 n1) v1,.l v1 cP] (.T c0 w0):=aX [.P 0 4611686018427387904] ⟨rfl,⟨⟩⟩
def OD:F.D [a,b] [2^62] [.t (.a v0 n1) v1,.l v1 cP] (.T (.a c0 z1) w0):=aX [.P 0 4611686018427387904] ⟨rfl,⟨⟩⟩
def GG:F.D [a,b] [2^62] [.t v0 v1,.l v1 fe] (.T c0 w0):=aX [.P 0 4611686018427387904] ⟨rfl,⟨⟩⟩
def Lz:F.D [a,b,c,d,(d+a)/64,(d+a)%64,min (a+b) c,(min (a+b) c)-a] [mi ((c:Int)-(a:Int)) (64-(((((d+a)%64):Nat):Nat):Int))] [.E w0 c1,.t v0 v2] (.e v7 v1):=aX [.d 4 5 63 (.a v3 v0),.iZ 0 (.T (.s c2 c0) (.s jr c5)) (.s c2 c0) (.s jr c5),.m 6 (.a v0 v1) v2,.s 7 v6 v0] ⟨⟨rfl,rfl⟩,⟨(eX ·),(if_neg ·)⟩,rfl,rfl,⟨⟩⟩
def Rv:F.D [a,b,c,d,e,(a+b)/64,(a+b)%64,min ((a+b)%64) c,c-(((a+b)%64)+d)] [mi ((e:Int)-(b:Int)) (64-(((((a+b)%64):Nat):Nat):Int))] [.E w0 c3,.l (.a v1 v3) v4,.e v2 cL] (.e (.a (.a v7 v3) (.v 8)) cL):=aX [.d 5 6 63 (.a v0 v1),.iZ 0 (.T (.s c4 c1) (.s jr (.c v6))) (.s c4 c1) (.s jr (.c v6)),.m 7 v6 v2,.s 8 v2 (.a v6 v3)] ⟨⟨rfl,rfl⟩,⟨(eX ·),(if_neg ·)⟩,rfl,rfl,⟨⟩⟩
def K5:F.D [a,b,c,d,e,f,(a+b)/64,(a+b)%64] [mi ((e:Int)-(b:Int)) (64-(((((a+b)%64):Nat):Nat):Int))] [.E w0 c5,.l (.a v1 v5) v4,.e v2 v5,.e v3 cL] (.l (.a v7 v2) v3):=aX [.d 6 7 63 (.a v0 v1),.iZ 0 (.T (.s c4 c1) (.s jr (.c v7))) (.s c4 c1) (.s jr (.c v7))] ⟨⟨rfl,rfl⟩,⟨(eX ·),(if_neg ·)⟩,⟨⟩⟩
def KQ:F.D [a,b,c,d,e,(a+c)/64,(a+c)%64,b/64,b%64] [mi ((e:Int)-(c:Int)) (64-(((((a+c)%64):Nat):Nat):Int))] [.E w0 c3,.l (.a v2 v3) v4,.n (.a (.l v0 v1) (.t v1 (.a v0 v2))),.n (.e v7 v5)] (.n (.a (.l v0 v1) (.t v1 (.a v0 (.a v2 v3))))):=aX [.d 5 6 63 (.a v0 v2),.iZ 0 (.T (.s c4 c2) (.s jr (.c v6))) (.s c4 c2) (.s jr (.c v6)),.d 7 8 63 v1] ⟨⟨rfl,rfl⟩,⟨(eX ·),(if_neg ·)⟩,⟨rfl,rfl⟩,⟨⟩⟩
def MS:F.D [a,b,c,d,e,f,a/64,a%64,min e (b+f),a-b] [mi ((c:Int)-(a:Int)) (64-((((a%64):Nat):Nat):Int))] [.E w0 c3,.e (.v 8) v2,.l v5 (.k 10000)] (.l (.v 9) aO):=aX [.d 6 7 63 v0,.iZ 0 (.T (.s c2 c0) (.s jr (.c v7))) (.s c2 c0) (.s jr (.c v7)),.m 8 v4 (.a v1 v5),.s 9 v0 v1] ⟨⟨rfl,rfl⟩,⟨(eX ·),(if_neg ·)⟩,rfl,rfl,⟨⟩⟩
def NU:F.D [a,b,c,c/64,c%64] [mi ((b:Int)-(c:Int)) (64-((((c%64):Nat):Nat):Int))] [.E w0 c0,.l (.a v2 v0) v1] (.L c0 (.k 1000000)):=aX [.d 3 4 63 v2,.iZ 0 (.T (.s c1 c2) (.s jr c4)) (.s c1 c2) (.s jr c4)] ⟨⟨rfl,rfl⟩,⟨(eX ·),(if_neg ·)⟩,⟨⟩⟩
def GH:F.D [a,b,c,c/64,c%64] [mi ((b:Int)-(c:Int)) (64-((((c%64):Nat):Nat):Int))] [.E w0 c0,.l (.a v2 v0) v1] (.l v0 aO):=aX [.d 3 4 63 v2,.iZ 0 (.T (.s c1 c2) (.s jr c4)) (.s c1 c2) (.s jr c4)] ⟨⟨rfl,rfl⟩,⟨(eX ·),(if_neg ·)⟩,⟨⟩⟩
def JA:F.D [a,b,c,d,b/64,b%64,a/64,a%64] [mi ((c:Int)-(b:Int)) (64-((((b%64):Nat):Nat):Int))] [.E w0 c3,.t v0 (.a v1 v3),.l v1 v0] (.e v6 v4):=aX [.d 4 5 63 v1,.iZ 0 (.T (.s c2 c1) (.s jr c5)) (.s c2 c1) (.s jr c5),.d 6 7 63 v0] ⟨⟨rfl,rfl⟩,⟨(eX ·),(if_neg ·)⟩,⟨rfl,rfl⟩,⟨⟩⟩
def FQ:F.D [a,b,c,d,a/64,a%64] [mi ((d:Int)-(a:Int)) (64-((((a%64):Nat):Nat):Int))] [.E w0 c1,.e v2 cL] (.l (.a v5 v1) v2):=aX [.d 4 5 63 v0,.iZ 0 (.T (.s c3 c0) (.s jr c5)) (.s c3 c0) (.s jr c5)] ⟨⟨rfl,rfl⟩,⟨(eX ·),(if_neg ·)⟩,⟨⟩⟩
def OQ:F.D [a,b,c,d,a/64,a%64,(a+b)/64,(a+b)%64] [mi ((c:Int)-(a:Int)) (64-((((a%64):Nat):Nat):Int))] [.E w0 c3,.t v1 v3] (.e v6 v4):=aX [.d 4 5 63 v0,.iZ 0 (.T (.s c2 c0) (.s jr c5)) (.s c2 c0) (.s jr c5),.d 6 7 63 (.a v0 v1)] ⟨⟨rfl,rfl⟩,⟨(eX ·),(if_neg ·)⟩,⟨rfl,rfl⟩,⟨⟩⟩
def KX:F.D [a,b,c,d,a/64,a%64,(a+b)/64,(a+b)%64] [mi ((c:Int)-(a:Int)) (64-((((a%64):Nat):Nat):Int))] [.E w0 c3,.t v1 v3] (.e v7 (.a v5 v1)):=aX [.d 4 5 63 v0,.iZ 0 (.T (.s c2 c0) (.s jr c5)) (.s c2 c0) (.s jr c5),.d 6 7 63 (.a v0 v1)] ⟨⟨rfl,rfl⟩,⟨(eX ·),(if_neg ·)⟩,⟨rfl,rfl⟩,⟨⟩⟩
def QF:F.D [a,b] [2^62] [.t v0 v1,.l v1 cP] (.T c0 w0):=aX [.P 0 4611686018427387904] ⟨rfl,⟨⟩⟩
def LA:F.D [a] [2^16] [.t v0 (.k 65536)] (.T c0 w0):=aX [.P 0 65536] ⟨rfl,⟨⟩⟩
def FZ:F.D [] [x,y] [.L cV w0,.T w0 w1,.L w1 de] (.a (.L z0 w0) (.T w0 (.k 32))):=aH
def MV:F.D [] [x,2^60] [.a (.L mF w0) (.L w0 de)] (.T (.g w1) w0):=aX [.P 1 1152921504606846976] ⟨rfl,⟨⟩⟩
def Nt:F.D [] [x,2^60] [.a (.L mF w0) (.L w0 de)] (.T w0 w1):=aX [.P 1 1152921504606846976] ⟨rfl,⟨⟩⟩
def Nc:F.D [] [x,2^60] [.o (.E w0 z1) (.E w0 z2)] (.T (.g w1) (.a w0 z1)):=aX [.P 1 1152921504606846976] ⟨rfl,⟨⟩⟩
def PO:F.D [a] [x,2^60] [.E c0 (.a rT (.m 4 w0)),.o (.e v0 t6) (.e v0 uX)] (.T (.a w0 z1) w1):=aX [.P 1 1152921504606846976] ⟨rfl,⟨⟩⟩
def Pw:F.D [a] [2^62] [.t v0 n4] (.T c0 w0):=aX [.P 0 4611686018427387904] ⟨rfl,⟨⟩⟩
def Mu:F.D [a,(a+63)/64,(a+63)%64] [2^60] [.l v0 (.k 10000)] (.T c1 w0):=aX [.d 1 2 63 (.a v0 kE),.P 0 1152921504606846976] ⟨⟨rfl,rfl⟩,rfl,⟨⟩⟩
def LQ:F.D [a,b,c,d,e,(c+63)/64,(c+63)%64] [x,if b<((c+63)/64) then 1 else 0] [.e v5 (.a v0 v4),.e v3 v4] (.E (.s (.s (.s w0 cV) c0) w1) (.a (.s (.s (.s w0 cV) c5) w1) c3)):=aX [.d 5 6 63 (.a v2 kE),.iZ 1 (.t v1 v5) z1 z0] ⟨⟨rfl,rfl⟩,⟨(eX ·),(if_neg ·)⟩,⟨⟩⟩
def KN:F.D [a,b,a/64,a%64] [x,2^60] [.L (.a c0 c1) (.m 64 (.s w0 ds)),.L w0 de] (.T c2 w1):=aX [.d 2 3 63 v0,.P 1 1152921504606846976] ⟨⟨rfl,rfl⟩,rfl,⟨⟩⟩
def R8:F.D [a,b,((a+b)+63)/64,((a+b)+63)%64] [x,2^60] [.L (.a c0 c1) (.m 64 (.s w0 ds)),.L w0 de] (.T c2 w1):=aX [.d 2 3 63 (.a (.a v0 v1) kE),.P 1 1152921504606846976] ⟨⟨rfl,rfl⟩,rfl,⟨⟩⟩
def Rn:F.D [a] [2^60] [.l v0 fe] (.T c0 w0):=aX [.P 0 1152921504606846976] ⟨rfl,⟨⟩⟩
def Mt:F.D [a,(a+63)/64,(a+63)%64] [2^60] [.l v1 (.k 10)] (.T c1 w0):=aX [.d 1 2 63 (.a v0 kE),.P 0 1152921504606846976] ⟨⟨rfl,rfl⟩,rfl,⟨⟩⟩
def Oa:F.D [] [x,2^60] [.o (.E w0 z0) (.E w0 z1)] (.T (.g w1) (.a z1 (.m 2 w0))):=aX [.P 1 1152921504606846976] ⟨rfl,⟨⟩⟩
def Qu:F.D [] [x,2^60] [.o (.E w0 z0) (.E w0 z1)] (.T (.a z1 (.m 2 w0)) w1):=aX [.P 1 1152921504606846976] ⟨rfl,⟨⟩⟩
def Ke:F.D [x.toNat,x.toNat/8,x.toNat%8] [x,2^62] [.t v1 cL] (.T c1 w1):=aX [.t 0 w0,.d 1 2 7 v0,.P 1 4611686018427387904] ⟨rfl,⟨rfl,rfl⟩,rfl,⟨⟩⟩
def Rc:F.D [a] [x] [.l v0 (.k 16),.L (.g (.k 1000000)) w0,.L w0 (.k 1000000)] (.L (.g (.k 1048576)) w0):=aH
def PW:F.D [a] [x] [.l v0 (.k 16),.L (.g (.k 1000000)) w0,.L w0 (.k 1000000)] (.L w0 (.k 1048576)):=aH
def BE:F.D [] [x,2^62,2^63] [.T w0 w1] (.T w0 w2):=aX [.P 1 4611686018427387904,.P 2 9223372036854775808] ⟨rfl,rfl,⟨⟩⟩
def KM:F.D [] [x,2^63] [.L z0 w0] (.L (.g w1) w0):=aX [.P 1 9223372036854775808] ⟨rfl,⟨⟩⟩
def LT:F.D [a] [2^63] [.l v0 aO] (.T c0 w0):=aX [.P 0 9223372036854775808] ⟨rfl,⟨⟩⟩
end
def nN{b:Type _}{x:b}{C:Prop}(h:none=some x):C:=by cases h
def sN{b:Type _}{x:b}{C:Prop}(h:some x=none):C:=nN h.symm
def fT{C:Prop}(h:false=true):C:=Vp h
def xF{C:Prop}(h:true=false):C:=fT h.symm
def nM{b:Type _}{x:b}{C:Prop}(h:x∈([]:List b)):C:=absurd h WM
def nL{n:Nat}{C:Prop}(h:n<0):C:=absurd h (Nat.not_lt_zero n)
def nC{b:Type _}{x:b}{l:List b}{C:Prop}(h: []=x::l):C:=by cases h
def dI{c:Type _}(f:c->Nat){a b:c}{C:Prop}(h:a=b)(k:(f a).beq (f b)=false):C:=by
 subst h;exact fT (k.symm.trans (Nat.beq_refl _))
def oI{c:Type _}(f:c->Nat){a b:c}{C:Prop}(h:some a=some b)(k:(f a).beq (f b)=false):C:=dI f (eQ h) k
end
section
section
open QC
variable{a b c d e f g m n o p q:Nat}{x y z u v w r s:Int}
def Sz:F.d [] [x] (.E (.s (.g (.s (.g w0) z1)) z1) w0):=aH
def NW:F.D [a,b] [] [.t v0 (.k 256),.t v1 (.k 256)] (.t (.a v0 (.m 256 v1)) (.k 65536)):=aH
def SC:F.D [a,b] [] [.t (.a v0 n1) v1] (.t v0 v1):=aH
def JX:F.D [a,b] [] [.n (.e v1 v0),.n (.e v1 (.a v0 n1)),.n (.e v1 (.a v0 n2)),.n (.e v1 (.a (.a v0 n2) n1))] (.n (.a (.l v0 v1) (.t v1 (.a v0 n4)))):=aH
def Mc:F.D [a,b,c,d,e,f,g] [] [.e (.a v0 (.m 256 v5)) v4,.e (.a v1 (.m 256 v6)) v5,.e (.a v2 (.m 256 v3)) v6] (.e (.a (.a v0 (.m 256 v1)) (.m 65536 (.a v2 (.m 256 v3)))) v4):=aH
def KU:F.D [a,b] [] [.o (.l (.a v1 n4) v0) (.l (.a v0 n4) v1)] (.n (.a (.l v0 v1) (.t v1 (.a v0 n4)))):=aH
def RI:F.D [a,b] [] [.o (.l (.a v1 n4) v0) (.l (.a v0 n4) v1)] (.n (.a (.l v0 (.a v1 n1)) (.t (.a v1 n1) (.a v0 n4)))):=aH
def R7:F.D [a,b] [] [.o (.l (.a v1 n4) v0) (.l (.a v0 n4) v1)] (.n (.a (.l v0 (.a v1 n2)) (.t (.a v1 n2) (.a v0 n4)))):=aH
def QQ:F.D [a,b] [] [.o (.l (.a v1 n4) v0) (.l (.a v0 n4) v1)] (.n (.a (.l v0 (.a (.a v1 n2) n1)) (.t (.a (.a v1 n2) n1) (.a v0 n4)))):=aH
def Oh:F.D [a,b,b-1] [] [.t n0 v1,.l v0 v2] (.l (.a v0 n1) v1):=aX [.s 2 v1 n1] ⟨rfl,⟨⟩⟩
def RU:F.D [a,b,c,x.toNat] [x] [.a (.L z0 w0) (.T w0 (.k 4294967296)),.t v0 v1,.t v0 v2] (.E w0 c3):=aX [.t 3 w0] ⟨rfl,⟨⟩⟩
def MF:F.D [a,b] [x] [.E c0 (.a w0 z1),.E w0 c1] (.e v0 (.a v1 n1)):=aH
def Nl:F.D [a,b,c,(a+b)/64,(a+b)%64,c-b] [] [.T (.s c2 c1) (.s jr c4)] (.l (.a v4 v5) cL):=aX [.d 3 4 63 (.a v0 v1),.s 5 v2 v1] ⟨⟨rfl,rfl⟩,rfl,⟨⟩⟩
def Kj:F.D [a,b,c,(b+a)/64,(b+a)%64,64-((b+a)%64)] [] [.n (.T (.s c2 c0) (.s jr c4))] (.l (.a v0 v5) v2):=aX [.d 3 4 63 (.a v1 v0),.s 5 cL v4] ⟨⟨rfl,rfl⟩,rfl,⟨⟩⟩
def Np:F.D [a,b,a/64,a%64,b-a] [] [.T (.s c1 c0) (.s jr c3)] (.l (.a v3 v4) cL):=aX [.d 2 3 63 v0,.s 4 v1 v0] ⟨⟨rfl,rfl⟩,rfl,⟨⟩⟩
def La:F.D [a,b,a/64,a%64,64-(a%64)] [] [.n (.T (.s c1 c0) (.s jr c3))] (.l (.a v0 v4) v1):=aX [.d 2 3 63 v0,.s 4 cL v3] ⟨⟨rfl,rfl⟩,rfl,⟨⟩⟩
def On:F.D [a,b,c] [x,y] [.a (.L cV w0) (.T w0 w1),.t v0 v1,.t v0 v2] (.L z0 w0):=aH
def Pn:F.D [a,b,c] [x,y] [.a (.L cV w0) (.T w0 w1),.L w1 de,.t v0 v1,.t v0 v2] (.T w0 (.k 32)):=aH
def QB:F.D [a,b,c] [x] [.L uW w0,.t v0 v1,.t v0 v2] (.L z0 w0):=aH
def Ox:F.D [] [x] [.L z0 w0,.L z1 w0] (.L z0 (.s w0 z1)):=aH
def Ra:F.D [a,b,c] [x,y] [.a (.L z0 w0) (.T w0 w1),.a (.L mF w1) (.L w1 de),.t v0 v1,.t v0 v2] (.a (.L z0 (.a (.k 101) w0)) (.T (.a (.k 101) w0) (.k 256))):=aH
def J0:F.D [a,b,c] [x,y,z] [.a (.L z0 w0) (.T w0 w2),.E w1 w2,.t v0 v1,.t v0 v2] (.T w0 w1):=aH
def PX:F.D [a,b,c] [x,y] [.a (.L z0 w0) (.T w0 w1),.a (.L mF w1) (.L w1 de),.t v0 v1,.t v0 v2] (.T w0 b7):=aH
def Kb:F.D [a] [x,y,if x=1 then 3 else 2] [.a (.E c0 (.a rT (.m 4 w0))) (.E w1 w2),.o (.e v0 t6) (.e v0 uX)] (.l v0 aO):=aX [.iZ 2 (.E w0 z1) (.k 3) z2] ⟨⟨(eX ·),(if_neg ·)⟩,⟨⟩⟩
def Ks:F.D [a] [x,y,if x=1 then 3 else 2] [.a (.E c0 (.a rT (.m 4 w0))) (.E w1 w2),.o (.e v0 t6) (.e v0 uX)] (.l (.a v0 (.k 7)) aO):=aX [.iZ 2 (.E w0 z1) (.k 3) z2] ⟨⟨(eX ·),(if_neg ·)⟩,⟨⟩⟩
def Nr:F.D [a,57-a] [x,y,z,if y=1 then 3 else 2] [.a (.E c0 (.a rT (.m 4 w1))) (.E w2 (.w 3)),.E w0 c0,.o (.e v0 t6) (.e v0 uX)] (.E (.s (.k 57) w0) c1):=aX [.iZ 3 (.E w1 z1) (.k 3) z2,.s 1 (.k 57) v0] ⟨⟨(eX ·),(if_neg ·)⟩,rfl,⟨⟩⟩
def Rm:F.D [a,57-a] [x,y,if x=1 then 3 else 2] [.a (.E c0 (.a rT (.m 4 w0))) (.E w1 w2)] (.l v1 aO):=aX [.iZ 2 (.E w0 z1) (.k 3) z2,.s 1 (.k 57) v0] ⟨⟨(eX ·),(if_neg ·)⟩,rfl,⟨⟩⟩
def OV:F.D [a,57-a] [x,y,if x=1 then 3 else 2] [.a (.E c0 (.a rT (.m 4 w0))) (.E w1 w2),.o (.e v0 t6) (.e v0 uX)] (.l (.a (.a v0 (.k 7)) v1) aO):=aX [.iZ 2 (.E w0 z1) (.k 3) z2,.s 1 (.k 57) v0] ⟨⟨(eX ·),(if_neg ·)⟩,rfl,⟨⟩⟩
def R5:F.D [a,((57-(a:Int))).toNat,57-a] [x,y,if x=1 then 3 else 2] [.a (.E c0 (.a rT (.m 4 w0))) (.E w1 w2)] (.e v1 v2):=aX [.iZ 2 (.E w0 z1) (.k 3) z2,.t 1 (.s (.k 57) c0),.s 2 (.k 57) v0] ⟨⟨(eX ·),(if_neg ·)⟩,rfl,rfl,⟨⟩⟩
def Qd:F.D [a,57-a] [x,y,if x=1 then 3 else 2] [.a (.E c0 (.a rT (.m 4 w0))) (.E w1 w2),.o (.e v0 t6) (.e v0 uX)] (.e (.a v0 (.a (.a (.a (.a (.a (.a (.a v1 n1) n1) n1) n1) n1) n1) n1)) cL):=aX [.iZ 2 (.E w0 z1) (.k 3) z2,.s 1 (.k 57) v0] ⟨⟨(eX ·),(if_neg ·)⟩,rfl,⟨⟩⟩
def PU:F.D [a,b,c,max b (a+c),a/64,a%64,((max b (a+c))+63)/64,((max b (a+c))+63)%64,(((max b (a+c))+63)/64)-1,((a+c)+63)/64,((a+c)+63)%64,(((a+c)+63)/64)-(a/64)] [] [.t n0 v3,.t n0 v2,.t v1 (.a v0 v2)] (.a (.l v4 (.v 8)) (.t (.v 8) (.a v4 (.v 11)))):=aX [.M 3 v1 (.a v0 v2),.d 4 5 63 v0,.d 6 7 63 (.a v3 kE),.s 8 v6 n1,.d 9 10 63 (.a (.a v0 v2) kE),.s 11 (.v 9) v4] ⟨rfl,⟨rfl,rfl⟩,⟨rfl,rfl⟩,rfl,⟨rfl,rfl⟩,rfl,⟨⟩⟩
def RH:F.D [a,b,c,max a (b+c)] [] [.t n0 v3,.n (.t v0 (.a v1 v2))] (.t n0 v0):=aX [.M 3 v0 (.a v1 v2)] ⟨rfl,⟨⟩⟩
def LS:F.D [a,b] [2^62] [.T c0 c1,.l v1 fe] (.T c0 w0):=aX [.P 0 4611686018427387904] ⟨rfl,⟨⟩⟩
def Sc:F.D [a,b] [x] [.n (.T (.s (.m 64 (.s w0 ds)) (.c (.a n1 v1))) c0)] (.L (.a c0 (.c (.a n1 v1))) (.m 64 (.s w0 ds))):=aH
def JS:F.D [a,b,c,a-1] [] [.l v3 v2,.l v2 v1] (.l v0 (.a v1 n1)):=aX [.s 3 v0 n1] ⟨rfl,⟨⟩⟩
end
end
set_option genInjectivity true
@[elab_as_elim] def Mw {b:Sort _} {motive:b->Prop} (a:b) (k:∀x,motive x):motive a:=k a
@[elab_as_elim] def KV {b:Sort _} {motive:b->Prop} (a:b) (k:∀x,a=x->motive x):motive a:=k a rfl
def mI{b:Type}{x:b}{l:List b}(i:Nat)(h:l[i]? =some x):x∈l:=VD h
def eK{p q r:Prop}{G:Prop}(h:p/\q/\r)(k:p->q->r->G):G:=by
 obtain⟨b,c,g⟩:=h;exact k b c g
def q8{p q r s:Prop}{G:Prop}(h:p/\q/\r/\s)(k:p->q->r->s->G):G:=by
 obtain⟨b,c,g,j⟩:=h;exact k b c g j
def nj{p q r s t:Prop}{G:Prop}(h:p/\q/\r/\s/\t)(k:p->q->r->s->t->G):G:=by
 obtain⟨b,c,g,j,m⟩:=h;exact k b c g j m
def wP{p q r s t u:Prop}{G:Prop}(h:p/\q/\r/\s/\t/\u)(k:p->q->r->s->t->u->G):G:=by
 obtain⟨b,c,g,j,m,v⟩:=h;exact k b c g j m v
def du{b:Type _}{p:b->Prop}{G:Prop}(h:∃a,p a)(k:∀a,p a->G):G:=by
 obtain⟨a,c⟩:=h;exact k a c
def bp{b:Type _}{p q:b->Prop}{G:Prop}(h:∃a,p a/\q a)(k:∀a,p a->q a->G):G:=by
 obtain⟨a,c,g⟩:=h;exact k a c g
def dQ{b:Type _}{p q r:b->Prop}{G:Prop}(h:∃a,p a/\q a/\r a)(k:∀a,p a->q a->r a->G):G:=by
 obtain⟨a,c,g,j⟩:=h;exact k a c g j
def se{b:Type _}{p q r s:b->Prop}{G:Prop}(h:∃a,p a/\q a/\r a/\s a)(k:∀a,p a->q a->r a->s a->G):G:=by
 obtain⟨a,c,g,j,m⟩:=h;exact k a c g j m
def PV{b:Type _}{p q r s t:b->Prop}{G:Prop}(h:∃a,p a/\q a/\r a/\s a/\t a)(k:∀a,p a->q a->r a->s a->t a->G):G:=by
 obtain⟨a,c,g,j,m,u⟩:=h;exact k a c g j m u
def LB{b:Type _}{p q r s t u:b->Prop}{G:Prop}(h:∃a,p a/\q a/\r a/\s a/\t a/\u a)(k:∀a,p a->q a->r a->s a->t a->u a->G):G:=by
 obtain⟨a,c,g,j,m,v,w⟩:=h;exact k a c g j m v w
def Ru{b:Type _}{p q r s t u v:b->Prop}{G:Prop}(h:∃a,p a/\q a/\r a/\s a/\t a/\u a/\v a)(k:∀a,p a->q a->r a->s a->t a->u a->v a->G):G:=by
 obtain⟨a,c,g,j,m,w,x,y⟩:=h;exact k a c g j m w x y
def eT{c g:Type _}{p:c->g->Prop}{G:Prop}(h:∃a b,p a b)(k:∀a b,p a b->G):G:=by
 obtain⟨a,b,j⟩:=h;exact k a b j
def bW{c g:Type _}{p q:c->g->Prop}{G:Prop}(h:∃a b,p a b/\q a b)(k:∀a b,p a b->q a b->G):G:=by
 obtain⟨a,b,j,m⟩:=h;exact k a b j m
def lC{c g:Type _}{p q r:c->g->Prop}{G:Prop}(h:∃a b,p a b/\q a b/\r a b)(k:∀a b,p a b->q a b->r a b->G):G:=by
 obtain⟨a,b,j,m,s⟩:=h;exact k a b j m s
def Qj{c g:Type _}{p q r s:c->g->Prop}{G:Prop}(h:∃a b,p a b/\q a b/\r a b/\s a b)(k:∀a b,p a b->q a b->r a b->s a b->G):G:=by
 obtain⟨a,b,j,m,u,v⟩:=h;exact k a b j m u v
def Of{c g:Type _}{p q r s t:c->g->Prop}{G:Prop}(h:∃a b,p a b/\q a b/\r a b/\s a b/\t a b)(k:∀a b,p a b->q a b->r a b->s a b->t a b->G):G:=by
 obtain⟨a,b,j,m,u,v,w⟩:=h;exact k a b j m u v w
def cS{g j m:Type _}{p:g->j->m->Prop}{G:Prop}(h:∃a b c,p a b c)(k:∀a b c,p a b c->G):G:=by
 obtain⟨a,b,c,r⟩:=h;exact k a b c r
def DI{g j m:Type _}{p q:g->j->m->Prop}{G:Prop}(h:∃a b c,p a b c/\q a b c)(k:∀a b c,p a b c->q a b c->G):G:=by
 obtain⟨a,b,c,r,s⟩:=h;exact k a b c r s
def uh{g j m:Type _}{p q r:g->j->m->Prop}{G:Prop}(h:∃a b c,p a b c/\q a b c/\r a b c)(k:∀a b c,p a b c->q a b c->r a b c->G):G:=by
 obtain⟨a,b,c,s,u,v⟩:=h;exact k a b c s u v
def qo{g j m:Type _}{p q r s:g->j->m->Prop}{G:Prop}(h:∃a b c,p a b c/\q a b c/\r a b c/\s a b c)(k:∀a b c,p a b c->q a b c->r a b c->s a b c->G):G:=by
 obtain⟨a,b,c,u,v,w,x⟩:=h;exact k a b c u v w x
def HF{g j m:Type _}{p q r s t:g->j->m->Prop}{G:Prop}(h:∃a b c,p a b c/\q a b c/\r a b c/\s a b c/\t a b c)(k:∀a b c,p a b c->q a b c->r a b c->s a b c->t a b c->G):G:=by
 obtain⟨a,b,c,u,v,w,x,y⟩:=h;exact k a b c u v w x y
def H2{g j m:Type _}{p q r s t u:g->j->m->Prop}{G:Prop}(h:∃a b c,p a b c/\q a b c/\r a b c/\s a b c/\t a b c/\u a b c)(k:∀a b c,p a b c->q a b c->r a b c->s a b c->t a b c->u a b c->G):G:=by
 obtain⟨a,b,c,v,w,x,y,z,A⟩:=h;exact k a b c v w x y z A
def H9{g j m:Type _}{p q r s t u v:g->j->m->Prop}{G:Prop}(h:∃a b c,p a b c/\q a b c/\r a b c/\s a b c/\t a b c/\u a b c/\v a b c)(k:∀a b c,p a b c->q a b c->r a b c->s a b c->t a b c->u a b c->v a b c->G):G:=by
 obtain⟨a,b,c,w,x,y,z,A,B,C⟩:=h;exact k a b c w x y z A B C
def iy{g j m r:Type _}{p:g->j->m->r->Prop}{G:Prop}(h:∃a b c d,p a b c d)(k:∀a b c d,p a b c d->G):G:=by
 obtain⟨a,b,c,d,s⟩:=h;exact k a b c d s
def Km{g j m u:Type _}{p q r s:g->j->m->u->Prop}{G:Prop}(h:∃a b c d,p a b c d/\q a b c d/\r a b c d/\s a b c d)(k:∀a b c d,p a b c d->q a b c d->r a b c d->s a b c d->G):G:=by
 obtain⟨a,b,c,d,v,w,x,y⟩:=h;exact k a b c d v w x y
def A9{g j m u:Type _}{p q r s t:g->j->m->u->Prop}{G:Prop}(h:∃a b c d,p a b c d/\q a b c d/\r a b c d/\s a b c d/\t a b c d)(k:∀a b c d,p a b c d->q a b c d->r a b c d->s a b c d->t a b c d->G):G:=by
 obtain⟨a,b,c,d,v,w,x,y,z⟩:=h;exact k a b c d v w x y z
def Uq{g j m v:Type _}{p q r s t u:g->j->m->v->Prop}{G:Prop}(h:∃a b c d,p a b c d/\q a b c d/\r a b c d/\s a b c d/\t a b c d/\u a b c d)(k:∀a b c d,p a b c d->q a b c d->r a b c d->s a b c d->t a b c d->u a b c d->G):G:=by
 obtain⟨a,b,c,d,w,x,y,z,A,B⟩:=h;exact k a b c d w x y z A B
def D7{g j m r s:Type _}{p:g->j->m->r->s->Prop}{G:Prop}(h:∃a b c d e,p a b c d e)(k:∀a b c d e,p a b c d e->G):G:=by
 obtain⟨a,b,c,d,e,u⟩:=h;exact k a b c d e u
def NJ{g j m u v:Type _}{p q r s:g->j->m->u->v->Prop}{G:Prop}(h:∃a b c d e,p a b c d e/\q a b c d e/\r a b c d e/\s a b c d e)(k:∀a b c d e,p a b c d e->q a b c d e->r a b c d e->s a b c d e->G):G:=by
 obtain⟨a,b,c,d,e,w,x,y,z⟩:=h;exact k a b c d e w x y z
inductive V where
 |none|bool (b:Bool)|int (i:Int)|str (s:Str)|bytes (b:List UInt8)|ty (n:String)|bi (n:String)|ref (a:iS)|other
 deriving Inhabited,DecidableEq
noncomputable def er:Value->V
 | .none=>.none| .bool b=>.bool b| .int i _=>.int i| .str s _=>.str s| .bytes b _=>.bytes b.toList
 | .type n=>.ty n| .builtin n=>.bi n| .ref a=>.ref a
 | .ellipsis| .notImplemented| .float .. =>.other
def k8{v:Value}{u:V}(h:er v=u):(match u with| .none=>v=.none| .bool b=>v=.bool b| .int i=>∃t,v=.int i t| .str x=>∃t,v=.str x t| .bytes b=>∃a t,v=.bytes a t/\a.toList=b| .ty n=>v=.type n| .bi n=>v=.builtin n| .ref a=>v=.ref a| .other=>True):=by
 subst h;induction v<;>first|rfl|exact⟨_,rfl⟩|exact⟨_,_,rfl,rfl⟩|trivial
def jL{v:Value}(h:er v=.none):v=.none:=k8 h
def ju{v:Value}{b:Bool}(h:er v=.bool b):v=.bool b:=k8 h
def cv{v:Value}{i:Int}(h:er v=.int i):∃t,v=.int i t:=k8 h
def AV{v:Value}{x:Str}(h:er v=.str x):∃t,v=.str x t:=k8 h
def gm{v:Value}{b:List UInt8}(h:er v=.bytes b):∃a t,v=.bytes a t/\a.toList=b:=k8 h
def bK{v:Value}{a:iS}(h:er v=.ref a):v=.ref a:=k8 h
def C6{v:Value}{n:String}(h:er v=.ty n):v=.type n:=k8 h
noncomputable abbrev Fs:=List (Nat×V)
noncomputable def aC:Fs->Nat->Option V
 | [],_=>none
 |(j,v)::r,i=>if j=i then some v else aC r i
noncomputable def bB:Fs->Nat->V->Fs
 | [],i,v=> [(i,v)]
 |(j,u)::r,i,v=>if j=i then(j,v)::r else(j,u)::bB r i v
def bN(c:Fs)(i j:Nat)(v:V):aC (bB c i v) j=if i=j then some v else aC c j:=by
 induction c with
 |nil=>simp [bB,aC]
 |cons p r g=>
  obtain⟨k,u⟩:=p;rw [bB];by_cases h:k=i
  ·subst h;rw [eX rfl];unfold aC;by_cases b:k=j<;>simp [b]
  ·rw [if_neg h];unfold aC;by_cases b:k=j
   ·subst b;simp [NS h]
   ·rw [if_neg b,g,if_neg b]
inductive AO where
 |list (xs:List V)
 |tuple (xs:List V)
 |idict (f:Int->Option V)
 |sdict (f:Str->Option V)
 |ba (b:List UInt8)
 |inst (C:iS) (fs:Fs)
 |rng (lo hi:Int)
 |fix (o:Obj) (xs:List V)
noncomputable abbrev H:=iS->Option AO
noncomputable def H.put(c:H)(a:iS)(o:AO):H:=λb=>if b=a then some o else c b
def H.put_same(b:H)(a:iS)(o:AO):(b.put a o) a=some o:=eX rfl
def H.put_ne(c:H){a b:iS}(o:AO)(h:b≠a):(c.put a o) b=c b:=if_neg h
noncomputable def AO.isInst:AO->Bool
 | .inst .. =>true
 |_=>false
structure bo where
 prog:Vd
 w:Va
 K:YY
 nm:Nat->Str
 cls:iS->Bool
noncomputable def Enc(c:bo)(h:UT)(d a:iS):AO->Prop
 | .list p=>∃g n,IsL h a g n/\g.toList.map er=p
 | .tuple p=>∃g n,h.get? a=some {cls:=.type "tuple",dict:=none,data:=.seq g n,slots:= #[]}/\g.toList.map er=p
 | .idict f=>∃j,h.DictOf (VI c.prog c.w) a j/\∀k,(UU j k).map er=f k
 | .sdict f=>∃j,h.DictOf (strKind c.prog c.w) a j/\j.length<=1000/\∀k,(UU j k).map er=f k
 | .ba b=>∃r,h.get? a=some {cls:=.type "bytearray",dict:=none,data:=.bytearray r 0,slots:= #[]}/\r.toList=b
 | .inst C x=>h.get? a=some (Wg C d)/\c.cls C=true/\∃(s:Array Xc) (y:Nat) (m:Str->Option Value),h.get? d=some {cls:=.type "dict",data:=.dict s y}/\Xi s/\(∀n,VG s n=m n)/\(∀i,i<300->(m (c.nm i)).map er=aC x i)/\s.size<=x.length
 | .rng lo w=>(∃t u v,IsRange h a lo w 1 t u v)/\ -(2^60)<lo/\lo<2^60/\ -(2^60)<w/\w<2^60
 | .fix o p=>h.get? a=some o/\∃g n,IsL h a g n/\g.toList.map er=p
def Enc.keeps{c:bo}{h h':UT}{d a:iS}{o:AO}(e:Enc c h d a o)(j:∀b ob,h.get? b=some ob->h'.get? b=some ob):Enc c h' d a o:=by
 induction o with
 |list B=>refine bW e λg n x y=>?_;exact⟨g,n,j _ _ x,y⟩
 |tuple B=>refine bW e λg n x y=>?_;exact⟨g,n,j _ _ x,y⟩
 |idict f=>obtain⟨k,⟨o,p,s,w,r⟩,y⟩:=e;exact⟨k,⟨o,p,s,j _ _ w,r⟩,y⟩
 |sdict f=>obtain⟨k,⟨o,p,s,w,r⟩,y⟩:=e;exact⟨k,⟨o,p,s,j _ _ w,r⟩,y⟩
 |ba b=>refine bp e λA x y=>?_;exact⟨A,j _ _ x,y⟩
 |inst C D=>obtain⟨x,y,p,s,m,z,r⟩:=e;exact⟨j _ _ x,y,p,s,m,j _ _ z,r⟩
 |rng lo G=>obtain⟨⟨t,u,v,x⟩,r⟩:=e;exact⟨⟨t,u,v,j _ _ x⟩,r⟩
 |fix o B=>obtain⟨x,g,n,y,z⟩:=e;exact⟨j _ _ x,g,n,j _ _ y,z⟩
def Enc.local{c:bo}{h h':UT}{d a:iS}{o:AO}(e:Enc c h d a o)(j:h'.get? a=h.get? a)(D:o.isInst=true->h'.get? d=h.get? d):Enc c h' d a o:=by
 induction o with
 |list B=>refine bW e λg n x y=>?_;exact⟨g,n,j.trans x,y⟩
 |tuple B=>refine bW e λg n x y=>?_;exact⟨g,n,j.trans x,y⟩
 |idict f=>obtain⟨k,⟨o,p,s,w,r⟩,y⟩:=e;exact⟨k,⟨o,p,s,j.trans w,r⟩,y⟩
 |sdict f=>obtain⟨k,⟨o,p,s,w,r⟩,y⟩:=e;exact⟨k,⟨o,p,s,j.trans w,r⟩,y⟩
 |ba b=>refine bp e λA x y=>?_;exact⟨A,j.trans x,y⟩
 |inst C G=>obtain⟨x,y,p,s,m,z,r⟩:=e;exact⟨j.trans x,y,p,s,m,(D rfl).trans z,r⟩
 |rng lo J=>obtain⟨⟨t,u,v,x⟩,r⟩:=e;exact⟨⟨t,u,v,j.trans x⟩,r⟩
 |fix o B=>obtain⟨x,g,n,y,z⟩:=e;exact⟨j.trans x,g,n,j.trans y,z⟩
def Enc.at{c:bo}{h:UT}{d a:iS}{o:AO}(e:Enc c h d a o):∃ob,h.get? a=some ob:=by
 induction o with
 |list m=>refine bW e λg n x y=>?_;exact⟨_,x⟩
 |tuple m=>refine bW e λg n x y=>?_;exact⟨_,x⟩
 |idict f=>obtain⟨j,⟨o,p,s,k,r⟩,y⟩:=e;exact⟨_,k⟩
 |sdict f=>obtain⟨j,⟨o,p,s,k,r⟩,y⟩:=e;exact⟨_,k⟩
 |ba b=>refine bp e λw x y=>?_;exact⟨_,x⟩
 |inst C z=>obtain⟨x,_⟩:=e;exact⟨_,x⟩
 |rng lo A=>obtain⟨⟨t,u,v,x⟩,r⟩:=e;exact⟨_,x⟩
 |fix o m=>obtain⟨x,_⟩:=e;exact⟨_,x⟩
noncomputable abbrev PH:=iS->Option Obj
structure Lay(c:bo)(pr:PH)(σ:H)(h:UT)(δ:iS->iS):Prop where
 enc:∀a o,σ a=some o->Enc c h (δ a) a o
 off:∀a o,σ a=some o->pr a=none
 priv:∀a C fs,σ a=some (.inst C fs)->pr (δ a)=none/\σ (δ a)=none/\∀a' C' fs',σ a'=some (.inst C' fs')->δ a'=δ a->a'=a
structure I(c:bo)(pr:PH)(σ:H)(h:UT):Prop where
 fz:∀b o,pr b=some o->h.get? b=some o
 kin:∀b o,c.K.lookup b=some o->pr b=some o
 lay:∃δ,Lay c pr σ h δ
theorem I.K{c:bo}{pr:PH}{g:H}{h:UT}(x:I c pr g h):c.K.In h:=λb o e=>x.fz _ _ (x.kin b o e)
def I.lt{c:bo}{pr:PH}{b:H}{h:UT}(x:I c pr b h){a:iS}{o:AO}(e:b a=some o):a<h.objs.size:=by
 obtain⟨j,L⟩:=x.lay;obtain⟨ob,g⟩:=(L.enc a o e).at;exact Nm g
def I.fresh{c:bo}{pr:PH}{b:H}{h:UT}(x:I c pr b h){a:iS}(g:h.objs.size<=a):b a=none:=by
 generalize e:b a=j;induction j with
 |none=>rfl
 |some o=>exact absurd (x.lt e) (Nat.not_lt.mpr g)
def I.prFresh{c:bo}{pr:PH}{b:H}{h:UT}(x:I c pr b h){a:iS}(g:h.objs.size<=a):pr a=none:=by
 generalize e:pr a=j;induction j with
 |none=>rfl
 |some o=>exact absurd (Nm (x.fz _ _ e)) (Nat.not_lt.mpr g)
theorem I.keeps{c:bo}{pr:PH}{g:H}{h h':UT}(x:I c pr g h)(j:∀b o,h.get? b=some o->h'.get? b=some o):I c pr g h':=
 ⟨λb o e=>j _ _ (x.fz b o e),x.kin,let ⟨k,L⟩:=x.lay;⟨k,λa o e=>(L.enc a o e).keeps j,L.off,L.priv⟩⟩
theorem I.push{c:bo}{pr:PH}{b:H}{h:UT}(x:I c pr b h)(o:Obj):I c pr b (h.push o):=x.keeps λJ J e=>sT o e
def I.weaken{c:bo}{pr g:PH}{j:H}{h:UT}(x:I c g j h)(hp:∀b o,pr b=some o->g b=some o)(p:∀b o,c.K.lookup b=some o->pr b=some o):I c pr j h:=by
 have k:∀b,g b=none->pr b=none:=λb e=>by
  generalize q:pr b=r;induction r with
  |none=>rfl
  |some o=>have e:=hp b o q▸e;exact sN e
 obtain⟨s,L⟩:=x.lay;exact⟨λb o e=>x.fz _ _ (hp b o e),p,s,L.enc,λa o e=>k _ (L.off a o e),λa C m e=>⟨k _ (L.priv a C m e).1,(L.priv a C m e).2⟩⟩
set_option tactic.hygienic true in
def I.alloc{c:bo}{pr:PH}{s:H}{h h':UT}{a:iS}{o:AO}(x:I c pr s h)(u:∀b ob,h.get? b=some ob->h'.get? b=some ob)(v:h.objs.size<=a)(e:Enc c h' a a o)(g:o.isInst=false):
  I c pr (s.put a o) h':=by
 refine du x.lay λw L=>?_
 refine⟨λb o e=>u _ _ (x.fz b o e),x.kin,w,λb ob q=>?_,λb ob q=>?_,λb C y q=>?_⟩
 ·unfold H.put at q;split at q
  ·rename_i k;subst k;obtain rfl:=eQ q
   revert g e;cases o<;>intro g e<;>first|(cases g;done)|exact e
  ·exact(L.enc b ob q).keeps u
 ·unfold H.put at q;split at q
  ·rename_i k;subst k;exact x.prFresh v
  ·exact L.off b ob q
 ·unfold H.put at q;split at q
  ·obtain rfl:=eQ q;exact nomatch g
  ·refine eK (L.priv b C y q) λz A B=>?_
   refine⟨z,?_,λD G p j J=>?_⟩
   ·unfold H.put;split
    ·rename_i M;obtain⟨_,_,O,Q,m,r,_⟩:=(L.enc b _ q)
     exact absurd (Nm r) (by exact M▸Nat.not_lt.mpr v)
    ·exact A
   ·unfold H.put at j;split at j
    ·obtain rfl:=eQ j;cases g
    ·exact B D G p j J
set_option tactic.hygienic true in
def I.turn{c:bo}{pr:PH}{r:H}{h h':UT}{a:iS}{g o:AO}(x:I c pr r h)(u:r a=some g)(v:OR a h h')(e:Enc c h' a a o)(k:o.isInst=false)(w:g.isInst=false):
  I c pr (r.put a o) h':=by
 refine du x.lay λA L=>?_
 have m:∀b C j,r b=some (.inst C j)->A b≠a:=λb C j q z=>by
  have:=(L.priv b C j q).2.1;rw [z] at this;have this:=u▸this;cases this
 refine⟨λb o e=>(v.2 b λz=>?_).trans (x.fz b o e),x.kin,A,λb ob q=>?_,λb ob q=>?_,λb C j q=>?_⟩
 ·have:=L.off a _ u;rw [<-z] at this;have this:=e▸this;cases this
 ·unfold H.put at q;split at q
  ·rename_i p;subst p;obtain rfl:=eQ q
   revert k e;cases o<;>intro k e<;>first|(cases k;done)|exact e
  ·rename_i p;refine(L.enc b ob q).local (v.2 b p) λz=>v.2 _ ?_
   cases ob with
   |inst C j=>exact m b C j q
   |_=>cases z
 ·unfold H.put at q;split at q
  ·rename_i p;subst p;exact L.off _ _ u
  ·exact L.off b ob q
 ·unfold H.put at q;split at q
  ·obtain rfl:=eQ q;exact nomatch k
  ·refine eK (L.priv b C j q) λB D G=>?_
   refine⟨B,?_,λJ M y s O=>?_⟩
   ·exact H.put_ne _ _ (m b C j q)▸D
   ·unfold H.put at s;split at s
    ·obtain rfl:=eQ s;exact nomatch k
    ·exact G J M y s O
set_option tactic.hygienic true in
def I.turnI{c:bo}{pr:PH}{A:H}{h:UT}{a:iS}{C:iS}{v:Fs}(x:I c pr A h)(r:A a=some (.inst C v)):
  ∃d,Enc c h d a (.inst C v)/\pr d=none/\∀h' k,OR d h h'->Enc c h' d a (.inst C k)->I c pr (A.put a (.inst C k)) h':=by
 refine du x.lay λM L=>?_
 refine eK (L.priv a C v r) λB s O=>?_
 refine⟨M a,L.enc a _ r,B,λh' k D e=>⟨λb o q=>(D.2 b λz=>?_).trans (x.fz b o q),x.kin,M,λb ob q=>?_,λb ob q=>?_,λb G m q=>?_⟩⟩
 ·rw [z] at q;have q:=B▸q;cases q
 ·unfold H.put at q;split at q
  ·rename_i j;subst j;obtain rfl:=eQ q;exact e
  ·rename_i j;refine(L.enc b ob q).local (D.2 b λz=>?_) λz=>D.2 _ λU=>?_
   ·rw [z] at q;have q:=s▸q;cases q
   ·cases ob with
    |inst G m=>exact j (O b G m q U)
    |_=>cases z
 ·unfold H.put at q;split at q
  ·rename_i j;subst j;exact L.off _ _ r
  ·exact L.off b ob q
 ·unfold H.put at q;split at q
  ·rename_i j;subst j;refine⟨B,?_,λw J g p y=>?_⟩
   ·unfold H.put;split
    ·rename_i z;rw [z] at s;have s:=r▸s;cases s
    ·exact s
   ·unfold H.put at p;split at p
    ·assumption
    ·exact O w J g p y
  ·rename_i j;refine eK (L.priv b G m q) λY u Q=>?_
   refine⟨Y,?_,λw J g p y=>?_⟩
   ·unfold H.put;split
    ·rename_i z;rw [z] at u;have u:=r▸u;cases u
    ·exact u
   ·unfold H.put at p;split at p
    ·rename_i z;subst z;exact Q w C v r y
    ·exact Q w J g p y
noncomputable def IA(c:iS->iS)(a d:iS):iS->Addr:=λb=>if b=a then d else c b
def nk(b:iS->iS)(a d:iS):IA b a d a=d:=eX rfl
def pW(c:iS->iS){a b:iS}(d:iS)(h:b≠a):IA c a d b=c b:=if_neg h
set_option tactic.hygienic true in
def I.allocI{c:bo}{pr:PH}{w:H}{h h':UT}{a d C:iS}{J:Fs}(x:I c pr w h)(M:∀b ob,h.get? b=some ob->h'.get? b=some ob)(O:h.objs.size<=a)(v:h.objs.size<=d)(y:d≠a)(e:Enc c h' d a (.inst C J)):
  I c pr (w.put a (.inst C J)) h':=by
 refine du x.lay λQ L=>?_
 have k:∀b u g,w b=some (.inst u g)->Q b<h.objs.size:=λb u g q=>by
  obtain⟨_,_,es,ep,m,A,_⟩:=L.enc b _ q;exact Nm A
 refine⟨λb o e=>M _ _ (x.fz b o e),x.kin,IA Q a d,λb ob q=>?_,λb ob q=>?_,λb u g q=>?_⟩
 ·unfold H.put at q;split at q
  ·rename_i j;subst j;obtain rfl:=eQ q;rw [nk];exact e
  ·rename_i j;exact pW _ _ j▸(L.enc b ob q).keeps M
 ·unfold H.put at q;split at q
  ·rename_i j;subst j;exact x.prFresh O
  ·exact L.off b ob q
 ·unfold H.put at q;split at q
  ·rename_i j;subst j;rw [nk];refine⟨x.prFresh v,?_,λB D p r s=>?_⟩
   ·exact(H.put_ne _ _ y).trans (x.fresh v)
   ·unfold H.put at r;split at r
    ·assumption
    ·rename_i G;rw [pW _ _ G] at s;exact absurd (k B D p r) (by exact s▸Nat.not_lt.mpr v)
  ·rename_i j;rw [pW _ _ j];refine eK (L.priv b u g q) λU Y r3=>?_
   refine⟨U,?_,λB D p r s=>?_⟩
   ·rw [H.put_ne _ _ λz=>absurd (k b u g q) (by exact z▸Nat.not_lt.mpr O)];exact Y
   ·unfold H.put at r;split at r
    ·rename_i z;subst z;rw [nk] at s;exact absurd (k b u g q) (by exact s▸Nat.not_lt.mpr v)
    ·rename_i z;rw [pW _ _ z] at s;exact r3 B D p r s
set_option genInjectivity false
section
def aU(s b:bS):Prop:=∃h t,b={s with heap:=h,toks:=t}
def aU.refl(s:bS):aU s s:=⟨s.heap,s.toks,rfl⟩
def aU.trans{s c b:bS}(x:aU s c)(y:aU c b):aU s b:=by
 obtain⟨h,t,rfl⟩:=x;obtain⟨g,j,rfl⟩:=y;exact⟨g,j,rfl⟩
def aU.mk'(s:bS)(h:UT)(t:Nat):aU s {s with heap:=h,toks:=t}:=⟨h,t,rfl⟩
def aU.mkH(s:bS)(h:UT):aU s {s with heap:=h}:=⟨h,s.toks,rfl⟩
def aU.mkT(s:bS)(t:Nat):aU s {s with toks:=t}:=⟨s.heap,t,rfl⟩
inductive Ends{α β:Type}(c:bo)(pr:PH)(f:α->β)(Q:β->H->Prop)(s:bS)(v:α)(s':bS):Prop
 |mk (e:aU s s') (σ:H) (q:Q (f v) σ) (X:I c pr σ s'.heap):Ends c pr f Q s v s'
noncomputable abbrev No:Value->bS->Prop:=λJ J=>False
noncomputable def dec:YM->Bool
 | .builtin id _=>Builtin.Bytes.decodersThatHold.contains id
 |_=>false
def lE(b:Ctx):Prop:=dec b.code=false/\∀x∈b.below,dec x.1=false
def bD{u:Type}(M:VX)(A:Bs)(t:Sem u)(Q:u->bS->Prop)(E:Value->bS->Prop)(s:bS):Prop:=
 ∀b p,b.In A->lE b->Sem.wp M b t (λa J c=>Q a c) (λe J c=>E e c) p s
def co(M:VX)(A:Bs)(c:YM)(R:V1->bS->Prop)(s:bS):Prop:=
 ∀b p,b.code=c->b.Below A->lE b->wpCode M b R p s
section
variable{u w:Type}{M:VX}{A:Bs}{E:Value->bS->Prop}{s:bS}
def bD.of{t:Sem u}{Q:u->bS->Prop}(h:tL M A t Q E s):bD M A t Q E s:=λc p b J=>h c p b
def aF{a:u}{Q:u->bS->Prop}(h:Q a s):bD M A (pure a) Q E s:=.of (fS h)
def aJ{t:Sem u}{Q Q':u->bS->Prop}{c:Value->bS->Prop}(h:bD M A t Q E s)(j:∀a s,Q a s->Q' a s)(k:∀e s,E e s->c e s):bD M A t Q' c s:=
 λg p b m=>Sem.wp_mono M g t (λa J s=>j a s) (λe J s=>k e s) p s (h g p b m)
def aA{m:Sem u}{f:u->Sem w}{Q:w->bS->Prop}(h:bD M A m (λa j=>bD M A (f a) Q E j) E s):bD M A (m>>=f) Q E s:=
 λc p b k=>by
  rw [Sem.wp_bind'];exact Sem.wp_mono M c m (λa r j g=>g c r b k) (λJ J J g=>g) p s (h c p b k)
def aD{m:Sem u}{f:u->Sem w}{Q:w->bS->Prop}(h:tL M A m (λa b=>bD M A (f a) Q E b) E s):bD M A (m>>=f) Q E s:=aA (.of h)
def aK{vs:List Value}{m:Sem u}{Q:u->bS->Prop}(h:bD M A m Q E s):bD M A (holding vs m) Q E s:=
 λc p b g=>by rw [Sem.wp_holding];exact h c p b g
def Ax{vs:List Value}{m:Sem u}{Q:u->bS->Prop}(h:bD M A m Q E s):bD M A (m.keep vs) Q E s:=
 λc p b g=>by rw [Sem.wp_keep];exact h c p b g
def aL{pos:Pos}{Q:Unit->bS->Prop}(h:Q () s):bD M A (standAt pos) Q E s:=.of (wpAny_standAt h)
def nW{vs:List Value}{t:Sem Value}{Q:Value->bS->Prop}(h:bD M A t Q E s):bD M A (operate vs t) Q E s:=
 λc p b g=>by rw [Sem.wp_operate];exact h c p b g
def bI{m:Sem u}{k:Value->Sem Unit}{Q:u->bS->Prop}
  (h:bD M A m Q (λe r=>bD M A (k e) (λJ c=>E e c) E r) s):bD M A (m.onRaise k) Q E s:=λg p b v=>by
 rw [Sem.wp_onRaise];exact Sem.wp_mono M g m (λJ J J j=>j) (λe w r j=>j g w b v) p s (h g p b v)
def nH{m:Sem u}{Q:Except Value u->bS->Prop}(h:bD M A m (λa=>Q (.ok a)) (λe=>Q (.error e)) s):
  bD M A m.attempt Q E s:=λc p b g=>by rw [Sem.wp_attempt];exact h c p b g
theorem lE.enter{b:Ctx}(h:lE b){c:YM}(g:dec c=false)(j:Option Value)(p:Pos):lE (b.enter c j p):=
 ⟨g,λx hx=>by
  rcases List.mem_cons.mp hx with rfl|hx
  ·exact h.1
  ·exact h.2 x hx⟩
theorem lE.goto{b:Ctx}(h:lE b){c:YM}(g:dec c=false):lE (b.goto c):=⟨g,h.2⟩
noncomputable abbrev TF(Q:Flow->bS->Prop)(E:Value->bS->Prop):V1->bS->Prop:=λr b=>match r with| .ok f=>Q f b| .error e=>E e b
noncomputable abbrev NB(Q:Value->bS->Prop)(E:Value->bS->Prop):V1->bS->Prop:=λr b=>match r with| .ok (.ret v)=>Q v b| .ok _=>False| .error e=>E e b
def yL{c:YM}{h:Option Value}{Q:Flow->bS->Prop}(j:dec c=false)
  (k:co M (A.mark h) c (TF Q E) s) (b:h≠some byPass:=by intro x;cases x):
  bD M A (run c h) Q E s:=
 λr p g m=>by rw [Sem.wp_run];exact k _ p rfl (g.enter c h p b) (m.enter j h p)
def tQ{c:YM}{Q:Value->bS->Prop}(g:dec c=false)
  (h:co M A c (NB Q E) s):
  bD M A (runValue c) Q E s:=λk p b j=>by rw [Sem.wp_runValue];exact h _ p rfl (b.enter c none p (by intro x;exact nN x)) (j.enter g none p)
def iL{f:Value}{pos:List Value}{b:List (Str×Value)}{Q:Value->bS->Prop}
  (c:co M A (.call f ⟨pos,b⟩) (NB Q E) s):
  bD M A (call f pos b) Q E s:=tQ rfl c
def eF{c:YM}{R g:V1->bS->Prop}(h:co M A c R s)(j:∀r s,R r s->g r s):co M A c g s:=
 λk p m b u=>wpCode_mono j (h k p m b u)
noncomputable abbrev wH(M:VX)(A:Bs)(R:V1->bS->Prop):Fin->bS->Prop:=λfin c=>match fin with| .done f=>R (.ok f) c| .again b=>b.quiet=true/\dec b=false/\co M A b R c
def bz{c:YM}{R:V1->bS->Prop}
  (h:bD M (A.under c) (M.den c) (wH M A R)
   (λe k=>R (.error e) k) s):co M A c R s:=λj p m g r=>by
 rw [wpCode_iff_wp,m];refine Sem.wp_mono M j _ (λfin v k b=>?_) (λJ J J b=>b) p s (h j p (m▸g.in) r);induction fin with
 |done f=>exact b
 |again u=>exact⟨b.1,b.2.2 (j.goto u) v rfl (g.goto u) (r.goto b.2.1)⟩
def zB{Q:List (YM×Pos)->bS->Prop}
  (h:∀st:List (YM×Pos),(∀x∈st,dec x.1=false)->(∀g,A.guards=some g->guardsOf st=g)->Q st s):bD M A stack Q E s:=λc p b j=>by
 refine(h _ (λx hx=>?_) λg k=>by rw [guardsOf_cons];exact b.2.2.2.1 g k:Q ((c.code,p)::c.below) s);rcases List.mem_cons.mp hx with rfl|hx
 ·exact j.1
 ·exact j.2 x hx
end
def Ends.from{u w:Type}{c:bo}{pr:PH}{f:u->w}{Q:w->H->Prop}{s b:bS}{v:u}{g:bS}(z:Ends c pr f Q b v g)(e:aU s b):Ends c pr f Q s v g:=by
 induction z with
 |mk h j q X=>exact⟨e.trans h,j,q,X⟩
def cX{u:Type}{M:VX}{A:Bs}{Q:u->bS->Prop}{E:Value->bS->Prop}{s:bS}{c:Prop} [Decidable c] {t e:Sem u}(h:¬c)(k:tL M A e Q E s):tL M A (if c then t else e) Q E s:=(if_neg h).symm▸k
def yg{u:Type}{M:VX}{A:Bs}{Q:u->bS->Prop}{E:Value->bS->Prop}{s:bS}{c:Prop} [Decidable c] {t e:Sem u}(h:c)(k:tL M A t Q E s):tL M A (if c then t else e) Q E s:=(eX h).symm▸k
def qA{u:Type}{M:VX}{A:Bs}{Q:u->bS->Prop}{E:Value->bS->Prop}{s:bS}{c:Prop} [Decidable c] {t e:Sem u}(h:¬c)(k:bD M A e Q E s):bD M A (if c then t else e) Q E s:=(if_neg h).symm▸k
def pO{u:Type}{M:VX}{A:Bs}{Q:u->bS->Prop}{E:Value->bS->Prop}{s:bS}{c:Prop} [Decidable c] {t e:Sem u}(h:c)(k:bD M A t Q E s):bD M A (if c then t else e) Q E s:=(eX h).symm▸k
def JL{u w:Type}{M:VX}{A:Bs}{Q:u->bS->Prop}{E:Value->bS->Prop}{s:bS}{t e:Sem w}{f:w->Sem u}(h:t=e)(k:tL M A (e>>=f) Q E s):tL M A (t>>=f) Q E s:=h.symm▸k
def FK{u w:Type}{M:VX}{A:Bs}{Q:u->bS->Prop}{E:Value->bS->Prop}{s:bS}{t e:Sem w}{f:w->Sem u}(h:t=e)(k:bD M A (e>>=f) Q E s):bD M A (t>>=f) Q E s:=h.symm▸k
def eW{u w:Type}(c:bo)(A:Bs)(pr:PH)(t:Sem u)(f:u->w)(W:(w->H->Prop)->H->Prop):Prop:=
 ∀(Q:w->H->Prop) (b:H) (s:bS),W Q b->I c pr b s.heap->tL (pR c.prog c.w) A t (Ends c pr f Q s) No s
def bq{u w:Type}(c:bo)(A:Bs)(pr:PH)(t:Sem u)(f:u->w)(W:(w->H->Prop)->H->Prop):Prop:=
 ∀(Q:w->H->Prop) (b:H) (s:bS),W Q b->I c pr b s.heap->bD (pR c.prog c.w) A t (Ends c pr f Q s) No s
section
variable{u w γ ε:Type}{c:bo}{A:Bs}{pr:PH}
def bq.leaf{t:Sem u}{f:u->w}{W:(w->H->Prop)->H->Prop}(h:eW c A pr t f W):bq c A pr t f W:=λQ b s q x=>.of (h Q b s q x)
theorem bq.pure{f:u->w}{v:u}:bq c A pr (Pure.pure v:Sem u) f (λQ b=>Q (f v) b):=
 λJ J s q x=>aF ⟨.refl s,_,q,x⟩
def bq.bind{t:Sem u}{k:u->Sem γ}{f:u->w}{g:γ->ε}{W:(w->H->Prop)->H->Prop}{W2:w->(ε->H->Prop)->H->Prop}
  (p:bq c A pr t f W) (r:∀v,bq c A pr (k v) g (W2 (f v))):bq c A pr (t>>=k) g (λQ h=>W (λb j=>W2 b Q j) h):=
 λQ h s q x=>aA (aJ (p _ h s q x) (λv y z=>by
  obtain⟨e,m,B,C⟩:=z;refine aJ (r v Q m y B C) (λG M D=>?_) λJ J z=>z
  exact D.from e) λJ J z=>z)
def bq.mono{t:Sem u}{f:u->w}{W g:(w->H->Prop)->H->Prop}(h:bq c A pr t f W)(j:∀Q b,g Q b->W Q b):bq c A pr t f g:=
 λQ b s q x=>h Q b s (j Q b q) x
theorem bq.holding{vs:List Value}{t:Sem u}{f:u->w}{W:(w->H->Prop)->H->Prop}(h:bq c A pr t f W):bq c A pr (holding vs t) f W:=
 λQ b s q x=>aK (h Q b s q x)
theorem bq.standAt{pos:Pos}{t:Unit->Sem u}{f:u->w}{W:(w->H->Prop)->H->Prop}(h:bq c A pr (t ()) f W):bq c A pr (standAt pos>>=t) f W:=
 λQ b s q x=>aA (aL (h Q b s q x))
theorem bq.operate{vs:List Value}{t:Sem Value}{W:(V->H->Prop)->H->Prop}(h:bq c A pr t er W):bq c A pr (operate vs t) er W:=
 λQ b s q x=>nW (h Q b s q x)
end
def Fa(env:Env)(b:iS):Prop:=b=env.locals\/∃x,env.cells.lookup x=some b
def n9(env:Env)(pr:PH)(x:Str)(c:Value):Prop:=
 (env.kindOf x=some .local/\∃o b h,pr env.locals=some o/\o.data=.dict b h/\Xi b/\VG b x=some c)\/
 ((env.kindOf x=some .cell\/env.kindOf x=some .free/\(x==("__classdict__" :Str))=false)/\∃g o,env.cells.lookup x=some g/\pr g=some o/\o.data=.cell (some c))
noncomputable def seen(b:OS)(x:Str):Bool:=match b.names.lookup x with
 |some .local=>true
 |some .cell=>true
 |some .free=>x !=("__classdict__" :Str)
 |_=>false
structure fg(c:bo)(env:Env)(vs:List (Option Str))(pr:PH)(m:Fs):Prop where
 fn:env.scope.kind=.function
 nodup:∀(i j:Nat) (x:Str),vs[i]? =some (some x)->vs[j]? =some (some x)->i=j
 loc:∃o es ep,pr env.locals=some o/\o.data=.dict es ep/\Xi es
 cells:∀x cc,env.cells.lookup x=some cc->∃o v,pr cc=some o/\o.data=.cell v
 apart:∀x y cc,env.cells.lookup x=some cc->env.cells.lookup y=some cc->x=y
 apartL:∀x cc,env.cells.lookup x=some cc->cc≠env.locals
 off:∀b,Fa env b->c.K.lookup b=none
 vars:∀(i:Nat) (x:Str) (v:V),vs[i]? =some (some x)->aC m i=some v->seen env.scope x=true->∃pv:Value,er pv=v/\n9 env pr x pv
section
variable{c:bo}{A:Bs}{pr:PH}{env:Env}{vs:List (Option Str)}{m:Fs}
def A8{x:Str}{p:Value}(m:env.scope.kind=.function)(h:n9 env pr x p):eW c A pr (loadName env x) er (λQ g=>Q (er p) g):=by
 intro Q g s q X;rcases h with⟨b,o,r,v,j,k,w,y⟩|⟨b,B,o,u,j,k⟩
 ·exact wpAny_loadName_local m b (⟨o,r,v,X.fz _ _ j,k,w,λJ=>rfl⟩:s.heap.Ns env.locals (VG r)) y ⟨.refl s,g,q,X⟩
 ·rcases b with b|⟨b,z⟩
  ·exact wpAny_loadName_cell m b u ⟨o,X.fz _ _ j,k⟩ ⟨.refl s,g,q,X⟩
  ·exact wpAny_loadName_free m b u ⟨o,X.fz _ _ j,k⟩ ⟨.refl s,g,q,X⟩ z
def xX{i:Nat}{v:V}{x:Str}{pos:Pos}(F:fg c env vs pr m)(h:aC m i=some v)(b:vs[i]? =some (some x))(g:(x==("__debug__" :Str))=false)(j:seen env.scope x=true):
  bq c A pr (eval (.Name x pos) env) er (λQ k=>Q v k):=by
 rw [eval_Name env x pos g];refine bp (F.vars i x v b h j) λs p r=>?_
 exact .standAt (.leaf (p▸A8 F.fn r))
noncomputable def PH.set(pr:PH)(a:iS)(o:Obj):PH:=λb=>if b=a then some o else pr b
def PH.set_same(pr:PH)(a:iS)(o:Obj):pr.set a o a=some o:=eX rfl
def PH.set_ne(pr:PH){a b:iS}(o:Obj)(h:b≠a):pr.set a o b=pr b:=if_neg h
def I.retouch{k:H}{h h':UT}{a:iS}{o p:Obj}(x:I c pr k h)(r:pr a=some o)(w:c.K.lookup a=none)(m:OR a h h')(e:h'.get? a=some p):I c (pr.set a p) k h':=by
 refine du x.lay λs L=>?_
 have u:∀b C g,k b=some (.inst C g)->s b≠a:=λb C g q z=>by have:=(L.priv b C g q).1;rw [z,r] at this;exact sN this
 have v:∀b ob,k b=some ob->b≠a:=λb ob q z=>by have:=L.off b ob q;rw [z,r] at this;exact sN this
 refine⟨λb ob q=>?_,λb ob q=>?_,s,λb ob q=>(L.enc b ob q).local (m.2 b (v b ob q)) λz=>m.2 _ ?_,λb ob q=>?_,λb C g q=>?_⟩
 ·by_cases j:b=a
  ·subst j;rw [PH.set_same] at q;obtain rfl:=eQ q;exact e
  ·rw [PH.set_ne _ _ j] at q;exact(m.2 b j).trans (x.fz b ob q)
 ·by_cases j:b=a
  ·subst j;have q:=w▸q;exact nN q
  ·rw [PH.set_ne _ _ j];exact x.kin b ob q
 ·induction ob with
  |inst C g=>exact u b C g q
  |_=>exact fT z
 ·exact PH.set_ne _ _ (v b ob q)▸L.off b ob q
 ·exact PH.set_ne _ _ (u b C g q)▸L.priv b C g q
def sr{i:Nat}{x:Str}{pv:Value}{σ:H}{s:bS}{C:iS}{Q:Unit->bS->Prop}{E:Value->bS->Prop}(F:fg c env vs pr m)(hx:vs[i]? =some (some x))
  (M:(env.kindOf x=some .local/\C=env.locals)\/(env.kindOf x=some .cell/\env.cells.lookup x=some C)) (X:I c pr σ s.heap)
  (h:∀s' O,aU s s'->I c O σ s'.heap->fg c env vs O (bB m i (er pv))->(∀b,b≠C->O b=pr b)->Q () s'):
  tL (pR c.prog c.w) A (storeName env x pv) Q E s:=by
 have w:∀ {j y},j≠i->vs[j]? =some (some y)->y≠x:=λ{j y} D k e=>by
  subst e;exact D (F.nodup _ _ _ k hx)
 rcases M with⟨M,rfl⟩|⟨M,g⟩
 ·refine uh F.loc λo es ep ho hd hs=>?_
  refine wpAny_storeName_local M ⟨o,es,ep,X.fz _ _ ho,hd,hs,λJ=>rfl⟩ (λh' al U=>?_) (by exact F.fn▸rfl);refine qo al λG Y aa ab u ac aj=>?_
  refine h _ (pr.set env.locals G) (.mk' s _ _) (X.retouch ho (F.off _ (.inl rfl)) U ab) ?_ λb hb=>PH.set_ne _ _ hb
  refine⟨F.fn,F.nodup,⟨G,Y,aa,PH.set_same ..,u,ac⟩,λy cc k=>?_,F.apart,F.apartL,F.off,λj y v k z ae=>?_⟩
  ·refine PH.set_ne _ _ (F.apartL y cc k)▸ ?_;exact F.cells y cc k
  ·rw [bN] at z;by_cases D:i=j
   ·subst D;rw [eX rfl] at z;rw [hx] at k;cases k;exact⟨pv,eQ z,.inl ⟨M,G,Y,aa,PH.set_same ..,u,ac,(aj x).trans (eX rfl)⟩⟩
   ·rw [if_neg D] at z;obtain⟨af,he,ha⟩:=F.vars j y v k z ae;refine⟨af,he,?_⟩;rcases ha with⟨p,oL,eL,eP,B,ag,ao,am⟩|⟨p,cc,oc,g,ah,ai⟩
    ·refine .inl ⟨p,G,Y,aa,PH.set_same ..,u,ac,?_⟩;refine(aj y).trans ((if_neg (w (NS D) k)).trans ?_);have B:=ho▸B;obtain rfl:=eQ B;have ag:=hd▸ag;cases ag;exact am
    ·exact .inr ⟨p,cc,oc,g,by rw [PH.set_ne _ _ (F.apartL y cc g)];exact ah,ai⟩
 ·refine bW (F.cells x C g) λo v0 ho hd=>?_
  refine wpAny_storeName_cell F.fn M g ⟨o,X.fz _ _ ho,hd⟩ λh' an U=>?_
  refine bp an λG ab u=>?_
  refine h _ (pr.set C G) (.mkH s _) (X.retouch ho (F.off _ (.inr ⟨x,g⟩)) U ab) ?_ λb hb=>PH.set_ne _ _ hb
  refine⟨F.fn,F.nodup,?_,λy c2 k=>?_,F.apart,F.apartL,F.off,λj y v k z ae=>?_⟩
  ·refine DI F.loc λoL eL eP hL r=>?_
   exact⟨oL,eL,eP,by rw [PH.set_ne _ _ (NS (F.apartL x C g))];exact hL,r⟩
  ·by_cases e:c2=C
   ·subst e;exact⟨G,_,PH.set_same ..,u⟩
   ·exact PH.set_ne _ _ e▸F.cells y c2 k
  ·rw [bN] at z;by_cases D:i=j
   ·subst D;rw [eX rfl] at z;rw [hx] at k;cases k;exact⟨pv,eQ z,.inr ⟨.inl M,C,G,g,PH.set_same ..,u⟩⟩
   ·rw [if_neg D] at z;obtain⟨af,he,ha⟩:=F.vars j y v k z ae;refine⟨af,he,?_⟩;rcases ha with⟨p,oL,eL,eP,B,r⟩|⟨p,c2,oc,ak,ah,ai⟩
    ·exact .inl ⟨p,oL,eL,eP,by rw [PH.set_ne _ _ (NS (F.apartL x C g))];exact B,r⟩
    ·refine .inr ⟨p,c2,oc,ak,?_,ai⟩;rw [PH.set_ne _ _ λe=>?_]
     ·exact ah
     ·subst e;exact w (NS D) k (F.apart y x c2 ak g)
end
end
mutual
inductive E where
 |k (v:V)
 |v (i:Nat)
 |g (v:V)
 |bin (op:VP) (l r:E)
 |neg (e:E)
 |not (e:E)
 |and2 (l r:E)
 |or2 (l r:E)
 |or3 (l m r:E)
 |cmp (op:VY) (l r:E)
 |cmp2 (o1 o2:VY) (l m r:E)
 |ife (t a b:E)
 |lst (es:Es)
 |tup (es:Es)
 |dct0
 |dct2 (k1 k2:Str) (e1 e2:E)
 |attr (e:E) (i:Nat)
 |sub (o i:E)
 |slc (o lo hi:E)
 |call (f:E) (as:Es)
 |mc (o:E) (i:Nat) (as:Es)
 |comp (elt:E) (ts:List Nat) (it:E) (c:E)
 |compS (i:Nat) (it c:E)
 |dead
inductive Es where
 |nil
 |cons (e:E) (es:Es)
end
inductive T where
 |v (i:Nat)
 |attr (o:E) (i:Nat)
 |sub (o i:E)
 |slc (o lo hi:E)
mutual
inductive S where
 |ex (e:E)
 |asg (t:T) (e:E)
 |asgN (is:List Nat) (e:E)
 |asgT (t u:T) (e:E)
 |augA (o:E) (i:Nat) (op:VP) (e:E)
 |ite (t:E) (a b:Ss)
 |whl (t:E) (b:Ss)
 |forIn (is:List Nat) (it:E) (b:Ss)
 |forEn (i j:Nat) (it:E) (b:Ss)
 |forEn0 (it:E)
 |ret (e:E)
 |ret0
 |brk
 |tr (b:Ss)
 |dead
inductive Ss where
 |nil
 |cons (s:S) (ss:Ss)
end
noncomputable abbrev PT(b:Type):=(b->H->Prop)->H->Prop
noncomputable def fresh(o:AO):PT V:=λQ b=>∀r,b r=none->Q (.ref r) (b.put r o)
def dL(a b:V)(f:Int->Int->Prop):Prop:=match a with
 | .int x=>(match b with| .int y=>f x y|_=>False)
 |_=>False
def Ee{a b:V}{f:Int->Int->Prop}(h:dL a b f):∃x y,a=.int x/\b=.int y/\f x y:=by
 induction a with
 |int x=>induction b with
  |int y=>exact⟨x,y,rfl,rfl,h⟩
  |_=>exact h.elim
 |_=>exact h.elim
def DX{c:Type}{p:Prop} [Decidable p] {a b y:c}{G:Prop}(h:(if p then a else b)=y)(g:p->a=y->G)(j:b=y->G):G:=by
 by_cases e:p
 ·rw [eX e] at h;exact g e h
 ·rw [if_neg e] at h;exact j h
def pU{v:Value}{i:Int}{G:Value->Prop}(h:er v=.int i)(k:∀t,G (.int i t)):G v:=(cv h).elim λt e=>e▸k t
def pX{v:Value}{a:iS}{G:Value->Prop}(h:er v=.ref a)(k:G (.ref a)):G v:=bK h▸k
def dx{v:Value}{b:List UInt8}{G:Value->List UInt8->Prop}(h:er v=.bytes b)(k:∀a t,G (.bytes a t) a.toList):G v b:=by
 refine bW (gm h) λa t c g=>?_;subst c;subst g
 exact k a t
def im{a b:Value}{f:Int->Int->Prop}{G:Value->Value->Prop}(q:dL (er a) (er b) f)(k:∀x y t u,f x y->G (.int x t) (.int y u)):G a b:=by
 refine lC (Ee q) λx y c g z=>?_
 obtain⟨t,rfl⟩:=cv c;obtain⟨u,rfl⟩:=cv g;exact k x y t u z
def HC{u:V}{P:iS->Prop}{C:Prop}(q:match u with| .ref a=>P a|_=>False)(k:∀a,u=.ref a->P a->C):C:=by
 induction u<;>first|exact k _ rfl q|exact q.elim
@[elab_as_elim] def Lw {v:Value} {G:Value->Prop} {P:iS->Prop} (q:match er v with| .ref a=>P a|_=>False) (k:∀a,P a->G (.ref a)):G v:=HC q λa e q=>pX e (k a q)
def Ij{b:Type}{u:V}{f:iS->Option b}{y:b}{C:Prop}(q:(match u with| .ref a=>f a|_=>none)=some y)(k:∀a,u=.ref a->f a=some y->C):C:=by
 induction u<;>first|exact k _ rfl q|exact nN q
def RJ{o:Option AO}{P:iS->Fs->Prop}{C:Prop}(q:match o with|some (.inst c f)=>P c f|_=>False)(k:∀c f,o=some (.inst c f)->P c f->C):C:=by
 induction o with
 |none=>exact q.elim
 |some o=>induction o<;>first|exact k _ _ rfl q|exact q.elim
def Qs{b:Type}{o:Option AO}{f:iS->Fs->Option b}{y:b}{C:Prop}(q:(match o with|some (.inst c g)=>f c g|_=>none)=some y)(k:∀c g,o=some (.inst c g)->f c g=some y->C):C:=by
 induction o with
 |none=>exact nN q
 |some o=>induction o<;>first|exact k _ _ rfl q|exact nN q
def ifO{b:Type}{p:Prop} [Decidable p] {x:Option b}{y:b}{C:Prop}(h:(if p then x else none)=some y)(k:p->x=some y->C):C:=
 if e:p then k e ((eX e).symm.trans h) else nN ((if_neg e).symm.trans h)
def SM{o:Option AO}{P:AO->Prop}{C:Prop}(q:match o with|some a=>P a|none=>False)(k:∀a,o=some a->P a->C):C:=by
 induction o with
 |none=>exact q.elim
 |some a=>exact k a rfl q
def listAt(b:H)(p:iS)(f:List V->Prop):Prop:=match b p with
 |some (.list c)=>f c
 |_=>False
def jE{b:H}{p:iS}{f:List V->Prop}(h:listAt b p f):∃xs,b p=some (.list xs)/\f xs:=by
 unfold listAt at h;generalize e:b p=c;induction c with
 |none=>rw [e] at h;exact h.elim
 |some o=>
  rw [e] at h;induction o<;>first|exact h.elim|exact⟨_,rfl,h⟩
noncomputable def G8(a b:V):PT V:=λQ c=>match a with
 | .int x=>dL (.int x) b λx y=>Q (.int (x+y)) c
 | .bytes x=>(match b with| .bytes y=>x.length+y.length<=1000000/\Q (.bytes (x++y)) c|_=>False)
 | .ref p=>(match b with| .ref q=>listAt c p λg=>listAt c q λh=>g.length+h.length<=1000000/\fresh (.list (g++h)) Q c|_=>False)
 |_=>False
noncomputable def HK(a b:V):PT V:=λQ c=>match a with
 | .int x=>dL (.int x) b λx y=>YZ x y/\Q (.int (x*y)) c
 | .bytes x=>(match b with| .int n=>x≠ []/\x.length<=16/\ -1000000<=n/\n<=1000000/\Q (.bytes (oR n.toNat x).flatten) c|_=>False)
 | .ref p=>(match b with| .int n=>listAt c p λg=>(∃v,g= [v])/\0<=n/\n<=100000/\fresh (.list (oR n.toNat g).flatten) Q c|_=>False)
 |_=>False
noncomputable def qG(g:VP)(a b:V):PT V:=λQ c=>match g with
 | .Add=>G8 a b Q c
 | .Sub=>dL a b λx y=>Q (.int (x-y)) c
 | .Mult=>HK a b Q c
 | .FloorDiv=>dL a b λx y=>y≠0/\Wh x y=false/\Q (.int (x.fdiv y)) c
 | .Mod=>dL a b λx y=>y≠0/\Q (.int (x.fmod y)) c
 | .Pow=>dL a b λx y=>0<=y/\y<=1000/\x.natAbs<2^64/\Q (.int (x^y.toNat)) c
 | .LShift=>dL a b λx y=>0<=y/\y<=1000/\x.natAbs<2^64/\Q (.int (x*2^y.toNat)) c
 | .RShift=>dL a b λx y=>0<=y/\Q (.int (x.fdiv (2^y.toNat))) c
 | .BitAnd=>dL a b λx y=>Q (.int (OP x y)) c
 | .BitOr=>dL a b λx y=>Q (.int (VM x y)) c
 | .BitXor=>dL a b λx y=>Q (.int (Ya x y)) c
 |_=>False
noncomputable def V.isInt:V->Bool
 | .int _=>true
 |_=>false
noncomputable def DD(b:H)(u v:V):Bool:=match u with
 | .none=>(match v with| .none=>true| .ref _=>true|_=>false)
 | .int _=>(match v with| .none=>true|_=>false)
 | .ref p=>(match v with| .none=>true| .ref q=>p==q||((b p).any AO.isInst&&(b q).isSome)|_=>false)
 |_=>false
def Jp(a b:V)(g:H)(P:Bool->Prop):Prop:=match b with
 | .ref q=>(match a with
  | .int x=>(match g q with
   |some (.idict f)=>P (f x).isSome
   |some (.list c)=>c.all V.isInt=true/\c.length<=1000000/\P (decide (V.int x∈c))
   |_=>False)
  |_=>False)
 |_=>False
def OY(a b:V)(h:H)(P:(p:Prop)-> [Decidable p]->Prop):Prop:=match a with
 | .int x=>(match b with
  | .int y=>P (x=y)
  |_=>False)
 | .bytes x=>(match b with
  | .bytes y=>P (x=y)
  |_=>False)
 | .ref p=>(match b with
  | .ref q=>(match h p with
   |some (.list c)=>(match h q with
    |some (.list g)=>c.all V.isInt=true/\g.all V.isInt=true/\c.length<=1000000/\g.length<=1000000/\P (c=g)
    |_=>False)
   |_=>False)
  |_=>False)
 |_=>False
noncomputable def cr(g:VY)(a b:V):PT V:=λQ c=>match g with
 | .Is=>DD c a b=true/\Q (.bool (decide (a=b))) c
 | .IsNot=>DD c a b=true/\Q (.bool (decide (a≠b))) c
 | .In=>Jp a b c λt=>Q (.bool t) c
 | .NotIn=>Jp a b c λt=>Q (.bool (!t)) c
 | .Eq=>OY a b c λp J=>Q (.bool (decide p)) c
 | .NotEq=>OY a b c λp J=>Q (.bool (decide (¬p))) c
 | .Lt=>dL a b λx y=>Q (.bool (decide (x<y))) c
 | .LtE=>dL a b λx y=>Q (.bool (decide (x<=y))) c
 | .Gt=>dL a b λx y=>Q (.bool (decide (x>y))) c
 | .GtE=>dL a b λx y=>Q (.bool (decide (x>=y))) c
noncomputable def bH(v:V):PT Bool:=λQ c=>match v with
 | .bool b=>Q b c
 |_=>False
@[elab_as_elim] def Gz {v:Value} {Q:Bool->H->Prop} {c:H} {G:Value->Prop} (q:bH (er v) Q c) (k:∀b,Q b c->G (.bool b)):G v:=by
 cases v<;>first|exact k _ q|exact q.elim
noncomputable def cM(i:Int)(n:Nat):Nat:=if i<0 then(i+n).toNat else min i.toNat n
noncomputable def mL:V->Nat->Option Nat
 | .none,_=>some 0
 | .int i,n=>some (cM i n)
 |_,_=>none
noncomputable def mP:V->Nat->Option Nat
 | .none,n=>some n
 | .int i,n=>some (cM i n)
 |_,_=>none
noncomputable def dm{c:Type}(xs:List c)(lo g:V):Option (List c):=match mL lo xs.length,mP g xs.length with
 |some a,some b=>some ((xs.take b).drop a)
 |_,_=>none
def rv{b:Type}(o:Option b)(f:b->Prop):Prop:=match o with
 |some v=>f v
 |none=>False
def hH{b:Type}{o:Option b}{f:b->Prop}(q:rv o f):∃v,o=some v/\f v:=by
 induction o with
 |none=>exact q.elim
 |some v=>exact⟨v,rfl,q⟩
noncomputable def g9(o i:V):PT V:=λQ c=>match o,i with
 | .ref a,.int x=>(match c a with
  |some (.list g)=>0<=x/\x<2^62/\rv (g[x.toNat]?) λv=>Q v c
  |some (.tuple g)=>0<=x/\x<2^62/\rv (g[x.toNat]?) λv=>Q v c
  |some (.ba b)=>0<=x/\x<2^62/\rv (b[x.toNat]?) λv=>Q (.int v.toNat) c
  |some (.idict f)=>rv (f x) λv=>Q v c
  |_=>False)
 | .ref a,.str x=>(match c a with
  |some (.sdict f)=>rv (f x) λv=>Q v c
  |_=>False)
 |_,_=>False
noncomputable def jP(o lo h:V):PT V:=λQ c=>match o with
 | .bytes b=>b.length<=1000000/\rv (dm b lo h) λr=>Q (.bytes r) c
 | .ref a=>(match c a with
  |some (.list g)=>g.length<=1000000/\rv (dm g lo h) λr=>fresh (.list r) Q c
  |some (.ba b)=>b.length<=1000000/\rv (dm b lo h) λr=>fresh (.ba r) Q c
  |some (.fix _ g)=>g.length<=1000000/\rv (dm g lo h) λr=>fresh (.list r) Q c
  |_=>False)
 |_=>False
noncomputable def cq(o i v:V):PT Unit:=λQ c=>match o,i with
 | .ref a,.int x=>(match c a with
  |some (.list g)=>0<=x/\x<2^62/\x.toNat<g.length/\Q () (c.put a (.list (g.set x.toNat v)))
  |some (.ba b)=>0<=x/\x<2^62/\x.toNat<b.length/\(match v with
   | .int y=>0<=y/\y<256/\b.length<=1000000/\Q () (c.put a (.ba (b.set x.toNat (Tk y.toNat))))
   |_=>False)
  |some (.idict f)=>0<=x/\x<100000/\(∀k,f k≠none->0<=k/\k<100000)/\Q () (c.put a (.idict λk=>if k=x then some v else f k))
  |_=>False)
 | .ref a,.str x=>(match c a with
  |some (.sdict f)=>(f x).isSome=true/\Q () (c.put a (.sdict λk=>if k=x then some v else f k))
  |_=>False)
 |_,_=>False
noncomputable def jz(o lo g v:V):PT Unit:=λQ c=>match o with
 | .ref a=>(match c a with
  |some (.ba b)=>b.length<=1000000/\(match v,mL lo b.length,mP g b.length with
   | .bytes r,some p,some q=>p<=q/\r.length=q-p/\Q () (c.put a (.ba (b.take p++r++b.drop q)))
   |_,_,_=>False)
  |_=>False)
 |_=>False
noncomputable def V.noBi:V->Bool
 | .bi _=>false
 |_=>true
noncomputable def vv(o:V)(i:Nat):PT V:=λQ b=>match o with
 | .ref a=>(match b a with
  |some (.inst _ c)=>i<100/\(match aC c i with|some v=>v.noBi=true/\Q v b|none=>False)
  |_=>False)
 |_=>False
noncomputable def gN(o:V)(i:Nat)(v:V):PT Unit:=λQ b=>match o with
 | .ref a=>(match b a with
  |some (.inst C c)=>i<100/\c.length<=500/\Q () (b.put a (.inst C (bB c i v)))
  |_=>False)
 |_=>False
noncomputable def zo(b:H):V->Option iS
 | .ref p=>(match b p with|some (.inst C _)=>some C|_=>none)
 |_=>none
noncomputable def jI(b:H)(v:V)(xs:List V):Bool:=match zo b v with
 |some C=>xs.all λu=>zo b u==some C
 |none=>false
noncomputable def octet? :V->Option UInt8
 | .int i=>if 0<=i/\i<256 then some (Tk i.toNat) else YQ
 |_=>YQ
noncomputable def octets? :List V->Option (List UInt8)
 | []=>some []
 |v::r=>match octet? v,octets? r with
  |some b,some c=>some (b::c)
  |_,_=>none
def rz(as:List V)(f:V->Prop):Prop:=match as with
 | [v]=>f v
 |_=>False
def DQ(as:List V)(f:V->V->Prop):Prop:=match as with
 | [v,u]=>f v u
 |_=>False
noncomputable def pJ(v:V):PT V:=λQ c=>match v with
 | .int x=>0<=x/\x<=1000000/\Q (.bytes (oR x.toNat 0)) c
 | .bytes b=>Q (.bytes b) c
 | .ref a=>(match c a with
  |some (.ba b)=>b.length<=1000000/\Q (.bytes b) c
  |some (.list g)=>g.length<=1000000/\(match octets? g with|some b=>Q (.bytes b) c|none=>False)
  |_=>False)
 |_=>False
noncomputable def xc(v:V):PT V:=λQ b=>match v with
 | .ref a=>(match b a with
  |some (.rng lo c)=>c-lo<=100000/\fresh (.list ((oS (c-lo).toNat).map λ(i:Nat)=>V.int (lo+(i:Int)))) Q b
  |some (.list g)=>g.length<=1000000/\fresh (.list g) Q b
  |_=>False)
 |_=>False
noncomputable def yq(v:V):PT V:=λQ b=>match v with
 | .ref a=>(match b a with
  |some (.idict f)=>(∀k,f k≠none->0<=k/\k<100000)/\fresh (.idict f) Q b
  |_=>False)
 |_=>False
noncomputable def zA(n:String)(as:List V):PT V:=λQ c=>
 if n= "bytes" then rz as λv=>pJ v Q c
 else if n= "bytearray" then(match as with| []=>fresh (.ba []) Q c|v::r=>r= []/\(match v with| .bytes b=>b.length<=1000000/\fresh (.ba b) Q c|_=>False))
 else if n= "int" then rz as λv=>(match v with| .bool b=>Q (.int (if b then 1 else 0)) c|_=>False)
 else if n= "list" then rz as λv=>xc v Q c
 else if n= "dict" then rz as λv=>yq v Q c
 else if n= "range" then(match as with
  |v::r=>(match r with
   | []=>(match v with| .int x=> -(2^60)<x/\x<2^60/\fresh (.rng 0 x) Q c|_=>False)
   |u::g=>g= []/\dL v u λx y=> -(2^60)<x/\x<2^60/\ -(2^60)<y/\y<2^60/\fresh (.rng x y) Q c)
  |_=>False)
 else False
noncomputable def j6(v:V):PT V:=λQ c=>match v with
 | .bytes b=>b.length<=1000000/\Q (.int b.length) c
 | .ref a=>(match c a with
  |some (.list g)=>g.length<=1000000/\Q (.int g.length) c
  |some (.ba b)=>b.length<=1000000/\Q (.int b.length) c
  |some (.fix _ g)=>g.length<=1000000/\Q (.int g.length) c
  |_=>False)
 |_=>False
noncomputable def w7(n:String)(as:List V):PT V:=λQ c=>
 if n= "len" then rz as λv=>j6 v Q c
 else if n= "abs" then rz as λv=>(match v with| .int x=>Q (.int (if x<0 then -x else x)) c|_=>False)
 else if n= "min" then DQ as λa b=>dL a b λx y=>Q (.int (if y<x then y else x)) c
 else if n= "max" then DQ as λa b=>dL a b λx y=>Q (.int (if y>x then y else x)) c
 else if n= "isinstance" then DQ as λv t=>t=.ty "int" /\(match v with| .int _=>Q (.bool true) c| .bytes _=>Q (.bool false) c|_=>False)
 else False
noncomputable def g8:Nat:=200
noncomputable def gV:Nat:=201
noncomputable def jt:Nat:=202
noncomputable def wO:Nat:=203
inductive Mk where
 |fn (f:iS)|li|ba|di
noncomputable def Ay(f:Int->Option V)(as:List V):PT V:=λQ b=>match as with
 |v::r=>(match v with
  | .int k=>(match r with
   | []=>Q ((f k).getD .none) b
   |d::c=>(match c with
    | []=>Q ((f k).getD d) b
    |_=>False))
  |_=>False)
 |_=>False
noncomputable def jd(k:Mk)(a:iS)(o:AO)(i:Nat)(as:List V):PT V:=λQ g=>match k with
 | .li=>(match o with
  | .list h=>
   if i=g8 then rz as λv=>h.length<=1000000/\Q .none (g.put a (.list (h++ [v])))
   else if i=gV then rz as λv=>jI g v h=true/\v∈h/\h.length<=1000000/\Q .none (g.put a (.list (h.erase v)))
   else False
  |_=>False)
 | .ba=>(match o with
  | .ba b=>
   if i=jt then rz as λv=>b.length<=1000000/\(match v with
    | .bytes r=>r.length<=1000000/\Q .none (g.put a (.ba (b++r)))
    | .ref c=>(match g c with
     |some (.ba r)=>c≠a/\r.length<=1000000/\Q .none (g.put a (.ba (b++r)))
     |_=>False)
    |_=>False)
   else False
  |_=>False)
 | .di=>(match o with
  | .idict f=>if i=wO then Ay f as Q g else False
  |_=>False)
 |_=>False
structure Cx where
 ok:iS->Bool
 meth:iS->Nat->Option iS
 cls:iS->Bool
 init:iS->Option iS
 cf:Nat->iS->List V->PT V
noncomputable def ki(x:Cx)(n:Nat)(f:V)(as:List V):PT V:=λQ b=>match f with
 | .ty t=>zA t as Q b
 | .bi t=>w7 t as Q b
 | .ref a=>x.ok a=true/\(match x.init a with
  |some i=>∀r,b r=none->x.cf n i (.ref r::as) (λv c=>v=.none/\Q (.ref r) c) (b.put r (.inst a []))
  |none=>x.cf n a as Q b)
 |_=>False
@[elab_as_elim] def CX {x:Cx} {n:Nat} {f:Value} {as:List V} {Q:V->H->Prop} {b:H} {G:Value->Prop} (q:ki x n (er f) as Q b) (c:∀t,zA t as Q b->G (.type t)) (g:∀t,w7 t as Q b->G (.builtin t)) (h:∀a,ki x n (.ref a) as Q b->G (.ref a)):G f:=by
 cases f<;>first|exact c _ q|exact g _ q|exact h _ q|exact q.elim
noncomputable def et(x:Cx)(b:H)(o:V)(i:Nat):Option Mk:=match o with
 | .ref a=>(match b a with
  |some (.inst C c)=>if (aC c i).isNone&&decide (i<300) then(x.meth C i).map Mk.fn else none
  |some (.list _)=>if i=g8\/i=gV then some .li else none
  |some (.ba _)=>if i=jt then some .ba else none
  |some (.idict _)=>if i=wO then some .di else none
  |_=>none)
 |_=>none
noncomputable def Fm(x:Cx)(n:Nat)(o:V)(k:Mk)(i:Nat)(as:List V):PT V:=λQ b=>match k with
 | .fn f=>x.cf n f (o::as) Q b
 |k=>(match o with
  | .ref a=>(match b a with
   |some ob=>jd k a ob i as Q b
   |none=>False)
  |_=>False)
noncomputable def c9(c:H):List Nat->V->Fs->Option Fs
 | [i],v,m=>some (bB m i v)
 |is,v,m=>match v with
  | .ref a=>(match c a with
   |some (.tuple b)=>if b.length=is.length then some ((is.zip b).foldl (λm p=>bB m p.1 p.2) m) else none
   |_=>none)
  |_=>none
inductive wR where
 |list (a:iS)
 |rng (lo hi:Int)
 |set (ys:List Int)
noncomputable def sq(v:V)(b:H):Option wR:=match v with
 | .ref a=>(match b a with
  |some (.list _)=>some (.list a)
  |some (.rng lo c)=>some (.rng lo c)
  |_=>none)
 |_=>none
@[elab_as_elim] def UF {v:Value} {b:H} {k:wR} {G:Value->wR->Prop} (h:sq (er v) b=some k) (g:∀a xs,b a=some (.list xs)->G (.ref a) (.list a)) (j:∀a lo c,b a=some (.rng lo c)->G (.ref a) (.rng lo c)):G v k:=by
 refine Ij h λa e h=>pX (G:=λv=>G v k) e ?_
 cases x:b a with
 |none=>rw [x] at h;exact nN h
 |some o=>rw [x] at h;cases o<;>first|exact nN h|exact eQ h▸g a _ x|exact eQ h▸j a _ _ x
noncomputable def cG(k:wR)(c:H)(i:Nat):Option (Option V):=match k with
 | .list a=>(match c a with
  |some (.list b)=>if b.length<=1000000 then some (b[i]?) else none
  |_=>none)
 | .rng lo g=>some (if lo+(i:Int)<g then some (.int (lo+i)) else none)
 | .set h=>some ((h[i]?).map V.int)
noncomputable def iO(k:wR)(bind:H->V->Option Fs)(test:Fs->PT Bool)(h:Fs->PT V):PT V:=λQ c=>
 ∀I:Nat->List V->H->Prop,
  (∀i g c,(match cG k c i with
   |some (some u)=>(match bind c u with
    |some j=>test j (λb c=>if b then h j (λw c=>g.length<=1000000/\I (i+1) (g++ [w]) c) c else I (i+1) g c) c
    |none=>False)
   |some none=>fresh (.list g) Q c
   |none=>False)->I i g c)->I 0 [] c
noncomputable def gS(m:Fs)(b:List Nat):Bool:=b.all λt=>(aC m t).isNone
mutual
noncomputable def xE(x:Cx)(n:Nat)(m:Fs):E->PT V
 | .k v,Q,g=>Q v g
 | .g v,Q,g=>Q v g
 | .v i,Q,g=>(match aC m i with|some v=>Q v g|none=>False)
 | .bin s l r,Q,g=>xE x n m l (λa g=>xE x n m r (λb g=>qG s a b Q g) g) g
 | .neg e,Q,g=>xE x n m e (λa g=>match a with| .int i=>Q (.int (-i)) g|_=>False) g
 | .not e,Q,g=>xE x n m e (λv g=>bH v (λb g=>Q (.bool (!b)) g) g) g
 | .and2 l r,Q,g=>xE x n m l (λa g=>match a with| .bool true=>xE x n m r Q g| .bool false=>Q (.bool false) g|_=>False) g
 | .or2 l r,Q,g=>xE x n m l (λa g=>match a with| .bool false=>xE x n m r Q g| .bool true=>Q (.bool true) g|_=>False) g
 | .or3 _ _ _,_,_=>False
 | .cmp s l r,Q,g=>xE x n m l (λa g=>xE x n m r (λb g=>cr s a b Q g) g) g
 | .cmp2 G M l k r,Q,g=>xE x n m l (λa g=>xE x n m k (λb g=>cr G a b (λv g=>bH v (λt g=>if t then xE x n m r (λd g=>cr M b d Q g) g else Q (.bool false) g) g) g) g) g
 | .ife t a b,Q,g=>xT x n m t (λc g=>if c then xE x n m a Q g else xE x n m b Q g) g
 | .lst w,Q,g=>lf x n m w (λh g=>h.length<=1000/\fresh (.list h) Q g) g
 | .tup w,Q,g=>lf x n m w (λh g=>h.length<=1000/\fresh (.tuple h) Q g) g
 | .dct0,Q,g=>fresh (.idict λJ=>none) Q g
 | .dct2 O U Y e2,Q,g=>xE x n m Y (λa g=>xE x n m e2 (λb g=>fresh (.sdict λk=>if k=O then some a else if k=U then some b else none) Q g) g) g
 | .attr e i,Q,g=>xE x n m e (λa g=>vv a i Q g) g
 | .sub o i,Q,g=>xE x n m o (λa g=>xE x n m i (λb g=>g9 a b Q g) g) g
 | .slc o lo hi,Q,g=>xE x n m o (λa g=>xE x n m lo (λb g=>xE x n m hi (λc g=>jP a b c Q g) g) g) g
 | .call f y,Q,g=>xE x n m f (λf g=>lf x n m y (λh g=>ki x n f h Q g) g) g
 | .mc o i y,Q,g=>xE x n m o (λa g=>match et x g a i with|some k=>lf x n m y (λh g=>Fm x n a k i h Q g) g|none=>False) g
 | .comp A D B c,Q,g=>gS m D=true/\xE x n m B (λv g=>match sq v g with
   |some k=>iO k (λg u=>c9 g D u m) (λj=>xT x n j c) (λj=>xE x n j A) Q g
   |none=>False) g
 | .compS i B c,Q,g=>gS m [i]=true/\xE x n m B (λv g=>match v with
   | .ref a=>(match g a with
    |some (.list p)=>p.all V.isInt=true/\p.length<=1000/\(∀z,V.int z∈p->0<=z/\z<64)/\(∃a b:Int,∀z,V.int z∈p->z=a\/z=b)/\∀C:List Int,C.Nodup->(∀z,z∈C↔V.int z∈p)->
      iO (.set C) (λJ u=>some (bB m i u)) (λj=>xT x n j c) (λj Q g=>match aC j i with|some v=>Q v g|none=>False) Q g
    |_=>False)
   |_=>False) g
 | .dead,_,_=>False
noncomputable def xT(x:Cx)(n:Nat)(m:Fs):E->PT Bool
 | .not e,Q,c=>xT x n m e (λb c=>Q (!b) c) c
 | .and2 l r,Q,c=>xT x n m l (λb c=>if b then xT x n m r Q c else Q false c) c
 | .or2 l r,Q,c=>xT x n m l (λb c=>if b then Q true c else xT x n m r Q c) c
 | .or3 l k r,Q,c=>xT x n m l (λb c=>if b then Q true c else xT x n m k (λb c=>if b then Q true c else xT x n m r Q c) c) c
 | .cmp j l r,Q,c=>xE x n m l (λa c=>xE x n m r (λb c=>cr j a b (λv c=>bH v Q c) c) c) c
 | .cmp2 p s l k r,Q,c=>xE x n m l (λa c=>xE x n m k (λb c=>cr p a b (λv c=>bH v (λt c=>if t then xE x n m r (λd c=>cr s b d (λv c=>bH v Q c) c) c else Q false c) c) c) c) c
 | .k v,Q,c=>bH v Q c
 | .v i,Q,c=>(match aC m i with|some v=>bH v Q c|none=>False)
 | .attr e i,Q,c=>xE x n m e (λa c=>vv a i (λv c=>bH v Q c) c) c
 | .call f g,Q,c=>xE x n m f (λf c=>lf x n m g (λh c=>ki x n f h (λv c=>bH v Q c) c) c) c
 | .mc o i g,Q,c=>xE x n m o (λa c=>match et x c a i with|some k=>lf x n m g (λh c=>Fm x n a k i h (λv c=>bH v Q c) c) c|none=>False) c
 |_,_,_=>False
noncomputable def lf(x:Cx)(n:Nat)(m:Fs):Es->PT (List V)
 | .nil,Q,b=>Q [] b
 | .cons e c,Q,b=>xE x n m e (λv b=>lf x n m c (λg b=>Q (v::g) b) b) b
end
noncomputable def V.noRef:V->Bool
 | .ref _=>false
 |_=>true
noncomputable def LY(g:VP)(a b:V):PT V:=λQ c=>match g with
 | .Add=>dL a b λx y=>Q (.int (x+y)) c
 | .Sub=>dL a b λx y=>Q (.int (x-y)) c
 |_=>False
inductive Fl where
 |next|brk|ret (v:V)
noncomputable abbrev PS(b:Type):=(b->Fs->H->Prop)->Fs->H->Prop
noncomputable def qr(k:wR)(bind:H->V->Fs->Option Fs)(c:PS Fl):PS Fl:=λQ m b=>
 ∀I:Nat->Fs->H->Prop,
  (∀i m b,(match cG k b i with
   |some (some u)=>(match bind b u m with
    |some g=>c (λf m b=>match f with| .next=>I (i+1) m b| .brk=>Q .next m b| .ret v=>Q (.ret v) m b) g b
    |none=>False)
   |some none=>Q .next m b
   |none=>False)->I i m b)->I 0 m b
noncomputable def sL(a:iS)(p q:Nat)(c:PS Fl):PS Fl:=λQ m b=>
 ∀I:Nat->Fs->H->Prop,
  (∀i m b,(match cG (.list a) b i with
   |some (some u)=>c (λf m b=>match f with| .next=>I (i+1) m b| .brk=>Q .next m b| .ret v=>Q (.ret v) m b) (bB (bB m p (.int i)) q u) b
   |some none=>Q .next m b
   |none=>False)->I i m b)->I 0 m b
noncomputable def Dx(x:Cx)(n:Nat):T->V->PS Unit
 | .v i,v,Q,m,g=>Q () (bB m i v) g
 | .attr o i,v,Q,m,g=>xE x n m o (λa g=>gN a i v (λJ g=>Q () m g) g) g
 | .sub o i,v,Q,m,g=>xE x n m o (λa g=>xE x n m i (λb g=>cq a b v (λJ g=>Q () m g) g) g) g
 | .slc o lo h,v,Q,m,g=>xE x n m o (λa g=>xE x n m lo (λb g=>xE x n m h (λc g=>jz a b c v (λJ g=>Q () m g) g) g) g) g
mutual
noncomputable def xS(x:Cx)(n:Nat):S->PS Fl
 | .ex e,Q,m,g=>xE x n m e (λv g=>v.noRef=true/\Q .next m g) g
 | .asg t e,Q,m,g=>xE x n m e (λv g=>Dx x n t v (λJ m g=>Q .next m g) m g) g
 | .asgN j e,Q,m,g=>xE x n m e (λv g=>match c9 g j v m with|some r=>Q .next r g|none=>False) g
 | .asgT t u e,Q,m,g=>xE x n m e (λv g=>match v with
  | .ref a=>(match g a with
   |some (.tuple [p,q])=>Dx x n t p (λJ m g=>Dx x n u q (λJ m g=>Q .next m g) m g) m g
   |_=>False)
  |_=>False) g
 | .augA o i s e,Q,m,g=>xE x n m o (λa g=>vv a i (λu g=>xE x n m e (λv g=>LY s u v (λw g=>gN a i w (λJ g=>Q .next m g) g) g) g) g) g
 | .ite t a b,Q,m,g=>xT x n m t (λc g=>if c then aZ x n a Q m g else aZ x n b Q m g) g
 | .whl t b,Q,m,g=>∀I:Fs->H->Prop,
   (∀m g,xT x n m t (λc g=>if c then aZ x n b (λf m g=>match f with| .next=>I m g| .brk=>Q .next m g| .ret v=>Q (.ret v) m g) m g else Q .next m g) g->I m g)->I m g
 | .forIn j h b,Q,m,g=>xE x n m h (λv g=>match sq v g with
   |some k=>qr k (λg u m=>c9 g j u m) (aZ x n b) Q m g
   |none=>False) g
 | .forEn p q h b,Q,m,g=>xE x n m h (λv g=>match v with
   | .ref a=>(match g a with
    |some (.list _)=>sL a p q (aZ x n b) Q m g
    |_=>False)
   |_=>False) g
 | .forEn0 h,Q,m,g=>xE x n m h (λv g=>match v with
   | .ref a=>(match g a with
    |some (.list [])=>Q .next m g
    |_=>False)
   |_=>False) g
 | .ret e,Q,m,g=>xE x n m e (λv g=>Q (.ret v) m g) g
 | .ret0,Q,m,g=>Q (.ret .none) m g
 | .brk,Q,m,g=>Q .brk m g
 | .tr b,Q,m,g=>aZ x n b Q m g
 | .dead,_,_,_=>False
noncomputable def aZ(x:Cx)(n:Nat):Ss->PS Fl
 | .nil,Q,m,b=>Q .next m b
 | .cons s c,Q,m,b=>xS x n s (λf m b=>match f with| .next=>aZ x n c Q m b| .brk=>Q .brk m b| .ret v=>Q (.ret v) m b) m b
end
section
section
variable{c:bo}{A:Bs}{pr:PH}
def I.at{b:H}{h:UT}{a:iS}{o:AO}(x:I c pr b h)(e:b a=some o):∃d,Enc c h d a o:=let ⟨g,L⟩:=x.lay;⟨g a,L.enc a o e⟩
theorem I.list{b:H}{h:UT}{a:iS}{xs:List V}(x:I c pr b h)(e:b a=some (.list xs)):∃items n,IsL h a items n/\items.toList.map er=xs:=let ⟨_,z⟩:=x.at e;z
def I.fixed{b:H}{h:UT}{a:iS}{o:Obj}{xs:List V}(x:I c pr b h)(e:b a=some (.fix o xs)):h.get? a=some o/\∃items n,IsL h a items n/\items.toList.map er=xs:=let ⟨_,z⟩:=x.at e;z
def I.new{b:H}{h:UT}{o:AO}{ob:Obj}(x:I c pr b h)(e:Enc c (h.push ob) h.objs.size h.objs.size o)(g:o.isInst=false):I c pr (b.put h.objs.size o) (h.push ob):=
 x.alloc (λJ J e=>sT _ e) (oP _) e g
def c8{b:H}{h:UT}{o:AO}{Q:V->H->Prop}(x:I c pr b h)(q:fresh o Q b):Q (.ref h.objs.size) (b.put h.objs.size o):=q _ (x.fresh (oP _))
def vI(h:UT)(items:Array Value)(d:iS):Enc c (h.push {cls:=.type "list",data:=.seq items}) d h.objs.size (.list (items.toList.map er)):=⟨items,0,abg h items,rfl⟩
theorem wq(y:Value):∀(n:Nat) (c:Array Value),(oR n #[y]).foldl (λa b=>a++b) c=c++(oR n y).toArray
 |0,c=>by rfl
 |n+1,c=>by
  rw [Zm,VV,wq y n,Zm];apply Array.toList_inj.mp;simp [-YR]
def Ag{prog:Vd}{w:Va}{E:Value->bS->Prop}{s:bS}{l:iS}{y:Value}{k:Nat}{x:Int}{u:Tok}{Q:Value->bS->Prop}(b:IsL s.heap l #[y] k)(g:0<=x)(c:x<=100000)
  (q:Q (.ref s.heap.objs.size) {s with heap:=s.heap.push {cls:=.type "list",data:=.seq (oR x.toNat y).toArray}}):tL (pR prog w) A (WK .Mult (.ref l) (.int x u)) Q E s:=by
 have e:List.foldl (λh j=>h++j) #[] (oR (if (#[y]:Array Value).isEmpty=true then 0 else x.toNat) #[y])=(oR x.toNat y).toArray:=by
  rw [if_neg (by simp),wq];simp
 exact wpAny_binaryOp_repeat_ref (T:= "list") (U:= "int") (by decide) ⟨_,b,rfl⟩ (λm=>Y1 m x u) noFill_list_mul F.fills_int_mul F.slot_int_rmul repeat_list F.slot_int_index.lookup
  (aaK F.slot_int_rmul (Y1 s x u) F.entry_int_rmul (F.args_int_rmul_2 _ _) (int___rmul___int_list x u l #[y] k)
   ⟨b,rfl,⟨_,b,rfl⟩,aaK F.slot_list_mul ⟨_,b,rfl⟩ F.entry_list_mul (F.args_list_mul_2 _ _)
    (AutoListH.list___mul___list_int_3 l #[y] k x u (by simp [abD];exact Lm g c) (by simp;exact KR c) (by simp [abE,Yj];exact Qx c))
    ⟨b,by exact e▸q⟩⟩)
def Fg{a b:Value}{c:H}{Q:V->H->Prop}{G:Value->Value->Prop}(q:G8 (er a) (er b) Q c)(k:∀x y t u,Q (.int (x+y)) c->G (.int x t) (.int y u))
  (m:∀x y t u,x.toList.length+y.toList.length<=1000000->Q (.bytes (x.toList++y.toList)) c->G (.bytes x t) (.bytes y u))
  (s:∀p r xs ys,c p=some (.list xs)->c r=some (.list ys)->xs.length+ys.length<=1000000->fresh (.list (xs++ys)) Q c->G (.ref p) (.ref r)):G a b:=by
 generalize g:er a=w;induction w with
 |int x=>
  rw [g] at q;exact im (G:=λA b=>A=a->G a b) (g▸q:dL (er a) (er b) λx y=>Q (.int (x+y)) c) (λx y t u z e=>e▸k x y t u z) rfl
 |bytes x=>cases h:er b with
  |bytes y=>
   rw [g,h] at q;exact dx (G:=λv x=>x.length+y.length<=1000000/\Q (.bytes (x++y)) c->G v b) g (λj t=>dx (G:=λv y=>j.toList.length+y.length<=1000000/\Q (.bytes (j.toList++y)) c->G (.bytes j t) v) h λB u z=>m j B t u z.1 z.2) q
  |_=>rw [g,h] at q;exact q.elim
 |ref x=>cases h:er b with
  |ref y=>
   rw [g,h] at q;rw [bK g,bK h];refine bp (jE q) λxs C q=>?_
   refine bp (jE q) λys D q=>?_
   exact s x y xs ys C D q.1 q.2
  |_=>rw [g,h] at q;exact q.elim
 |_=>rw [g] at q;exact q.elim
def EV(a b:Value):eW c A pr (WK .Add a b) er (G8 (er a) (er b)):=by
 intro Q j s q X;refine Fg (G:=λa b=>tL _ A (WK .Add a b) _ _ s) q (λx y t u q=>P.add_int ⟨.mkT s _,j,q,X⟩) (λx y t u m q=>KBy.add_bytes (F8 m) λJ k=>⟨.mkT s _,j,?_,X⟩) λp r M O z B m q=>?_
 ·show Q (.bytes (_++_:Array UInt8).toList) j;rw [Zf];exact q
 ·refine bW (X.list z) λv U C g=>?_
  subst g;refine bW (X.list B) λw Y D h=>?_
  subst h;refine P.add_list C D ⟨.mkH s _,_,c8 X q,X.new ?_ rfl⟩ (by exact sizeLine_eq▸F8 (by simpa using m:v.size+w.size<=1000000));simpa using (vI (c:=c) s.heap (v++w) s.heap.objs.size)
def Bj{items:Array Value}{v:V}(h:items.toList.map er= [v]):∃y,items= #[y]/\er y=v:=by
 obtain⟨l⟩:=items;rcases l with _|⟨y,r⟩
 ·exact nC h
 ·rcases r with _|⟨_,_⟩
  ·exact⟨y,rfl,(Zp h).1⟩
  ·cases h
def D9{a b:Value}{g:H}{Q:V->H->Prop}{G:Value->Value->Prop}(q:HK (er a) (er b) Q g)(k:∀x y t u,YZ x y/\Q (.int (x*y)) g->G (.int x t) (.int y u))
  (m:∀(x:Array UInt8) (n:Int) t u,x.toList≠ []/\x.toList.length<=16/\ -1000000<=n/\n<=1000000/\Q (.bytes (oR n.toNat x.toList).flatten) g->G (.bytes x t) (.int n u))
  (r:∀p (n:Int) u v,g p=some (.list [v])->0<=n->n<=100000->fresh (.list (oR n.toNat [v]).flatten) Q g->G (.ref p) (.int n u)):G a b:=by
 generalize c:er a=s;induction s with
 |int x=>
  rw [c] at q;exact im (G:=λw b=>w=a->G a b) (c▸q:dL (er a) (er b) λx y=>YZ x y/\Q (.int (x*y)) g) (λx y t u z e=>e▸k x y t u z) rfl
 |bytes x=>cases h:er b with
  |int n=>
   rw [c,h] at q;obtain⟨u,z⟩:=cv h;exact z▸dx (G:=λv x=>x≠ []/\x.length<=16/\ -1000000<=n/\n<=1000000/\Q (.bytes (oR n.toNat x).flatten) g->G v (.int n u)) c (λA t z=>m A n t u z) q
  |_=>rw [c,h] at q;exact q.elim
 |ref x=>cases h:er b with
  |int n=>
   rw [c,h] at q;obtain⟨u,z⟩:=cv h;rw [bK c,z];refine bp (jE q) λM B q=>?_
   refine q8 q λj C D J=>?_;obtain⟨v,rfl⟩:=j
   exact r x n u v B C D J
  |_=>rw [c,h] at q;exact q.elim
 |_=>rw [c] at q;exact q.elim
def FC(a b:Value):eW c A pr (WK .Mult a b) er (HK (er a) (er b)):=by
 intro Q m s q X;refine D9 (G:=λa b=>tL _ A (WK .Mult a b) _ _ s) q (λx y t u q=>P.mul_int ⟨.mkT s _,m,q.2,X⟩ q.1) (λx n t u q=>?_) λp n u v r w z B=>?_
 ·exact bytes_mul_any (b:=x.toList) (n:=n) q.1 (Rc q.2.1 q.2.2.1 q.2.2.2.1) (PW q.2.1 q.2.2.1 q.2.2.2.1) q.2.1 λJ k=>⟨.mkT s _,m,q.2.2.2.2,X⟩
 ·refine bW (X.list r) λg k C D=>?_
  refine bp (Bj D) λy h j=>?_;subst h;subst j
  refine Ag C w z ⟨.mkH s _,_,c8 X B,X.new ⟨_,0,abg s.heap _,?_⟩ rfl⟩;simp [-YR]
def Fd(j:VP)(a b:Value):eW c A pr (WK j a b) er (qG j (er a) (er b)):=by
 intro Q m s q X;have done:∀(t:Nat) (v:Value),Q (er v) m->Ends c pr er Q s v {s with toks:=t}:=λt v z=>⟨.mkT s t,m,z,X⟩
 have g:∀ {f:Int->Int->Prop} {j:VP},dL (er a) (er b) f->(∀x y t u,f x y->tL (pR c.prog c.w) A (WK j (.int x t) (.int y u)) (Ends c pr er Q s) No s)->tL (pR c.prog c.w) A (WK j a b) (Ends c pr er Q s) No s:=λh k=>im (G:=λa b=>tL _ A (WK _ a b) _ _ s) h k
 induction j with
 |Add=>exact EV a b Q m s q X
 |Mult=>exact FC a b Q m s q X
 |Sub=>exact g q λx y t u q=>P.sub_int (done _ _ q)
 |FloorDiv=>exact g q λx y t u q=>floordiv_int q.1 (done _ _ q.2.2) (.inl q.2.1)
 |Mod=>exact g q λx y t u q=>mod_int' q.1 (done _ _ q.2)
 |Pow=>exact g q λx y t u q=>pow_int_small q.1 (Int.le_trans q.2.1 (by decide)) q.2.2.1 (done _ _ q.2.2.2)
 |LShift=>exact g q λx y t u q=>lshift_int_small q.1 (Int.le_trans q.2.1 (by decide)) q.2.2.1 (done _ _ q.2.2.2)
 |RShift=>exact g q λx y t u q=>rshift_int q.1 (done _ _ q.2)
 |BitAnd=>exact g q λx y t u q=>and_int (done _ _ q)
 |BitOr=>exact g q λx y t u q=>or_int (done _ _ q)
 |BitXor=>exact g q λx y t u q=>xor_int (done _ _ q)
 |_=>exact q.elim
end
end
def bl{a b:Bool}(h:(a&&b)=true):a=true:=(Bool.and_eq_true_iff.mp h).1
def bn{b:Bool}(h:(!b)=true):b=false:=by
 induction b with
 |false=>rfl
 |true=>exact fT h
def bm{b:Type} [BEq b] [LawfulBEq b] {x:b}{r:List b}(h:(!r.contains x)=true):x∉r:=by simpa using h
def br{a b:Bool}(h:(a&&b)=true):b=true:=(Bool.and_eq_true_iff.mp h).2
structure sU(n:Nat)(A:Bs):Prop where
 hd:A.handled=none
 depth:A.depth+2*n+2<700
 units:A.units+8*n+8<9000
 gd:A.guards=some []
noncomputable def Cr:Const->Option V
 | .none=>some .none| .bool b=>some (.bool b)| .int i=>some (.int i)| .str s=>some (.str s)| .bytes b=>some (.bytes b)|_=>YQ
noncomputable def DR(K:YY)(x:Str):Option V:=match nsIn K UX x with
 |some (some v)=>some (er v)
 |some none=>(match nsIn K Xj x with
  |some (some v)=>some (er v)
  |_=>none)
 |none=>none
structure Vw where
 tag:Nat
 p:Pos:=default
 e0:Expr:=default
 e1:Expr:=default
 e2:Expr:=default
 es:List Expr:= []
 o0:Option Expr:=none
 o1:Option Expr:=none
 o2:Option Expr:=none
 op:Operator:=.Add
 uop:UnaryOp:=.Not
 bop:BoolOp:=.And
 cops:List CmpOp:= []
 c:Const:=.none
 s:Str:=default
 oks:List (Option Expr):= []
 kws:List Keyword:= []
 gens:List Comprehension:= []
 sc:Scope:=default
 n:Nat:=0
noncomputable def view:Expr->Vw
 | .Constant c n p=>{tag:=1,c:=c,n:=n,p:=p}
 | .Name s p=>{tag:=2,s:=s,p:=p}
 | .BinOp b w h p=>{tag:=3,e0:=b,op:=w,e1:=h,p:=p}
 | .UnaryOp m b p=>{tag:=4,uop:=m,e0:=b,p:=p}
 | .BoolOp r g p=>{tag:=5,bop:=r,es:=g,p:=p}
 | .Compare b j g p=>{tag:=6,e0:=b,cops:=j,es:=g,p:=p}
 | .IfExp b h x p=>{tag:=7,e0:=b,e1:=h,e2:=x,p:=p}
 | .List g p=>{tag:=8,es:=g,p:=p}
 | .Tuple g n p=>{tag:=9,es:=g,n:=n,p:=p}
 | .Dict u g p=>{tag:=10,oks:=u,es:=g,p:=p}
 | .Attribute b s p=>{tag:=11,e0:=b,s:=s,p:=p}
 | .Subscript b h p=>{tag:=12,e0:=b,e1:=h,p:=p}
 | .Slice y z A p=>{tag:=13,o0:=y,o1:=z,o2:=A,p:=p}
 | .Call b g v p=>{tag:=14,e0:=b,es:=g,kws:=v,p:=p}
 | .ListComp b k B p=>{tag:=15,e0:=b,gens:=k,sc:=B,p:=p}
 | .Starred b p=>{tag:=16,e0:=b,p:=p}
 |_=>{tag:=0}
noncomputable def back(n:Nat)(v:Vw):Expr:=match n with
 |1=>.Constant v.c v.n v.p
 |2=>.Name v.s v.p
 |3=>.BinOp v.e0 v.op v.e1 v.p
 |4=>.UnaryOp v.uop v.e0 v.p
 |5=>.BoolOp v.bop v.es v.p
 |6=>.Compare v.e0 v.cops v.es v.p
 |7=>.IfExp v.e0 v.e1 v.e2 v.p
 |8=>.List v.es v.p
 |9=>.Tuple v.es v.n v.p
 |10=>.Dict v.oks v.es v.p
 |11=>.Attribute v.e0 v.s v.p
 |12=>.Subscript v.e0 v.e1 v.p
 |13=>.Slice v.o0 v.o1 v.o2 v.p
 |14=>.Call v.e0 v.es v.kws v.p
 |15=>.ListComp v.e0 v.gens v.sc v.p
 |16=>.Starred v.e0 v.p
 |_=>default
def z7(e:Expr)(h:(view e).tag≠0):e=back (view e).tag (view e):=by rcases e with⟨⟩<;>first|rfl|exact absurd rfl h
def ci{e:Expr}{n:Nat}(h:(view e).tag=n+1):e=back (n+1) (view e):=h▸z7 e (h▸VN n)
def nO{e:Expr}(h:(view e).tag=1):∃b c g,e=.Constant b c g:=⟨_,_,_,ci h⟩
def jC{e:Expr}(h:(view e).tag=2):∃b c,e=.Name b c:=⟨_,_,ci h⟩
def Bf{e:Expr}(h:(view e).tag=3):∃b c g j,e=.BinOp b c g j:=⟨_,_,_,_,ci h⟩
def kG{e:Expr}(h:(view e).tag=4):∃b c g,e=.UnaryOp b c g:=⟨_,_,_,ci h⟩
def sW{e:Expr}(h:(view e).tag=5):∃b c g,e=.BoolOp b c g:=⟨_,_,_,ci h⟩
def qT{e:Expr}(h:(view e).tag=6):∃b c g j,e=.Compare b c g j:=⟨_,_,_,_,ci h⟩
def Bu{e:Expr}(h:(view e).tag=7):∃b c g j,e=.IfExp b c g j:=⟨_,_,_,_,ci h⟩
def DK{e:Expr}(h:(view e).tag=8):∃b c,e=.List b c:=⟨_,_,ci h⟩
def ek{e:Expr}(h:(view e).tag=9):∃b c g,e=.Tuple b c g:=⟨_,_,_,ci h⟩
def zg{e:Expr}(h:(view e).tag=10):∃b c g,e=.Dict b c g:=⟨_,_,_,ci h⟩
def da{e:Expr}(h:(view e).tag=11):∃b c g,e=.Attribute b c g:=⟨_,_,_,ci h⟩
def hF{e:Expr}(h:(view e).tag=12):∃b c g,e=.Subscript b c g:=⟨_,_,_,ci h⟩
def Ct{e:Expr}(h:(view e).tag=13):∃b c g j,e=.Slice b c g j:=⟨_,_,_,_,ci h⟩
def jw{e:Expr}(h:(view e).tag=14):∃b c g j,e=.Call b c g j:=⟨_,_,_,_,ci h⟩
def iP{e:Expr}(h:(view e).tag=15):∃b c g j,e=.ListComp b c g j:=⟨_,_,_,_,ci h⟩
def eD{b:Type}{l:List b}(h:l.length=1):∃a,l= [a]:=List.length_eq_one_iff.mp h
def nE{g:Type}{l:List g}(h:l.length=2):∃a b,l= [a,b]:=by
 refine eT (Xk h) λa l c=>?_;subst c
 obtain⟨b,rfl⟩:=eD (Vf h);exact⟨a,b,rfl⟩
def BG{g:Type}{l:List g}(h:l.length=3):∃a b d,l= [a,b,d]:=by
 refine eT (Xk h) λa l c=>?_;subst c
 refine eT (nE (Vf h)) λb d c=>?_;subst c
 exact⟨a,b,d,rfl⟩
noncomputable def L6:Const->Option Str
 | .str a=>some a
 |_=>none
def Eh{c:Const}{a:Str}(h:L6 c=some a):c=.str a:=by
 induction c with
 |str b=>exact congrArg Const.str (eQ h)
 |_=>exact nN h
noncomputable def xj(o:Option Expr):Option Str:=match o with
 |some e=>if (view e).tag=1 then L6 (view e).c else none
 |none=>none
set_option tactic.hygienic true in
def ti{o:Option Expr}{a:Str}(h:xj o=some a):∃i p,o=some (.Constant (.str a) i p):=by
 induction o with
 |none=>exact nN h
 |some e=>
  by_cases b:(view e).tag=1
  ·exact⟨_,_,congrArg some ((ci b).trans (by rw [<-Eh ((eX b).symm.trans h)];rfl))⟩
  ·exact nN ((if_neg b).symm.trans h)
noncomputable def l6(e:Expr):List Str:=if (view e).tag=2 then [(view e).s] else if (view e).tag=9 then(view e).es.filterMap (λe=>if (view e).tag=2 then some (view e).s else none) else []
noncomputable def cN(e:Expr):Bool:=(view e).tag==16
noncomputable def wV(e:Expr):Bool:= !((view e).tag==14&&(view (view e).e0).tag==2&&(view e).es.isEmpty&&(view e).kws.isEmpty)
noncomputable def stN(b:OS)(x:Str):Bool:=match b.names.lookup x with
 |some .local|some .cell=>true
 |_=>false
noncomputable def NP(b:OS)(vs:List (Option Str))(i:Nat)(e:Expr):Bool:=(view e).tag==2&&vs[i]? ==some (some (view e).s)&&stN b (view e).s
noncomputable def yR(c:OS)(vs:List (Option Str)):List Nat->List Expr->Bool
 | [],b=>b.isEmpty
 |i::g,b=> !b.isEmpty&&NP c vs i (b.headD default)&&yR c vs g b.tail
noncomputable def mB(g:OS)(vs:List (Option Str))(c:List Nat)(b:Expr):Bool:=
 (c.length==1&&NP g vs (c.headD 0) b)||(decide (2<=c.length)&&(view b).tag==9&&yR g vs c (view b).es)
noncomputable def bA(c b:OS):Scope:={c with names:=c.names.map λ(n,k)=>if (k==.free&&b.kind==.function&&b.names.lookup n==some .cell) then(n,.cell) else(n,k)}
noncomputable def Cv(vs:List (Option Str))(b:List Str):List (Option Str):=vs.map λo=>match o with
 |some x=>if b.contains x then none else some x
 |none=>none
noncomputable def kZ(vs:List (Option Str))(b:List Str)(c:List Nat):List (Option Str):=(c.zip b).foldl (λv p=>v.set p.1 (some p.2)) (Cv vs b)
noncomputable def fY:List (Option Str)->Bool
 | []=>true
 |some x::r=> !r.contains (some x)&&fY r
 |none::r=>fY r
noncomputable def gc(c scE:OS)(tn:List Str)(b:List (Option Str)):Bool:=
 (c.kind==.function)&&c.names.all (λp=>p.2 !=.cell&&(p.2 !=.local||(c.names.lookup p.1==some .local&&(p.1==(".0" :Str)||tn.contains p.1)))&&(p.2 !=.free||scE.names.lookup p.1==some .cell))&&
 tn.all (λx=>c.names.lookup x==some .local)&&fY b&& !b.contains (some (".0" :Str))
noncomputable def Ap(b:List (Option Str))(c:List Str)(g:List Nat):Bool:=g.all λi=>match b[i]? with
 |some (some y)=>c.contains y
 |_=>true
noncomputable def E.isK(u:V):E->Bool
 | .k a=>a==u
 |_=>false
noncomputable abbrev E.isTrueK(e:E):Bool:=e.isK (.bool true)
noncomputable abbrev E.isNoneK(e:E):Bool:=e.isK .none
def BD{u:V}{e:E}(h:e.isK u=true):e=.k u:=by
 cases e with
 |k v=>exact congrArg E.k (eq_of_beq h)
 |_=>exact fT h
def qe{e:E}(h:e.isTrueK=true):e=.k (.bool true):=by
 exact BD h
def xC{e:E}(h:e.isNoneK=true):e=.k .none:=by
 exact BD h
noncomputable def s9(e:Expr):Bool:= !(view e).tag==0
noncomputable def qI(o:Option Expr)(b:Bool)(f:Expr->Bool):Bool:=(o.isNone&&b)||(o.isSome&&f (o.getD default))
noncomputable def z6(l:List Expr)(b:Bool)(f:Expr->Bool):Bool:=(l.isEmpty&&b)||(l.length==1&&f (l.headD default))
mutual
noncomputable def mE(k:bo)(h:OS)(vs:List (Option Str)):E->Expr->Bool
 | .k v,e=>(view e).tag==1&&Cr (view e).c==some v
 | .v i,e=>(view e).tag==2&&vs[i]? ==some (some (view e).s)&&seen h (view e).s&&(view e).s !=("__debug__" :Str)
 | .g v,e=>(view e).tag==2&&h.names.lookup (view e).s==some .globalImplicit&&DR k.K (view e).s==some v&&(view e).s !=("__debug__" :Str)
 | .bin x l r,e=>(view e).tag==3&&x==(view e).op&&mE k h vs l (view e).e0&&mE k h vs r (view e).e1
 | .neg a,e=>(view e).tag==4&&(view e).uop==.USub&&mE k h vs a (view e).e0
 | .not a,e=>(view e).tag==4&&(view e).uop==.Not&&mE k h vs a (view e).e0
 | .and2 l r,e=>(view e).tag==5&&(view e).bop==.And&&(view e).es.length==2&&mE k h vs l ((view e).es.getD 0 default)&&mE k h vs r ((view e).es.getD 1 default)
 | .or2 l r,e=>(view e).tag==5&&(view e).bop==.Or&&(view e).es.length==2&&mE k h vs l ((view e).es.getD 0 default)&&mE k h vs r ((view e).es.getD 1 default)
 | .or3 l m r,e=>(view e).tag==5&&(view e).bop==.Or&&(view e).es.length==3&&mE k h vs l ((view e).es.getD 0 default)&&mE k h vs m ((view e).es.getD 1 default)&&mE k h vs r ((view e).es.getD 2 default)
 | .cmp x l r,e=>(view e).tag==6&&(view e).cops== [x]&&(view e).es.length==1&& !behindInMarks x ((view e).es.getD 0 default)&&mE k h vs l (view e).e0&&mE k h vs r ((view e).es.getD 0 default)
 | .cmp2 Q G l m r,e=>(view e).tag==6&&(view e).cops== [Q,G]&&(view e).es.length==2&& !behindInMarks G ((view e).es.getD 1 default)&&mE k h vs l (view e).e0&&mE k h vs m ((view e).es.getD 0 default)&&mE k h vs r ((view e).es.getD 1 default)
 | .ife t a b,e=>(view e).tag==7&&mE k h vs t (view e).e0&&mE k h vs a (view e).e1&&mE k h vs b (view e).e2
 | .lst z,e=>(view e).tag==8&&w6 k h vs z (view e).es
 | .tup z,e=>(view e).tag==9&&w6 k h vs z (view e).es
 | .dct0,e=>(view e).tag==10&&(view e).oks.isEmpty&&(view e).es.isEmpty
 | .dct2 J M U Y,e=>(view e).tag==10&&(view e).oks.length==2&&(view e).es.length==2&&xj ((view e).oks.getD 0 none)==some J&&xj ((view e).oks.getD 1 none)==some M&&J !=M&&mE k h vs U ((view e).es.getD 0 default)&&mE k h vs Y ((view e).es.getD 1 default)
 | .attr a i,e=>(view e).tag==11&&k.nm i==(view e).s&&wV (view e).e0&&mE k h vs a (view e).e0
 | .sub o i,e=>(view e).tag==12&&mE k h vs o (view e).e0&&mE k h vs i (view e).e1
 | .slc o lo O,e=>(view e).tag==12&&(view (view e).e1).tag==13&&(view (view e).e1).o2.isNone&&mE k h vs o (view e).e0&&qI (view (view e).e1).o0 lo.isNoneK (λy=>mE k h vs lo y)&&qI (view (view e).e1).o1 O.isNoneK (λy=>mE k h vs O y)
 | .call f A,e=>(view e).tag==14&&(view e).kws.isEmpty&&(view (view e).e0).tag !=11&&mE k h vs f (view e).e0&&w6 k h vs A (view e).es
 | .mc o i A,e=>(view e).tag==14&&(view e).kws.isEmpty&&(view (view e).e0).tag==11&&k.nm i==(view (view e).e0).s&&wV (view (view e).e0).e0&&(view (view e).e0).p.endLine==(view e).p.line&&decide ((view e).es.length<20)&&mE k h vs o (view (view e).e0).e0&&w6 k h vs A (view e).es
 | .comp B C D c,e=>(view e).tag==15&&(view e).gens.length==1&&(let g:=(view e).gens.getD 0 default
   let p:=(view e).sc
   let s:=l6 g.target
   let j:=kZ vs s C
   g.is_async==0&&gc p h s j&&s9 g.iter&&mB (bA p h) j C g.target&&Ap j s C&&mE k h vs D g.iter&&mE k (bA p h) j B (view e).e0&&z6 g.ifs c.isTrueK (λy=>mE k (bA p h) j c y))
 | .compS i D c,e=>(view e).tag==15&&(view e).gens.length==1&&(let g:=(view e).gens.getD 0 default
   let p:=(view e).sc
   let s:=l6 g.target
   let j:=kZ vs s [i]
   let w:=view g.iter
   let u:=view (view e).e0
   g.is_async==0&&gc p h s j&&(w.tag==14&&w.kws.isEmpty&&w.es.length==1&& !cN (w.es.getD 0 default)&&(view w.e0).tag==2&&h.names.lookup (view w.e0).s==some .globalImplicit&&DR k.K (view w.e0).s==some (.ty "set")&&(view w.e0).s !=("__debug__" :Str))&&
    mB (bA p h) j [i] g.target&&Ap j s [i]&&mE k h vs D (w.es.getD 0 default)&&(u.tag==2&&j[i]? ==some (some u.s)&&seen (bA p h) u.s&&u.s !=("__debug__" :Str))&&z6 g.ifs c.isTrueK (λy=>mE k (bA p h) j c y))
 | .dead,e=>(view e).tag !=16
noncomputable def w6(k:bo)(c:OS)(vs:List (Option Str)):Es->List Expr->Bool
 | .nil,b=>b.isEmpty
 | .cons e g,b=> !b.isEmpty&& !cN (b.headD default)&&mE k c vs e (b.headD default)&&w6 k c vs g b.tail
end
section
section
variable{c:bo}{A:Bs}{pr:PH}
set_option tactic.hygienic true in
theorem pQ:∀ {vs:List Value},(vs.map er).all V.isInt=true->∃b,YS vs b/\vs.map er=b.map V.int
 | [],_=>⟨[],.nil,rfl⟩
 |v::r,h=>by
  have h:(V.isInt (er v)&&(r.map er).all V.isInt)=true:=h;refine bp (pQ (br h)) λb c g=>?_
  have j:=bl h;induction v with
  |int i t=>exact⟨i::b,.cons i t c,congrArg _ g⟩
  |_=>exact fT j
def qx{c g:List Int}:(c.map V.int=g.map V.int)↔c=g:=by
 constructor
 ·intro h;have:Function.Injective V.int:=λa b e=>by cases e;rfl
  exact(List.map_inj_right λa b e=>by cases e;rfl).mp h
 ·rintro rfl;rfl
def eU{g:H}{h:UT}{a:iS}{f:Int->Option V}(x:I c pr g h)(e:g a=some (.idict f)):
  ∃b,h.DictOf (VI c.prog c.w) a b/\∀k,(UU b k).map er=f k:=let ⟨_,z⟩:=x.at e;z
def wk{g:H}{h:UT}{a:iS}{f:Str->Option V}(x:I c pr g h)(e:g a=some (.sdict f)):
  ∃b,h.DictOf (strKind c.prog c.w) a b/\b.length<=1000/\∀k,(UU b k).map er=f k:=let ⟨_,z⟩:=x.at e;z
structure Good(c:bo):Prop where
 sm:(c.K.lookup aaL).isSome=true
def ro(G:Good c){b:H}{h:UT}{a:iS}{o:AO}(x:I c pr b h)(e:b a=some o):(a==aaL)=false:=by
 obtain⟨ob,g⟩:=Option.isSome_iff_exists.mp G.sm;rw [beq_eq_false_iff_ne];rintro rfl;obtain⟨j,L⟩:=x.lay;have:=L.off _ _ e;rw [x.kin _ _ g] at this;exact sN this
def Cb{b:H}{h:UT}{p:iS}(x:I c pr b h)(e:(b p).any AO.isInst=true):∃ob,h.get? p=some ob/\ob.cls≠ .type "tuple" :=by
 generalize q:b p=g;induction g with
 |none=>rw [q] at e;exact fT e
 |some o=>
  rw [q] at e;induction o with
  |inst C k=>obtain⟨d,j⟩:=x.at q;exact⟨_,j.1,λz=>by cases z⟩
  |_=>exact fT e
def Ic{b:H}{h:UT}{p:iS}(x:I c pr b h)(e:(b p).isSome=true):∃ob,h.get? p=some ob:=by
 obtain⟨o,g⟩:=Option.isSome_iff_exists.mp e;obtain⟨d,j⟩:=x.at g;exact j.at
def AP{b:List Int}{k:Int}:decide (V.int k∈b.map V.int)=b.any (· ==k):=by
 induction b with
 |nil=>simp
 |cons n r c=>
  refine List.any_cons▸ ?_;refine c▸ ?_;by_cases h:n=k
  ·subst h;simp
  ·have g:¬k=n:=λe=>h e.symm
   simp [h,g]
def EB{c:Type} [BEq c] [LawfulBEq c] [DecidableEq c] (a b:c):(a==b)=decide (a=b):=by by_cases h:a=b<;>simp [h]
def yA{b:H}{u v:V}{P:V->V->Prop}(h:DD b u v=true)(c:P .none .none)(g:∀q,P .none (.ref q))(j:∀p,P (.ref p) .none)(k:∀i,P (.int i) .none)(m:∀p q,p=q\/((b p).any AO.isInst&&(b q).isSome)=true->P (.ref p) (.ref q)):P u v:=by
 induction u with
 |none=>induction v with
  |none=>exact c
  |ref q=>exact g q
  |_=>exact fT h
 |ref p=>induction v with
  |none=>exact j p
  |ref q=>exact m p q ((Bool.or_eq_true_iff.mp h).imp (eq_of_beq ·) id)
  |_=>exact fT h
 |int i=>induction v with
  |none=>exact k i
  |_=>exact fT h
 |_=>exact fT h
def FJ{a b:Value}{r:H}{s:bS}{Q:Bool->Prop}{G:Value->Value->Prop}(X:I c pr r s.heap)(h:DD r (er a) (er b)=true)(q:Q (decide (er a=er b)))
  (A:∀a b,aaA a b=true->Q (a==b)->G a b) (m:∀a b,aaA a b=true->a≠b->Q false->G a b) (B:∀p,Q true->G (.ref p) (.ref p))
  (C:∀x y k o2,x≠y->s.heap.get? x=some k->s.heap.get? y=some o2->k.cls≠ .type "tuple" ->Q false->G (.ref x) (.ref y)):G a b:=by
 refine yA (P:=λu v=>er a=u->er b=v->Q (decide (u=v))->G a b) h (λg j q=>?_) (λy g j q=>?_) (λx g j q=>?_) (λi g j q=>?_) (λx y D g j q=>?_) rfl rfl q
 ·rw [jL g,jL j];exact A _ _ rfl q
 ·rw [jL g,bK j];exact m _ _ rfl nofun q
 ·rw [bK g,jL j];exact m _ _ rfl nofun q
 ·obtain⟨t,z⟩:=cv g;rw [z,jL j];exact m _ _ rfl nofun q
 ·rw [bK g,bK j];by_cases e:x=y
  ·exact e▸B x ((lO (congrArg V.ref e))▸q)
  ·have w:=Bool.and_eq_true_iff.mp (D.resolve_left e);refine bp (Cb X w.1) λk J M=>?_
   obtain⟨o2,O⟩:=Ic X w.2;exact C x y k o2 e J O M ((decide_eq_false λz=>e (V.ref.inj z):decide (V.ref x=V.ref y)=false)▸q)
def sh{a b:Value}{r:H}{s:bS}{P:Bool->Prop}{G:Value->Value->Prop}(X:I c pr r s.heap)(q:Jp (er a) (er b) r P)
  (y:∀k t p f g,r p=some (.idict f)->s.heap.DictOf (VI c.prog c.w) p g->P (UU g k).isSome->G (.int k t) (.ref p))
  (A:∀k t p (items:Array Value) (u:List Int),s.heap.IsList p items.toList.toArray->YS items.toList u->P (u.any (· ==k))->G (.int k t) (.ref p)):G a b:=by
 generalize v:er b=j;induction j with
 |ref p=>
  rw [v] at q;generalize w:er a=j;induction j with
  |int k=>
   have q:=w▸q;obtain⟨t,z⟩:=cv w;rw [bK v,z];unfold Jp at q;dsimp only at q;generalize m:r p=j;induction j with
   |none=>rw [m] at q;exact q.elim
   |some o=>
    have q:=m▸q;induction o with
    |idict f=>
     refine bp (eU X m) λg B C=>y k t p f g m B ?_
     rw [<-Option.isSome_map (f:=er),C];exact q
    |list Q=>
     refine bW (X.list m) λitems n D h=>?_
     subst h;refine eK q λJ U x=>?_
     refine bp (pQ J) λu M O=>A k t p items u (by exact D.isList) M ?_
     rw [O,AP] at x;exact x
    |_=>exact q.elim
  |_=>rw [w] at q;exact q.elim
 |_=>rw [v] at q;exact q.elim
def sS{a b:Value}{A:H}{s:bS}{P:(p:Prop)-> [Decidable p]->Prop}{G:Value->Value->Prop}(X:I c pr A s.heap)(q:OY (er a) (er b) A P)
  (Y:∀x y t u,P (x=y)->G (.int x t) (.int y u)) (k2:∀x y t u,P (x.toList=y.toList)->G (.bytes x t) (.bytes y u))
  (k3:∀(x y:iS) (B C:Array Value) (D J:List Int),s.heap.IsList x B->YS B.toList D->s.heap.IsList y C->YS C.toList J->P (D.map V.int=J.map V.int)->G (.ref x) (.ref y)):G a b:=by
 generalize j:er a=g;induction g with
 |int x=>generalize h:er b=g;induction g with
  |int y=>
   rw [j,h] at q;obtain⟨t,z⟩:=cv j;obtain⟨u,w⟩:=cv h;rw [z,w];exact Y x y t u q
  |_=>rw [j,h] at q;exact q.elim
 |bytes x=>generalize h:er b=g;induction g with
  |bytes y=>
   rw [j,h] at q;exact dx (G:=λv x=>P (x=y)->G v b) j (λr t=>dx (G:=λv y=>P (r.toList=y)->G (.bytes r t) v) h λO u z=>k2 r O t u z) q
  |_=>rw [j,h] at q;exact q.elim
 |ref x=>generalize h:er b=g;induction g with
  |ref y=>
   rw [j] at q;have q:=h▸q;rw [bK j,bK h];unfold OY at q;dsimp only at q;generalize Q:A x=g;induction g with
   |none=>rw [Q] at q;exact q.elim
   |some o=>rw [Q] at q;induction o with
    |list xs=>generalize U:A y=g;induction g with
     |none=>rw [U] at q;exact q.elim
     |some o=>rw [U] at q;induction o with
      |list ys=>
       refine nj q λq1 q2 q3 q4 M=>?_
       refine bW (X.list Q) λB n1 l1 k=>?_
       subst k;refine bW (X.list U) λC n2 l2 m=>?_
       subst m;refine bp (pQ q1) λD r b1=>?_
       refine bp (pQ q2) λJ O b2=>k3 x y B C D J l1.isList r l2.isList O ?_
       have M:=M;rw [b1,b2] at M;exact M
      |_=>exact q.elim
    |_=>exact q.elim
  |_=>rw [j,h] at q;exact q.elim
 |_=>rw [j] at q;exact q.elim
def zc{n:Nat}(b:sU n A):A.units+64<cLine:=by exact Ma b.units
def jv{n:Nat}(G:Good c)(hA:sU n A)(o:VY)(a b:Value):eW c A pr (Vv o a b) er (cr o (er a) (er b)):=by
 intro Q j s q X;have g:∀(v:Value),Q (er v) j->Ends c pr er Q s v s:=λv z=>⟨.refl s,j,z,X⟩
 have done:∀(t:Nat) (v:Value),Q (er v) j->Ends c pr er Q s v {s with toks:=t}:=λt v z=>⟨.mkT s t,j,z,X⟩
 induction o with
 |Is=>exact FJ (G:=λa b=>tL _ A (Vv .Is a b) _ _ s) (Q:=λt=>Q (.bool t) j) X q.1 q.2 (λa b h z=>wpAny_is_plain h (g _ z)) (λa b h m z=>wpAny_is_other h m (g _ z)) (λp z=>wpAny_is_ref_self (g _ z)) λx y o1 o2 e r B m z=>wpAny_is_ref_other e r B m (g _ z)
 |IsNot=>exact FJ (G:=λa b=>tL _ A (Vv .IsNot a b) _ _ s) (Q:=λt=>Q (.bool (!t)) j) X q.1 (by have q:=q.2;rw [decide_not] at q;exact q) (λa b h z=>wpAny_isNot_plain h (g _ z)) (λa b h m z=>wpAny_isNot_other h m (g _ z)) (λp z=>wpAny_isNot_ref_self (g _ z)) λx y o1 o2 e r B m z=>wpAny_isNot_ref_other e r B m (g _ z)
 |In=>exact sh (G:=λa b=>tL _ A (Vv .In a b) _ _ s) (P:=λt=>Q (.bool t) j) X q (λk t p f C D M z=>wpAny_in_of (Wb _ _ _ _) (ro G X D) M.mapOf (done _ _ z)) λk t p w O U r z=>in_list_ints U r (g _ z)
 |NotIn=>exact sh (G:=λa b=>tL _ A (Vv .NotIn a b) _ _ s) (P:=λt=>Q (.bool (!t)) j) X q (λk t p f C D M z=>wpAny_notIn_of (Wb _ _ _ _) (ro G X D) M.mapOf (done _ _ z)) λk t p w O U r z=>notin_list_ints U r (g _ z)
 |Eq=>exact sS (G:=λa b=>tL _ A (Vv .Eq a b) _ _ s) (P:=λp J=>Q (.bool (decide p)) j) X q (λx y t u z=>P.eq_int (g _ (by exact z))) (λx y t u z=>eq_bytes (g _ (by rw [EB];exact z))) λx y i1 i2 O ms Y a1 l2 a2 z=>eq_intsK (by simpa using Y) a1 (by simpa using l2) a2 (zc hA) (g _ (by show Q (.bool _) j;simpa [qx] using z))
 |NotEq=>exact sS (G:=λa b=>tL _ A (Vv .NotEq a b) _ _ s) (P:=λp J=>Q (.bool (decide (¬p))) j) X q (λx y t u z=>P.ne_int (g _ (by rw [bne,EB,<-decide_not];exact z))) (λx y t u z=>ne_bytes (g _ (by rw [bne,EB,<-decide_not];exact z))) λx y i1 i2 O ms Y a1 l2 a2 z=>ne_intsK (by exact Y) a1 (by exact l2) a2 (zc hA) (g _ (by show Q (.bool _) j;simpa [qx] using z))
 |Lt=>exact im (G:=λa b=>tL _ A (Vv .Lt a b) _ _ s) q λx y t u z=>P.lt_int (g _ z)
 |LtE=>exact im (G:=λa b=>tL _ A (Vv .LtE a b) _ _ s) q λx y t u z=>P.le_int (g _ z)
 |Gt=>exact im (G:=λa b=>tL _ A (Vv .Gt a b) _ _ s) q λx y t u z=>P.gt_int (g _ z)
 |GtE=>exact im (G:=λa b=>tL _ A (Vv .GtE a b) _ _ s) q λx y t u z=>P.ge_int (g _ z)
set_option tactic.hygienic true in
def iT(v:Value):eW c A pr (truthy v) id (bH (er v)):=by
 intro Q g s q X;exact Gz q λb q=>Vm ⟨.refl s,g,q,X⟩
end
end
namespace BA
def plainAttrs:PlainAttrs "bytearray" :=
 ⟨⟨"bytearray.__getattribute__",by kernel_rfl,by decide+kernel⟩,by kernel_rfl⟩
def owner:Manifest.owners.lookup (String.ofList ['y','a','r','r','a','e','t','y','b'].reverse)=some Manifest.sig_bytearray:=by kernel_rfl
def slot_len:Slot "bytearray" "__len__" "bytearray.__len__" :=
 .of (owner:= "bytearray") (n:= "__len__") (by kernel_rfl) (by decide+kernel) (by decide+kernel) (by decide+kernel)
  (by first|exact .inl (by decide+kernel)|exact .inr (by decide+kernel)) (by kernel_rfl)
def entry_len:Vn table "bytearray.__len__" =some Builtin.«bytearray.__len__» :=by first|exact Wp (by kernel_rfl)|exact VW (by kernel_rfl)
def args_len(a:Value):Xu "bytearray.__len__" ⟨[a],[]⟩:=by
 kernel_rfl
def slot_getitem:Slot "bytearray" "__getitem__" "bytearray.__getitem__" :=
 .of (owner:= "bytearray") (n:= "__getitem__") (by kernel_rfl) (by decide+kernel) (by decide+kernel) (by decide+kernel)
  (by first|exact .inl (by decide+kernel)|exact .inr (by decide+kernel)) (by kernel_rfl)
def entry_getitem:Vn table "bytearray.__getitem__" =some Builtin.«bytearray.__getitem__» :=by first|exact Wp (by kernel_rfl)|exact VW (by kernel_rfl)
def args_getitem(a b:Value):Xu "bytearray.__getitem__" ⟨[a,b],[]⟩:=by
 kernel_rfl
def slot_setitem:Slot "bytearray" "__setitem__" "bytearray.__setitem__" :=
 .of (owner:= "bytearray") (n:= "__setitem__") (by kernel_rfl) (by decide+kernel) (by decide+kernel) (by decide+kernel)
  (by first|exact .inl (by decide+kernel)|exact .inr (by decide+kernel)) (by kernel_rfl)
def entry_setitem:Vn table "bytearray.__setitem__" =some Builtin.«bytearray.__setitem__» :=by first|exact Wp (by kernel_rfl)|exact VW (by kernel_rfl)
def args_setitem(a b c:Value):Xu "bytearray.__setitem__" ⟨[a,b,c],[]⟩:=by
 kernel_rfl
def slot_init:Slot "bytearray" "__init__" "bytearray.__init__" :=
 .of (owner:= "bytearray") (n:= "__init__") (by kernel_rfl) (by decide+kernel) (by decide+kernel) (by decide+kernel)
  (by first|exact .inl (by decide+kernel)|exact .inr (by decide+kernel)) (by kernel_rfl)
def entry_init:Vn table "bytearray.__init__" =some Builtin.«bytearray.__init__» :=by first|exact Wp (by kernel_rfl)|exact VW (by kernel_rfl)
def args_init(a b:Value):Xu "bytearray.__init__" ⟨[a,b],[]⟩:=by
 kernel_rfl
def slot_extend:Slot "bytearray" "extend" "bytearray.extend" :=
 .of (owner:= "bytearray") (n:= "extend") (by kernel_rfl) (by decide+kernel) (by decide+kernel) (by decide+kernel)
  (by first|exact .inl (by decide+kernel)|exact .inr (by decide+kernel)) (by kernel_rfl)
def entry_extend:Vn table "bytearray.extend" =some Builtin.«bytearray.extend» :=by first|exact Wp (by kernel_rfl)|exact VW (by kernel_rfl)
def args_extend(a b:Value):Xu "bytearray.extend" ⟨[a,b],[]⟩:=by
 kernel_rfl
def type_extend:typeOf (.builtin "bytearray.extend")=pure (.type "method_descriptor"):=by kernel_rfl
def args_init1(a:Value):Xu "bytearray.__init__" ⟨[a],[]⟩:=by
 kernel_rfl
def entry_new:Vn table "bytearray.__new__" =some Builtin.«list.__new__» :=
 Y2 (id':= "list.__new__") (by kernel_rfl) rfl (by decide+kernel) (by kernel_rfl)
def owner_new:("bytearray.__new__".splitOn ".__new__").headD "" = "bytearray" :=by simp+decide [String.splitOn,String.splitOnAux]
def plain_new:plainId "bytearray.__new__" =true:=by decide+kernel
def bind0:Xr "bytearray.__init__" "bytearray" ["source", "encoding", "errors"] [] []=pure [none,none,none]:=by kernel_rfl
def bind1(v:Value):Xr "bytearray.__init__" "bytearray" ["source", "encoding", "errors"] [v] []=pure [some v,none,none]:=by kernel_rfl
def mro:mroOf (.type "bytearray")=pure [.type "bytearray",.type "object"]:=by kernel_rfl
def xV:Vb (.type "bytearray") "__new__" =pure (some (.builtin "bytearray.__new__")):=by kernel_rfl
def called:TypeCalled "bytearray" "bytearray.__new__" "bytearray.__init__" :=
 ⟨by decide+kernel,by decide+kernel,⟨_,_,mro⟩,madeBy_type mro xV (by decide+kernel),by decide+kernel,by kernel_rfl,slot_init⟩
def typeCall(as:List Value)(h:as.length<=1):checkTypeCall "bytearray" ⟨as,[]⟩=pure ():=by
 induction as with
 |nil=>kernel_rfl
 |cons a r=>induction r with
  |nil=>kernel_rfl
  |cons _ _=>exact absurd h (Nat.not_le.mpr (Nat.succ_lt_succ (YX _)))
def newCall0:Vg "bytearray.__new__" ⟨[.type "bytearray"],[]⟩=pure ():=by kernel_rfl
def newCall(a:Value):Vg "bytearray.__new__" ⟨[.type "bytearray",a],[]⟩=pure ():=by kernel_rfl
def no_bytes:Vb (.type "bytearray") "__bytes__" =pure none:=by kernel_rfl
def noIndex:Vb (.type "bytearray") "__index__" =pure none:=by kernel_rfl
def buffer:Vb (.type "bytearray") "__buffer__" =pure (some (.builtin "bytearray.__buffer__")):=by kernel_rfl
def rel:Vb (.type "bytearray") "__release_buffer__" =pure (some (.builtin "bytearray.__release_buffer__")):=by kernel_rfl
def b_buffer:Vb (.type "bytes") "__buffer__" =pure (some (.builtin "bytes.__buffer__")):=by kernel_rfl
def b_rel:Vb (.type "bytes") "__release_buffer__" =pure none:=by kernel_rfl
def b_noIndex:Vb (.type "bytes") "__index__" =pure none:=by kernel_rfl
def b_no_int:Vb (.type "bytes") "__int__" =pure none:=by kernel_rfl
def b_no_float:Vb (.type "bytes") "__float__" =pure none:=by kernel_rfl
def sub:Yu (.type "bytearray") (.type "bytearray")=pure true:=by kernel_rfl
def sub_b:Yu (.type "bytes") (.type "bytes")=pure true:=by kernel_rfl
def sub_b_ba:Yu (.type "bytes") (.type "bytearray")=pure false:=by kernel_rfl
def sub_b_c:Yu (.type "bytes") (.type "complex")=pure false:=by kernel_rfl
end BA
section
noncomputable abbrev bC(b:Array UInt8):Obj:={cls:=.type "bytearray",dict:=none,data:=.bytearray b 0,slots:= #[]}
section
variable{prog:Vd}{w:Va}{A:Bs}{E:Value->bS->Prop}{s:bS}{a:iS}{b:Array UInt8}
def bL(h:s.heap.get? a=some (bC b)):s.TypeIs (.ref a) "bytearray" :=⟨_,h,rfl⟩
def cE{Q:Array UInt8->bS->Prop}(h:s.heap.get? a=some (bC b))(q:Q b s):tL (pR prog w) A (XN (.ref a)) Q E s:=by
 refine aS (aS (Wq h ?_));exact fS (fS q)
def gq{f:Array UInt8->Array UInt8}{Q:Unit->bS->Prop}(h:s.heap.get? a=some (bC b))(g:(f b).size<=Yj)
  (q:∀h',OR a s.heap h'->h'.get? a=some (bC (f b))->Q () {s with heap:=h'}):tL (pR prog w) A (Yb (.ref a) f) Q E s:=by
 refine aS (Wq h ?_);refine aS (wpAny_update h ?_);have c:=UW (Obj.mapBytearray f) h rfl;refine abh c ?_ (q _ (Ts ..) c);exact if_neg (Nat.not_lt.mpr g)
def wg{Q:Bool->bS->Prop}(j:A.guards=some [])(q:Q false s):bD (pR prog w) A (XI (.ref a)) Q E s:=by
 refine aA (zB λst m b=>aF ?_);refine(congrArg (λz=>Q z s) (List.any_eq_false.mpr λx g=>?_)).mpr q;have p:=m x g;have u:¬x.1.isGuard=true:=λh=>by
  have:x.1∈guardsOf st:=List.mem_filter.mpr ⟨List.mem_map.mpr ⟨x,g,rfl⟩,h⟩;have this:=b _ j▸this;exact nM this
 clear g m b j;obtain⟨code,B⟩:=x;refine Bool.eq_false_iff.mp ?_;induction code with
 |builtin id c=>
  have n:∀ {k:String},guardIds.contains k=true->¬id=k:=λy e=>u (e▸y)
  set_option smartUnfolding false in
  refine(dif_neg (n (k:= "bytearray.__contains__") rfl)).trans ?_;refine(dif_neg (n (k:= "bytearray.__mod__") rfl)).trans ?_;refine(dif_neg (n (k:= "bytearray.__rmod__") rfl)).trans ?_;refine(dif_neg (n (k:= "_struct.pack_into.held") rfl)).trans ?_;refine(dif_neg (n (k:= "bytearray.find.held") rfl)).trans ?_;obtain⟨pos,C⟩:=c;induction pos with
  |nil=>rfl
  |cons v r=>exact(congrArg (sameRef v (.ref a)&& ·) p).trans (Vq _)
 |_=>rfl
def Il(h:s.heap.get? a=some (bC b))(hz:b.size<=1000000){Q:Value->bS->Prop}(q:∀t k,Q (.int b.size t) {s with toks:=k}):
  tL (pR prog w) A (call (.builtin "len") [.ref a]) Q E s:=by
 refine abM kind_len plain_len entry_len (args_len1 _) ?_;refine aS (m:=oneArg "len" _) (fS ?_)
 refine aS (m:=callSpecial? (.ref a) (Str.ofString "__len__")) (wpAny_callSpecial?_slot (name:=Str.ofString "__len__") (bL h) BA.slot_len
  (UY BA.slot_len (bL h) BA.entry_len ?_ (BA.args_len _)))
 refine(aS (cE h ?_):tL _ _ (XN (.ref a)>>=λb=>retInt b.size) _ _ s);refine aS (YI (fS ⟨_,rfl,?_⟩));refine aS (LO (fS ?_));refine aS (wpAny_letGo ?_);refine(cX (λe=>absurd (Int.le_trans e (Int.ofNat_le.mpr hz)) (by decide)) ?_:tL _ _ (if ((b.size:Nat):Int)>=2^63 then _ else _) _ _ _);exact aS (YI (fS ⟨_,rfl,q _ _⟩))
def lh{k:Int}{t:Tok}{Q:Option Int->bS->Prop}(b:0<=k)(c:k<2^62)(q:Q (some k) s):
  tL (pR prog w) A (VB (.int k t)) Q E s:=by
 refine aS (As (T:= "int") (Y1 s k t) int_index ?_);refine aS (AS (a:=k) rfl ?_);refine cX (by rw [show Xx k=true from Bool.and_eq_true_iff.mpr ⟨lO (Int.le_trans (by decide) b),lO (Int.lt_trans c (by decide))⟩];decide) ?_;exact fS q
def Cc{k:Int}{n:Nat}(b:0<=k)(h:k.toNat<n):seqIndex? k n=some k.toNat:=by
 simp [seqIndex?,Int.not_lt.mpr b,b,(Int.toNat_lt b).mp h]
def HM{k:Int}{t:Tok}{x:UInt8}(h:s.heap.get? a=some (bC b))(g:0<=k)(m:k<2^62)(j:b[k.toNat]? =some x){Q:Value->bS->Prop}
  (q:∀t p,Q (.int x.toNat t) {s with toks:=p}):tL (pR prog w) A (getItem (.ref a) (.int k t)) Q E s:=by
 refine aaM (bL h) (by decide) BA.slot_getitem (UY BA.slot_getitem (bL h) BA.entry_getitem ?_ (BA.args_getitem _ _));refine(aS (lh g m ?_):tL _ _ (VB (.int k t)>>=_) _ _ s);refine aS (cE h ?_);have r:k.toNat<b.size:=by
  obtain⟨c,_⟩:=Array.getElem?_eq_some_iff.mp j;exact c
 rw [Cc g r];simp only [Xy,j];exact aS (YI (fS ⟨_,rfl,q _ _⟩))
def fW{g:iS}{l u:Value}{lo h:Option Int}{Q:Value×Value×Value->bS->Prop}(j:s.heap.IsSliceOf g l u .none)(k:Wc l lo)(m:Wc u h)
  (q:Q (YT lo,YT h,YT none) s):tL (pR prog w) A (abi (.ref g)) Q E s:=by
 refine dQ j λo b p c=>?_
 refine aS (Wx (x:=.none) b c rfl ?_)
 kby_none
 refine wpAny_ite (KBy.ite_no (Zq) ?_);refine aS (Wx (x:=l) b c rfl ?_)
 induction k<;>induction m<;>(first
  |(kby_none;(refine aS (Wx (x:=.none) b c rfl ?_));kby_none)
  |(kby_none;(refine aS (Wx (x:=.int _ _) b c rfl ?_));kby_int)
  |(kby_int;(refine aS (Wx (x:=.none) b c rfl ?_));kby_none)
  |(kby_int;(refine aS (Wx (x:=.int _ _) b c rfl ?_));kby_int))<;>refine fS q
def HN{g:iS}{l u:Value}{lo c:Option Int}(h:s.heap.get? a=some (bC b))(j:s.heap.IsSliceOf g l u .none)(x:Wc l lo)(y:Wc u c)(hz:b.size<=1000000){Q:Value->bS->Prop}
  (q:Q (.ref s.heap.objs.size) {s with heap:=s.heap.push (bC (abN b lo c))}):tL (pR prog w) A (getItem (.ref a) (.ref g)) Q E s:=by
 refine aaM (bL h) (by decide) BA.slot_getitem (UY BA.slot_getitem (bL h) BA.entry_getitem ?_ (BA.args_getitem _ _));refine(aS ?_:tL _ _ (VB (.ref g)>>=_) _ _ s);have p:s.TypeIs (.ref g) "slice" :=⟨_,j.choose_spec.1,j.choose_spec.2.1⟩
 refine aS (As p abO (fS ?_));refine aS (aab p ?_);refine aS (fW j x y ?_);refine aS (cE h ?_);have z:tL (pR prog w) A.in1 (sliceIndices (YT lo) (YT c) (YT none) b.size) (λr v=>r=sliceBounds lo c none b.size/\v=s) (λJ J=>False) s:=
  AS (abj lo c none b.size (λe=>nN e)) ⟨rfl,rfl⟩
 refine aS (UZ z (λr v B=>?_) λJ J e=>e.elim);obtain⟨k,m⟩:=B;subst k m;refine aS ?_;refine VJ ?_ ?_
 ·exact fS ⟨_,rfl,q⟩
 ·exact(gD (aac b lo c) (gD hz (by decide)):(abN b lo c).size<=Yj)
end
end
section
section
variable{prog:Vd}{w:Va}{A:Bs}{E:Value->bS->Prop}{s:bS}{R:V1->bS->Prop}
def gb{id:String}{c:Args}{b:YU}(g:Vn table id=some b)
  (h:bD (pR prog w) (A.under (.builtin id c)) (b c)
   (wH (pR prog w) A R) (λe j=>R (.error e) j) s):
  co (pR prog w) A (.builtin id c) R s:=by
 refine bz ?_;show bD _ _ (match Vn table id with|some b=>b c|none=>unsupported ((withoutEnding? id "#data").getD id)) _ _ s;refine g▸ ?_;exact h
def kH{id:String}{c:Args}{b:YU}(m:plainId id=true)(p:Builtin.Bytes.decodersThatHold.contains id=false)(r:Vn table id=some b)
  (h:tL (pR prog w) A.in1 (Vg id c) (λJ g=>bD (pR prog w) A.in1 (b c)
   (wH (pR prog w) A R) (λe k=>R (.error e) k) g)
   (λe k=>R (.error e) k) s):co (pR prog w) A (.call (.builtin id) c) R s:=by
 refine bz ?_;refine aD (UZ h (λJ g j=>aF ⟨V6 m c,p,gb r ?_⟩) λJ J u=>u);refine Vi m c▸ ?_;exact j
def mh{T:String}{name:Str}{id:String}{b:YU}{as:List Value}{Q:Value->bS->Prop}(h:Slot T name id)
  (j:Builtin.Bytes.decodersThatHold.contains id=false) (k:Vn table id=some b)
  (m:bD (pR prog w) A.in1 (b ⟨as,[]⟩) (λfin g=>∃v,fin=.done (.ret v)/\Q v g) E s)
  (p:∀ {P:Unit->bS->Prop} {F:Value->bS->Prop},P () s->tL (pR prog w) A.in1 (Vg id ⟨as,[]⟩) P F s):
  bD (pR prog w) A (call (.builtin id) as) Q E s:=by
 refine iL (kH h.plain j k (p (aJ m (λfin g c=>?_) λJ J c=>c)));obtain⟨v,rfl,r⟩:=c;exact r
def ix{T:String}{name:Str}{id:String}{b:YU}{c:Value}{g:List Value}{Q:Value->bS->Prop}(h:Slot T name id)(j:s.TypeIs c T)
  (k:Builtin.Bytes.decodersThatHold.contains id=false) (m:Vn table id=some b)
  (p:bD (pR prog w) A.in1 (b ⟨c::g,[]⟩) (λfin r=>∃v,fin=.done (.ret v)/\Q v r) E s)
  (u:Xu id ⟨c::g,[]⟩:=by rfl):
  bD (pR prog w) A (call (.builtin id) (c::g)) Q E s:=
 mh h k m p λq=>h.check _ _ _ _ _ _ _ _ j u q
def wpB_callSpecial?_slot{b:Value}{T:String}{name:Str}{id:String}{c:List Value}{j:List (Str×Value)}
  {Q:Option Value->bS->Prop} (k:s.TypeIs b T) (h:Slot T name id)
  (m:bD (pR prog w) A (call (.builtin id) (b::c) j) (λv=>Q (some v)) E s):bD (pR prog w) A (callSpecial? b name c j) Q E s:=by
 refine aD (As k h.lookup ?_);simp only [h.bind];exact aK (aA (aF (aA (aJ m (λv p g=>aF g) λJ J g=>g))))
def lb{T k b:String}{M:YU}{h:List Value}{Q Q₁:Value->bS->Prop}(p:TypeCalled T k b)(y:Builtin.Bytes.decodersThatHold.contains b=false)
  (B:checkTypeCall T ⟨h,[]⟩=pure ()) (m:Vn table b=some M)
  (v:aa0 (pR prog w) A.in1 (.call (.builtin k) ⟨.type T::h,[]⟩) (wants Q₁ E) s)
  (u:∀j g,Q₁ j g->g.TypeIs j T/\(∀ {P:Unit->bS->Prop} {F:Value->bS->Prop},P () g->tL (pR prog w) A.in1.in1 (Vg b ⟨j::h,[]⟩) P F g)/\
   bD (pR prog w) A.in1.in1 (M ⟨j::h,[]⟩) (λfin O=>fin=.done (.ret .none)/\Q j O) E g):
  bD (pR prog w) A (call (.type T) h) Q E s:=by
 refine eT p.mro λc tl x=>?_
 refine iL (bz ?_);refine aF ⟨Zr _ (by decide+kernel),(by decide+kernel:Builtin.Bytes.decodersThatHold.contains "type.__call__" =false),gb F.entry_type_call ?_⟩;dsimp -zeta only;refine qA (by rw [p.notType];decide) ?_;refine qA (by rw [p.canCreate];decide) ?_;refine aD (AS B ?_);refine aD (AS x ?_);refine aD (AS p.made ?_);refine aA (aF ?_);refine aD (LO (aaN (codeAny_mono v λr g C=>?_)));induction r with
 |error e=>exact C
 |ok Y=>
  induction Y with
  |ret j=>
   refine eK (u _ _ C) λU D G=>?_
   refine aD (U0 U p.sub ?_);refine aA (aK (wpB_callSpecial?_slot U p.init (mh p.init y m (aJ G (λfin O h'=>?_) λJ J z=>z) D)));obtain⟨rfl,hq⟩:=h';refine⟨_,rfl,?_⟩;exact aF hq
  |_=>exact C.elim
def Bc{as:List Value}(c:Vg "bytearray.__new__" ⟨.type "bytearray" ::as,[]⟩=pure ()){Q₁:Value->bS->Prop}
  (h:Q₁ (.ref s.heap.objs.size) {s with heap:=s.heap.push (bC #[])}):
  aa0 (pR prog w) A (.call (.builtin "bytearray.__new__") ⟨.type "bytearray" ::as,[]⟩) (wants Q₁ E) s:=by
 refine YN ?_;refine aS (AS c (fS ⟨V6 BA.plain_new _,codeAny_builtin_stack BA.entry_new rfl λp st=>?_⟩));refine Vi BA.plain_new _▸ ?_;have b:=BA.sub;obtain⟨hp,g,d,j,os⟩:=s;simp only [BA.owner_new];wp_walk;exact h
def Dg:(("bytearray.__release_buffer__" :String).endsWith ("." ++ "__release_buffer__"))=true:=by decide+kernel
def Dc:("bytearray.__release_buffer__" :String).dropRight (("__release_buffer__" :String).length+1)= "bytearray" :=by decide+kernel
def v8:(("bytearray.__buffer__" :String).endsWith ("." ++ "__buffer__"))=true:=by decide+kernel
def wb:("bytearray.__buffer__" :String).dropRight (("__buffer__" :String).length+1)= "bytearray" :=by decide+kernel
def sV:(("bytes.__buffer__" :String).endsWith ("." ++ "__buffer__"))=true:=by decide+kernel
def sG:("bytes.__buffer__" :String).dropRight (("__buffer__" :String).length+1)= "bytes" :=by decide+kernel
variable{a:iS}{b:Array UInt8}
def fV{Q:Bool->bS->Prop}(h:s.heap.get? a=some (bC b))(q:Q false s):tL (pR prog w) A (Xv (.ref a)) Q E s:=by
 refine aS ?_;refine aS (As (bL h) BA.rel ?_);refine cX (by rw [Dg];decide) ?_;rw [Dc];exact U0 (bL h) BA.sub (fS q)
def ry{t:Tok}{Q:Bool->bS->Prop}(q:Q false s):tL (pR prog w) A (Xv (.bytes b t)) Q E s:=by
 refine aS ?_;refine aS (As (typeIs_bytes s b t) BA.b_rel ?_);exact fS (fS q)
def tf{id:String}{c:Bool}{t:Tok}{Q:Option (Array UInt8)->bS->Prop}(q:Q (some b) s):tL (pR prog w) A (VS id (.bytes b t) c) Q E s:=by
 have g:=typeIs_bytes s b t;refine aS (As g BA.b_buffer ?_);refine aS ?_;refine aS (As g BA.b_buffer ?_);refine cX (by rw [sV];decide) ?_;rw [sG];refine U0 g BA.sub_b ?_;refine aS (As g BA.b_buffer ?_);refine aS (ry ?_);exact aS (AS (a:=b) rfl (fS q))
def sR{id:String}{c:Bool}{Q:Option (Array UInt8)->bS->Prop}(h:s.heap.get? a=some (bC b))(q:Q (some b) s):tL (pR prog w) A (VS id (.ref a) c) Q E s:=by
 have g:=bL h;refine aS (As g BA.buffer ?_);refine aS ?_;refine aS (As g BA.buffer ?_);refine cX (by rw [v8];decide) ?_;rw [wb];refine U0 g BA.sub ?_;refine aS (As g BA.buffer ?_);refine aS (fV h ?_);exact aS (cE h (fS q))
def xM{Q:Nat->bS->Prop}(h:s.heap.get? a=some (bC b))(q:Q 0 s):tL (pR prog w) A (Xz (.ref a)) Q E s:=by
 exact aS (Wq h (fS q))
def t8{Q:Bool->bS->Prop}(c:A.guards=some [])(h:s.heap.get? a=some (bC b))(q:Q false s):
  bD (pR prog w) A (XI (.ref a)<||>(do return (<-Xz (.ref a))>0)) Q E s:=by
 refine aA (wg c ?_);exact aD (xM h (aF q))
def zR{Q:Unit->bS->Prop}(c:A.guards=some [])(h:s.heap.get? a=some (bC b))(q:Q () s):bD (pR prog w) A (abk (.ref a)) Q E s:=by
 refine aA (t8 c h ?_);exact aF q
def AF{Q:Fin->bS->Prop}(c:A.guards=some [])(h:s.heap.get? a=some (bC b))(q:∀h',OR a s.heap h'->h'.get? a=some (bC #[])->Q (.done (.ret .none)) {s with heap:=h'}):
  bD (pR prog w) A (Builtin.«bytearray.__init__» ⟨[.ref a],[]⟩) Q E s:=by
 refine aD (fV h ?_);refine aD (AS BA.bind0 ?_);dsimp -zeta only;refine aD (AS (a:=()) rfl ?_);refine aD (AS (a:=()) rfl ?_);refine aA (t8 c h ?_);refine aD (gq h (Tl _) λh' g j=>?_);exact aF (q h' g j)
def C9{c:Array UInt8}{t:Tok}{Q:Fin->bS->Prop}(p:A.guards=some [])(h:s.heap.get? a=some (bC b))(hz:c.size<=1000000)(q:∀h',OR a s.heap h'->h'.get? a=some (bC c)->Q (.done (.ret .none)) {s with heap:=h'}):
  bD (pR prog w) A (Builtin.«bytearray.__init__» ⟨[.ref a,.bytes c t],[]⟩) Q E s:=by
 refine aD (fV h ?_);refine aD (AS (BA.bind1 _) ?_);dsimp -zeta only;refine aD (AS (a:=()) rfl ?_);refine aD (AS (a:=()) rfl ?_);refine aA (t8 p h ?_);refine aD (gq h (Tl _) λh' k r=>?_);refine aD (AS (a:=none) rfl ?_);refine aD (AS (a:=()) rfl ?_);refine aD (As (typeIs_bytes _ c t) BA.b_noIndex ?_);refine aD (tf ?_);refine aD (Vj ?_);refine aD (gq r (gD hz (by decide)) λu g j=>?_);exact aF (q u ⟨g.1.trans k.1,λb m=>(g.2 b m).trans (k.2 b m)⟩ j)
def Da{Q:Value->bS->Prop}(h:A.guards=some [])
  (q:∀h',(∀b o,s.heap.get? b=some o->h'.get? b=some o)->h'.get? s.heap.objs.size=some (bC #[])->Q (.ref s.heap.objs.size) {s with heap:=h'}):
  bD (pR prog w) A (call (.type "bytearray") []) Q E s:=by
 refine lb (Q₁:=λv j=>v=.ref s.heap.objs.size/\j={s with heap:=s.heap.push (bC #[])}) BA.called (by decide+kernel) (BA.typeCall _ (by decide)) BA.entry_init (Bc BA.newCall0 ⟨rfl,rfl⟩) λk g z=>?_
 obtain⟨rfl,rfl⟩:=z;have c:(s.heap.push (bC #[])).get? s.heap.objs.size=some (bC #[]):=GD _ rfl;exact⟨bL (s:={s with heap:=s.heap.push (bC #[])}) c,λq=>BA.slot_init.check _ _ _ _ _ _ _ _ (bL (s:={s with heap:=s.heap.push (bC #[])}) c) (BA.args_init1 _) q,AF (s:={s with heap:=s.heap.push (bC #[])}) h c λh' m p=>⟨rfl,q h' (λb o e=>(m.2 b (TS (Nm e))).trans (sT _ e)) p⟩⟩
def ws{c:Array UInt8}{t:Tok}{Q:Value->bS->Prop}(j:A.guards=some [])(hz:c.size<=1000000)
  (q:∀h',(∀b o,s.heap.get? b=some o->h'.get? b=some o)->h'.get? s.heap.objs.size=some (bC c)->Q (.ref s.heap.objs.size) {s with heap:=h'}):
  bD (pR prog w) A (call (.type "bytearray") [.bytes c t]) Q E s:=by
 refine lb (Q₁:=λv k=>v=.ref s.heap.objs.size/\k={s with heap:=s.heap.push (bC #[])}) BA.called (by decide+kernel) (BA.typeCall _ (oP 1)) BA.entry_init (Bc (BA.newCall _) ⟨rfl,rfl⟩) λm h z=>?_
 obtain⟨rfl,rfl⟩:=z;have g:(s.heap.push (bC #[])).get? s.heap.objs.size=some (bC #[]):=GD _ rfl;exact⟨bL (s:={s with heap:=s.heap.push (bC #[])}) g,λq=>BA.slot_init.check _ _ _ _ _ _ _ _ (bL (s:={s with heap:=s.heap.push (bC #[])}) g) (BA.args_init _ _) q,C9 (s:={s with heap:=s.heap.push (bC #[])}) j g hz λh' p r=>⟨rfl,q h' (λb o e=>(p.2 b (TS (Nm e))).trans (sT _ e)) r⟩⟩
def lp{T id:String}{b:YU}{o i v:Value}{Q:Unit->bS->Prop}(j:s.TypeIs o T)(m:seqItemTypes.contains T=false)(c:Slot T "__setitem__" id)(p:Builtin.Bytes.decodersThatHold.contains id=false)(u:Vn table id=some b)(x:Xu id ⟨[o,i,v],[]⟩)
  (h:bD (pR prog w) A.in1 (b ⟨[o,i,v],[]⟩) (λfin k=>∃r,fin=.done (.ret r)/\Q () k) E s):bD (pR prog w) A (XA o i v) Q E s:=by
 refine aK ?_;refine aD (aa1 j m ?_);refine aA (wpB_callSpecial?_slot j c (ix c j p u (aJ h (λfin k y=>?_) λJ J z=>z) x));refine bp y λr g B=>?_
 subst g;exact⟨r,rfl,aF B⟩
def uf{y:Int}{t:Tok}{Q:UInt8->bS->Prop}(b:0<=y)(c:y<256)(q:Q y.toNat.toUInt8 s):tL (pR prog w) A (abl (.int y t)) Q E s:=by
 refine aS (AS (a:=y) rfl ?_);refine cX (by lia) ?_;exact fS q
def IK{k y:Int}{t u:Tok}{Q:Unit->bS->Prop}(h:s.heap.get? a=some (bC b))(c:0<=k)(g:k<2^62)(j:k.toNat<b.size)(hz:b.size<=1000000)(m:0<=y)(p:y<256)
  (q:∀h',OR a s.heap h'->h'.get? a=some (bC (b.setIfInBounds k.toNat y.toNat.toUInt8))->Q () {s with heap:=h'}):bD (pR prog w) A (XA (.ref a) (.int k t) (.int y u)) Q E s:=by
 refine lp (bL h) (by decide) BA.slot_setitem (by decide+kernel) BA.entry_setitem (BA.args_setitem _ _ _) ?_;refine aD (lh c g ?_);refine aD (uf m p ?_);refine aD (cE h ?_);rw [Cc c j];refine aD (gq h (by rw [Array.size_setIfInBounds];exact gD hz (by decide)) λh' r v=>?_);exact aF ⟨_,rfl,q h' r v⟩
def wB{j:iS}{l u:Value}{lo C:Option Int}{c:Array UInt8}{t:Tok}{p r:Nat}{Q:Unit->bS->Prop}(hg:A.guards=some [])(h:s.heap.get? a=some (bC b))(k:s.heap.IsSliceOf j l u .none)(aa:j≠a)
  (Y:Wc l lo) (hu:Wc u C) (hz:b.size<=1000000) (D:c.size<=1000000) (hb:sliceBounds lo C none b.size=((p:Int),(r:Int),1)) (ab:p<=r) (hsz:c.size=r-p)
  (q:∀h',(∀x o,x≠a->s.heap.get? x=some o->h'.get? x=some o)->h'.get? a=some (bC (b.extract 0 p++c++b.extract r b.size))->Q () {s with heap:=h'}):
  bD (pR prog w) A (XA (.ref a) (.ref j) (.bytes c t)) Q E s:=by
 have hT:s.TypeIs (.ref j) "slice" :=⟨_,k.choose_spec.1,k.choose_spec.2.1⟩
 have m:=typeIs_bytes s c t;refine lp (bL h) (by decide) BA.slot_setitem (by decide+kernel) BA.entry_setitem (BA.args_setitem _ _ _) ?_;show bD _ _ (VB (.ref j)>>=λr=>_) _ _ s;refine aD ?_;refine aS (As hT abO (fS ?_));dsimp -zeta only;refine aD (aab hT ?_);refine qA (by decide) ?_;refine aD (fW k Y hu ?_);refine aD (U0 m BA.sub_b_ba ?_);refine pO (by decide) ?_;have G:tL (pR prog w) A.in1 ((do return (<-Yv (.bytes c t) "__index__").isSome:Sem Bool)<||>((do return (<-Yv (.bytes c t) "__int__").isSome:Sem Bool)<||>((do return (<-Yv (.bytes c t) "__float__").isSome:Sem Bool)<||>aaO (.bytes c t) (.type "complex"))))
   (λr s'=>r=false/\s'=s) E s:=by
  refine aS (aS (As m BA.b_noIndex (fS ?_)));refine aS (aS (As m BA.b_no_int (fS ?_)));refine aS (aS (As m BA.b_no_float (fS ?_)));exact U0 m BA.sub_b_c ⟨rfl,rfl⟩
 refine aD (UZ G (λr0 y z=>?_) λJ J e=>e);obtain⟨rfl,rfl⟩:=z;refine aD (AS (a:=none) rfl ?_);refine qA (by decide) ?_;refine aD (Vj ?_);refine aA (ws (A:=A.in1) hg D λB g M=>?_);refine aD (LO (fW (s:={y with heap:=B}) ⟨_,g _ _ k.choose_spec.1,k.choose_spec.2⟩ Y hu ?_));refine aD (cE (s:={y with heap:=B}) M ?_);refine aD (cE (s:={y with heap:=B}) (g _ _ h) ?_);refine aD (AS (abj lo C none b.size (λe=>nN e)) ?_);rw [hb];dsimp only;refine pO (by decide) ?_;refine aD (Vj ?_);have em:max (p:Int) (r:Int)=r:=by lia
 rw [em,if_neg (by rw [adi];intro z;exact z (by(clear z em;lia)))];have v:(b.extract 0 (p:Int).toNat++c++b.extract (r:Int).toNat).size<=sizeLine:=by
  simp only [Zs,Array.size_extract,Int.toNat_natCast];have:(2000000:Nat)<=sizeLine:=by decide
  (clear hsz;lia)
 refine aD (gq (s:={y with heap:=B}) (g _ _ h) v λh2 O U=>?_);exact aF ⟨_,rfl,q h2 (λx o hx e=>(O.2 x hx).trans (g _ _ e)) U⟩
def kM{v:Value}{s:bS}(m:Vg "bytes.__new__" ⟨[.type "bytes",v],[]⟩=pure ()){Q:Value->bS->Prop}{x:Array UInt8}
  (h:∀p:Bs,tL (pR prog w) p (Builtin.«bytes.__new__» ⟨[.type "bytes",v],[]⟩) (λfin j=>∃t k,fin=.done (.ret (.bytes x t))/\j={s with toks:=k}) E s)
  (q:∀t k,Q (.bytes x t) {s with toks:=k}):
  tL (pR prog w) A (call (.type "bytes") [v]) Q E s:=by
 refine callType_codes (Q₁:=λg b=>b.TypeIs g "bytes" /\Q g b) F.bm_called (F.bm_typeCall _) F.entry_object_init ?_ λg b c=>?_
 ·refine YN ?_;refine aS (AS m (fS ⟨V6 F.bm_plain _,V8 F.bm_entry ?_⟩));refine UZ (h _) (λfin j z=>?_) λJ J e=>e
  obtain⟨t,k,rfl,rfl⟩:=z;exact⟨PySem.W.typeIs_bytes _ _ _,q t k⟩
 ·exact⟨c.1,F.args_object_init_2 g _,object_init_meets F.bm_called.init.lookup F.bm_called.made (by decide) prog w A.in1 _ b ⟨c.1,rfl,c.2⟩⟩
def Bv{Q:Value->bS->Prop}(h:s.heap.get? a=some (bC b))(hz:b.size<=1000000)(q:∀t k,Q (.bytes b t) {s with toks:=k}):
  tL (pR prog w) A (call (.type "bytes") [.ref a]) Q E s:=by
 refine kM (F.bm_newCall _) (λg=>?_) q;have c:=bL h;refine aS (AS (a:=true) rfl ?_);refine aS (AS F.bm_sub ?_);refine aS (AS (F.bm_bind _) ?_);refine aS (AS (a:=()) rfl ?_);refine aS (AS (a:=()) rfl ?_);refine aS (As c BA.no_bytes ?_);refine aS (aS ?_);refine aS (Wq h ?_);refine fS (fS ?_);refine aS (As c BA.noIndex ?_);first
  |show tL _ _ (VS "bytes.__new__" (.ref a) true>>=_) _ _ _
  |(refine aS ?_;show tL _ _ (VS "bytes.__new__" (.ref a) true>>=_) _ _ _)
 refine aS (sR h ?_);refine aS (Vj ?_);refine aS (wpAny_mkBytes ?_ (gD hz (by decide)));first
  |exact fS ⟨_,_,rfl,rfl⟩
  |exact aS (fS (fS ⟨_,_,rfl,rfl⟩))
  |exact fS (fS ⟨_,_,rfl,rfl⟩)
def Ce:Vb (.type "bytes") "__bytes__" =pure (some (.builtin "bytes.__bytes__")):=by kernel_rfl
def uP:Vb (.type "int") "__bytes__" =pure none:=by kernel_rfl
def BH{t:Tok}{Q:Value->bS->Prop}(q:∀t k,Q (.bytes b t) {s with toks:=k}):
  tL (pR prog w) A (call (.type "bytes") [.bytes b t]) Q E s:=by
 refine kM (F.bm_newCall _) (λg=>?_) q;have c:=typeIs_bytes s b t;refine aS (AS (a:=true) rfl ?_);refine aS (AS F.bm_sub ?_);refine aS (AS (F.bm_bind _) ?_);refine aS (AS (a:=()) rfl ?_);refine aS (AS (a:=()) rfl ?_);refine aS (As c Ce ?_);refine aS (Vj ?_);refine aS (aab c ?_);first
  |exact fS ⟨_,s.toks,rfl,rfl⟩
  |exact aS (fS (fS ⟨_,s.toks,rfl,rfl⟩))
  |exact fS (fS ⟨_,s.toks,rfl,rfl⟩)
def Ae{n:Int}{t:Tok}{Q:Value->bS->Prop}(c:0<=n)(b:n<=1000000)(q:∀t k,Q (.bytes (aam n.toNat 0) t) {s with toks:=k}):
  tL (pR prog w) A (call (.type "bytes") [.int n t]) Q E s:=by
 refine kM (F.bm_newCall _) (λj=>?_) q;have g:=Y1 s n t;refine aS (AS (a:=true) rfl ?_);refine aS (AS F.bm_sub ?_);refine aS (AS (F.bm_bind _) ?_);refine aS (AS (a:=()) rfl ?_);refine aS (AS (a:=()) rfl ?_);refine aS (As g uP ?_);refine aS (aS (AS (a:=none) rfl (fS ?_)));refine aS (As g int_index ?_);refine aS (XO (AS (a:=n) rfl ?_));refine cX (by rw [show Xx n=true from Bool.and_eq_true_iff.mpr ⟨lO (Int.le_trans (by decide) c),lO (Int.lt_of_le_of_lt b (by decide))⟩];decide) ?_;refine cX (Int.not_lt.mpr c) ?_;refine cX (Int.not_lt.mpr (Int.le_trans b (by decide))) ?_;have h:n.toNat<=sizeLine:=gD (Int.toNat_le.mpr b) (by decide);refine cX (λe=>absurd (EX e) (Nat.not_lt.mpr h)) ?_;refine aS (Vj ?_);refine aS (wpAny_mkBytes ?_ (Array.size_replicate▸h));first
  |exact fS ⟨_,_,rfl,rfl⟩
  |exact aS (fS (fS ⟨_,_,rfl,rfl⟩))
  |exact fS (fS ⟨_,_,rfl,rfl⟩)
inductive vD(s:bS):Value->Array UInt8->Prop
 |by(c:Array UInt8) (t:Tok):vD s (.bytes c t) c
 |ba {x:iS} {c:Array UInt8} (h:s.heap.get? x=some (bC c)):vD s (.ref x) c
def vD.take{v:Value}{c:Array UInt8}(o:vD s v c){Q:Option (Array UInt8×Option Value)->bS->Prop}(q:Q (some (c,none)) s):tL (pR prog w) A (abm "bytearray.extend" v 0) Q E s:=by
 refine aS (XO ?_);induction o with
 | «by» c t=>
  have b:=typeIs_bytes s c t;refine aS (As b BA.b_buffer ?_);refine aS ?_;refine aS (As b BA.b_buffer ?_);refine cX (by rw [sV];decide) ?_;rw [sG];refine U0 b BA.sub_b ?_;refine aS (As b BA.b_buffer ?_);refine aS (tf ?_);exact fS (fS q)
 |ba h=>
  have b:=bL h;refine aS (As b BA.buffer ?_);refine aS ?_;refine aS (As b BA.buffer ?_);refine cX (by rw [v8];decide) ?_;rw [wb];refine U0 b BA.sub ?_;refine aS (As b BA.buffer ?_);refine aS (sR h ?_);exact fS (fS q)
def vD.special{v:Value}{c:Array UInt8}(o:vD s v c):∃T m,s.TypeIs v T/\Vb (.type T) "__buffer__" =pure (some (.builtin m)):=by
 induction o with
 | «by» c t=>exact⟨_,_,typeIs_bytes s c t,BA.b_buffer⟩
 |ba h=>exact⟨_,_,bL h,BA.buffer⟩
def zZ{v:Value}{c:Array UInt8}{Q:Fin->bS->Prop}(p:A.guards=some [])(h:s.heap.get? a=some (bC b))(o:vD s v c)(hz:b.size<=1000000)(k:c.size<=1000000)
  (q:∀h',OR a s.heap h'->h'.get? a=some (bC (b++c))->Q (.done (.ret .none)) {s with heap:=h'}):bD (pR prog w) A (Builtin.«bytearray.extend» ⟨[.ref a,v],[]⟩) Q E s:=by
 refine bW o.special λT m r u=>?_
 refine aD (AS (a:=(.ref a,v)) rfl ?_);refine aD (As r u ?_);refine aD (Vj ?_);refine aD (cE h ?_);refine aD (o.take ?_);dsimp -zeta only;show bD _ _ (if (!c.isEmpty)=true then _ else _) _ _ _;have j:(b++c).size<=sizeLine:=by
  rw [Zs];exact gD (Nat.add_le_add hz k) (by decide)
 have g:bD (pR prog w) A (Yb (.ref a) (· ++c)>>=λJ=>ret .none) Q E s:=
  aD (gq h j λh' x y=>aF (q h' x y))
 split
 ·exact aA (zR p h g)
 ·exact g
end
end
section
section
variable{c:bo}{A:Bs}{pr:PH}
def bF(b:iD)(o i:Value):∃c,subscripted b false o i=operate c (getItem o i):=by
 cases b with
 |Slice l u st p=>induction st with
  |none=>exact⟨_,rfl⟩
  |some _=>exact⟨_,rfl⟩
 |_=>exact⟨_,rfl⟩
theorem I.tuple{b:H}{h:UT}{a:iS}{xs:List V}(x:I c pr b h)(e:b a=some (.tuple xs)):∃items n,IsT h a items n/\items.toList.map er=xs:=let ⟨_,z⟩:=x.at e;z
theorem I.ba{j:H}{h:UT}{a:iS}{b:List UInt8}(x:I c pr j h)(e:j a=some (.ba b)):∃g,h.get? a=some (bC g)/\g.toList=b:=let ⟨_,z⟩:=x.at e;z
def yO{items:Array Value}{k:Nat}{v:V}(h:(items.toList.map er)[k]? =some v):∃x,items[k]? =some x/\er x=v:=by
 simp only [PR,Option.map_eq_some_iff] at h;refine bp h λx b c=>?_
 exact⟨x,by simpa using b,c⟩
def CT{K:Type} [DecidableEq K] {b:List (K×Value)}{f:K->Option V}(c:∀k,(UU b k).map er=f k){x:K}{v:V}(h:f x=some v):∃y,UU b x=some y/\er y=v:=Option.map_eq_some_iff.mp ((c x).trans h)
def Fw{o i:Value}{Q:V->H->Prop}{j:H}{h:UT}{G:Value->Value->Prop}(X:I c pr j h)(q:g9 (er o) (er i) Q j)
  (k1:∀a x t items n y,IsL h a items n->0<=x->x<2^62->items[x.toNat]? =some y->Q (er y) j->G (.ref a) (.int x t))
  (k2:∀a x t items n y,IsT h a items n->0<=x->x<2^62->items[x.toNat]? =some y->Q (er y) j->G (.ref a) (.int x t))
  (k3:∀a x t (m:Array UInt8) (v:UInt8),h.get? a=some (bC m)->0<=x->x<2^62->m.toList[x.toNat]? =some v->Q (.int v.toNat) j->G (.ref a) (.int x t))
  (k4:∀a x t g y,h.DictOf (VI c.prog c.w) a g->UU g x=some y->Q (er y) j->G (.ref a) (.int x t))
  (k5:∀a x t g y,h.DictOf (strKind c.prog c.w) a g->UU g x=some y->Q (er y) j->G (.ref a) (.str x t)):G o i:=by
 generalize u:er o=w;induction w with
 |ref a=>generalize A:er i=w;induction w with
  |int x=>
   rw [u,A] at q;obtain⟨t,z⟩:=cv A;rw [bK u,z];unfold g9 at q;dsimp only at q;generalize k:j a=w;induction w with
   |none=>rw [k] at q;exact q.elim
   |some ob=>
    rw [k] at q;induction ob with
    |list J=>
     obtain⟨B,C,D⟩:=q;obtain⟨v,p,r⟩:=hH (o:=J[x.toNat]?) (f:=λv=>Q v j) D;obtain⟨items,n,M,rfl⟩:=X.list k;obtain⟨y,s,rfl⟩:=yO p;exact k1 a x t items n y M B C s r
    |tuple J=>
     obtain⟨B,C,D⟩:=q;obtain⟨v,p,r⟩:=hH (o:=J[x.toNat]?) (f:=λv=>Q v j) D;obtain⟨items,n,M,rfl⟩:=X.tuple k;obtain⟨y,s,rfl⟩:=yO p;exact k2 a x t items n y M B C s r
    |ba b=>
     obtain⟨B,C,D⟩:=q;refine bp (hH (o:=b[x.toNat]?) (f:=λ(v:UInt8)=>Q (.int v.toNat) j) D) λv p r=>?_
     refine bp (X.ba k) λm hb O=>?_;subst O
     exact k3 a x t m v hb B C p r
    |idict f=>
     obtain⟨v,p,r⟩:=hH (o:=f x) (f:=λv=>Q v j) q;obtain⟨g,U,Y⟩:=eU X k;obtain⟨y,s,rfl⟩:=CT Y p;exact k4 a x t g y U s r
    |_=>exact q.elim
  |str x=>
   rw [u,A] at q;obtain⟨t,z⟩:=AV A;rw [bK u,z];unfold g9 at q;dsimp only at q;rcases k:j a with _|ob
   ·rw [k] at q;exact q.elim
   ·
    rw [k] at q;induction ob with
    |sdict f=>
     obtain⟨v,p,r⟩:=hH (o:=f x) (f:=λv=>Q v j) q;refine dQ (wk X k) λg U aa Y=>?_
     obtain⟨y,s,rfl⟩:=CT Y p;exact k5 a x t g y U s r
    |_=>exact q.elim
  |_=>rw [u] at q;have q:=A▸q;exact q.elim
 |_=>have q:=u▸q;exact q.elim
def Fh(g b:iD)(o i:Value):eW c A pr (XQ g b o i) er (g9 (er o) (er i)):=by
 intro Q u s q X;refine Fw (G:=λo i=>tL _ A (XQ g b o i) _ _ s) X q (λa x t h n y w r z p B=>?_) (λa x t h n y w r z p B=>?_) (λa x t M v J r z O B=>?_) (λa x t D y C p q=>?_) λa x t D y C p q=>?_
 ·obtain⟨j,m⟩:=bF b (.ref a) (.int x t);exact Xd w.isList.typeIs aaB (wpAny_getItem_list w.isList r (BE z) p ⟨.refl s,u,B,X⟩) m
 ·obtain⟨j,m⟩:=bF b (.ref a) (.int x t);refine Xd (T:= "tuple") ⟨_,w,rfl⟩ slot_tuple_getitem.lookup (P.getItem_tuple w (KM r) (BE z) (k:=x.toNat) ?_ p ⟨.refl s,u,B,X⟩) m;have U:x<h.size:=Ky (Array.getElem?_eq_some_iff.mp p).1;have Y:¬x<0:=PD r;simp [seqIndex?,Y,r,U]
 ·obtain⟨j,m⟩:=bF b (.ref a) (.int x t);exact Xd (bL J) BA.slot_getitem.lookup (HM J r z (by simpa using O) λt k=>⟨.mkT s k,u,by exact B,X⟩) m
 ·obtain⟨j,m⟩:=bF b (.ref a) (.int x t);exact Xd C.typeIs slot_dict_getitem.lookup (abn (Wb _ _ _ _) C.mapOf p ⟨.mkT s _,u,q,X⟩) m
 ·obtain⟨j,m⟩:=bF b (.ref a) (.str x t);exact Xd C.typeIs slot_dict_getitem.lookup (abn (Y3 _ _ _ _) C.mapOf p ⟨.mkT s _,u,q,X⟩) m
def zl(i:Int)(n:Nat):Wi n i=cM i n:=by
 have e:∀z:Int,(max 0 z).toNat=z.toNat:=λz=>by
  rcases Int.le_total 0 z with h|h
  ·rw [Int.max_eq_right h]
  ·rw [Int.max_eq_left h,Int.toNat_of_nonpos h];rfl
 delta Wi cM;rw [e];by_cases h:i<0
 ·rw [eX h,eX h,Int.min_eq_left (by exact Sv h)]
 ·rw [if_neg h,if_neg h];refine du (Int.eq_ofNat_of_zero_le (Int.not_lt.mp h)) λk b=>?_
  subst b;rw [<-aa2,Int.toNat_natCast,Int.toNat_natCast]
noncomputable def xJ:V->Option (Option Int)
 | .none=>some none
 | .int i=>some (some i)
 |_=>none
def jx{v:Value}{p:Option Int}(h:xJ (er v)=some p):Wc v p:=by
 induction v with
 |none=>obtain rfl:=eQ h;constructor
 |int i t=>obtain rfl:=eQ h;constructor
 |_=>exact nN h
noncomputable def picked{b:Type}(xs:List b)(p q:Option Int):List b:=(xs.drop (p.elim 0 (Wi xs.length))).take (q.elim xs.length (Wi xs.length)-p.elim 0 (Wi xs.length))
def FT{v:V}{n a:Nat}(h:mL v n=some a):∃p,xJ v=some p/\a=p.elim 0 (Wi n):=by
 induction v with
 |none=>exact⟨none,rfl,(eQ h).symm⟩
 |int i=>exact⟨some i,rfl,(eQ h).symm.trans (zl i n).symm⟩
 |_=>exact nN h
def GL{v:V}{n a:Nat}(h:mP v n=some a):∃p,xJ v=some p/\a=p.elim n (Wi n):=by
 induction v with
 |none=>exact⟨none,rfl,(eQ h).symm⟩
 |int i=>exact⟨some i,rfl,(eQ h).symm.trans (zl i n).symm⟩
 |_=>exact nN h
def pM{m:Type}{xs r:List m}{l u:Value}(h:dm xs (er l) (er u)=some r):∃p q,Wc l p/\Wc u q/\picked xs p q=r:=by
 unfold dm at h;generalize g:mL (er l) xs.length=j;induction j with
 |none=>have h:=g▸h;exact nN h
 |some a=>generalize k:mP (er u) xs.length=j;induction j with
  |none=>rw [g,k] at h;exact nN h
  |some b=>
   rw [g,k] at h;refine bp (FT g) λp hp c=>?_;subst c
   refine bp (GL k) λq s c=>?_;subst c
   exact⟨p,q,jx hp,jx s,(List.drop_take ..).symm.trans (eQ h)⟩
def Fp{o l u:Value}{Q:V->H->Prop}{s:H}{h:UT}{G:Value->Prop}(X:I c pr s h)(q:jP (er o) (er l) (er u) Q s)
  (O:∀(g:Array UInt8) t p k,Wc l p->Wc u k->g.toList.length<=1000000->Q (.bytes (picked g.toList p k)) s->G (.bytes g t))
  (M:∀a items n p k,IsL h a items n->Wc l p->Wc u k->(items.toList.map er).length<=1000000->fresh (.list (picked (items.toList.map er) p k)) Q s->G (.ref a))
  (U:∀a (g:Array UInt8) p k,h.get? a=some (bC g)->Wc l p->Wc u k->g.toList.length<=1000000->fresh (.ba (picked g.toList p k)) Q s->G (.ref a)):G o:=by
 generalize z:er o=B;induction B with
 |bytes b=>
  rw [z] at q;obtain⟨v,w⟩:=q;refine bp (hH (o:=dm b _ _) (f:=λr=>Q (.bytes r) s) w) λr x y=>?_
  refine bW (gm z) λg t j C=>?_;subst j;subst C
  refine lC (pM x) λp k hp m j=>?_;subst j
  exact O g t p k hp m v y
 |ref a=>
  have q:=z▸q;rw [bK z];unfold jP at q;dsimp only at q;generalize A:s a=B;induction B with
  |none=>rw [A] at q;exact q.elim
  |some ob=>
   have q:=A▸q;induction ob with
   |list D=>
    obtain⟨v,w⟩:=q;obtain⟨r,x,y⟩:=hH (o:=dm D _ _) (f:=λr=>fresh (.list r) Q s) w;obtain⟨items,n,J,rfl⟩:=X.list A;refine lC (pM x) λp k hp m j=>?_;subst j
    exact M a items n p k J hp m v y
   |ba b=>
    obtain⟨v,w⟩:=q;refine bp (hH (o:=dm b _ _) (f:=λr=>fresh (.ba r) Q s) w) λr x y=>?_
    refine bp (X.ba A) λg Y j=>?_;subst j
    refine lC (pM x) λp k hp m j=>?_;subst j
    exact U a g p k Y hp m v y
   |fix o0 D=>
    obtain⟨v,w⟩:=q;refine bp (hH (o:=dm D _ _) (f:=λr=>fresh (.list r) Q s) w) λr x y=>?_
    obtain⟨_,items,n,J,rfl⟩:=X.fixed A;refine lC (pM x) λp k hp m j=>?_;subst j
    exact M a items n p k J hp m v y
   |_=>exact q.elim
 |_=>rw [z] at q;exact q.elim
noncomputable abbrev qZ(l u:Value):Obj:={cls:=.type "slice",data:=.fields #[l,u,.none]}
def Js:(1000000:Nat)<=sizeLine:=by decide
def Eg{Q:V->H->Prop}{D:H}{s:bS}(g b:iD)(o l u:Value)(q:jP (er o) (er l) (er u) Q D)(X:I c pr D s.heap):
  tL (pR c.prog c.w) A (XQ g b o (.ref s.heap.objs.size)) (Ends c pr er Q s) No {s with heap:=s.heap.push (qZ l u)}:=by
 have J:=Yc s.heap l u .none;have r:=X.push (qZ l u);refine Fp (G:=λo=>tL _ A (XQ g b o _) _ _ _) X q (λh t p C hp j v w=>?_) (λa m n p C M hp j v w=>?_) λa h p C O hp j v w=>?_
 ·refine du (bF b (.bytes h t) (.ref s.heap.objs.size)) λx y=>?_
  refine Xd (typeIs_bytes _ _ _) FB.slot_bytes_getitem.lookup (getItem_meets (typeIs_bytes _ _ _) (by decide) FB.slot_bytes_getitem FB.entry_bytes_getitem (FB.args_bytes_getitem_2 _ _) (KBc.meets_slice2 h t _ hp j)
   ⟨J,gD (aac h p C) (gD v Js),λU k=>⟨.mk' s _ k,D,?_,r⟩⟩) y
  rw [aa3];exact w
 ·refine du (bF b (.ref a) (.ref s.heap.objs.size)) λx y=>?_
  have z:(s.heap.push (qZ l u)).IsList a m:=(M.isList).push _;refine Xd z.typeIs aaB (wpAny_getItem_list_slice z J hp j .none (by decide) ⟨.mkH s _,_,c8 r w,r.new ?_ rfl⟩ (gD (by simpa using v) Js)) y;have:=vI (c:=c) (s.heap.push (qZ l u)) (slicePick m p C none) (s.heap.push (qZ l u)).objs.size;rw [slicePick_plain] at this⊢;unfold picked;simpa [aaP,List.map_drop] using this
 ·refine du (bF b (.ref a) (.ref s.heap.objs.size)) λx y=>?_
  have B:(s.heap.push (qZ l u)).get? a=some (bC h):=sT _ O;refine Xd (bL (s:={s with heap:=s.heap.push (qZ l u)}) B) BA.slot_getitem.lookup
   (HN (s:={s with heap:=s.heap.push (qZ l u)}) B J hp j (by exact v) ⟨.mkH s _,_,c8 r w,r.new ⟨_,GD _ rfl,?_⟩ rfl⟩) y
  rw [aa3];rfl
def Cq{prog:Vd}{w:Va}{E:Value->bS->Prop}{s:bS}{l:iS}{items:Array Value}{n:Nat}{k:Int}{t:Tok}{v:Value}{Q:Unit->bS->Prop}(c:IsL s.heap l items n)
  (h:0<=k) (m:k<2^62) (p:k.toNat<items.size) (q:∀h' b,IsL h' l (items.setIfInBounds k.toNat v) b->OR l s.heap h'->Q () {s with heap:=h'}):
  tL (pR prog w) A (XA (.ref l) (.int k t) v) Q E s:=by
 have g:=c.isList.typeIs (s:=s);refine LO (aS (aa1 g (by decide) ?_));refine aS (wpAny_callSpecial?_slot (name:=Str.ofString "__setitem__") g aa4 (UY aa4 g entry_list_setitem ?_ (args_list_setitem _ _ _)));refine(aS (wpAny_listSubscript_int (fitsIndex_of h (BE m)) ?_):tL _ _ (abF (.int k t)>>=_) _ _ s);obtain⟨j,rfl⟩:=Int.eq_ofNat_of_zero_le h;refine(aS (aS (wpAny_seqItemAt c rfl (fS ?_))):tL _ _ ((seqItemAt l j>>=λr=>pure (r.map (j,·)))>>=_) _ _ s);have u:j<items.size:=p;rw [Hd u];refine aS (wpAny_setSeqItemAt c rfl ?_);have fin:∃b,IsL (s.heap.update l (Obj.mapSeq (·.setIfInBounds j v))) l (items.setIfInBounds j v) b:=⟨_,UW (Obj.mapSeq (·.setIfInBounds j v)) c rfl⟩
 obtain⟨b,fin⟩:=fin;first
  |exact aS (fS (fS ⟨.none,rfl,fS (q _ b fin (Ts ..))⟩))
  |exact fS ⟨.none,rfl,fS (q _ b fin (Ts ..))⟩
def wy{K:Type} [DecidableEq K] {b:List (K×Value)}{k:K}(h:k∈b.map (·.1)):UU b k≠none:=by
 induction b with
 |nil=>exact nM h
 |cons p r c=>
  unfold UU;by_cases e:p.1=k
  ·simp [e]
  ·have:k∈r.map (·.1):=by
    rcases List.mem_cons.mp h with h|h
    ·exact absurd h.symm e
    ·exact h
   have:=c this;unfold UU at this;simpa [e] using this
theorem o4:∀(m:Nat) (xs:List Int),xs.Nodup->(∀x∈xs,0<=x/\x<(m:Int))->xs.length<=m
 |0,xs,_,h=>by
  induction xs with
  |nil=>simp
  |cons x r=>have:=h x (by exact .head _);exact OF this
 |m+1,xs,b,h=>by
  have g:=λx c=>by
   have:x≠(m:Int):=λe=>by subst e;exact(ab9 b) c
   exact LX (h x (Y4 c)) this
  have:=o4 m _ (b.erase _) g;have:=Zg (a:=(m:Int)) (l:=xs);have:xs.length-1<=(xs.erase (m:Int)).length:=by rw [List.length_erase];split<;>omega
  exact JS this ‹_›
set_option tactic.hygienic true in
def ey{K:Type} [DecidableEq K] {c:List (K×Value)}{k x:K}{v:Value}:UU (aad c k v) x=if x=k then some v else UU c x:=by
 unfold aad;split
 ·rename_i h;induction c with
  |nil=>exact fT h
  |cons p r u=>
   unfold UU;by_cases e:p.1=k
   ·by_cases j:x=k
    ·subst j;simp [Yd,e]
    ·have w:¬p.1=x:=λz=>j (z▸e)
     simp only [IS,e,if_true,Yd];have y:¬k=x:=λz=>j z.symm
     simp only [y,decide_false,if_neg j];by_cases s:r.any (λb=>decide (b.1=k))=true
     ·have:=u s;unfold UU at this;simpa [j] using this
     ·have:r.map (λb=>if b.1=k then(b.1,v) else b)=r:=by
       rw [Ws (g:=id),List.map_id];intro b m;have:=λz=>s (List.any_eq_true.mpr ⟨b,m,by exact eX z⟩)
       exact if_neg this
      rw [this]
   ·have s:r.any (λb=>decide (b.1=k))=true:=by simpa [e] using h
    have:=u s;unfold UU at this;simp only [IS,e,if_false,Yd];by_cases j:p.1=x
    ·have w:¬x=k:=λz=>e (j.trans z)
     simp [j,w]
    ·simpa [j] using this
 ·rename_i h;unfold UU;rw [List.find?_append];by_cases e:x=k;have A:=λb m z=>h (List.any_eq_true.mpr ⟨b,m,by exact eX z⟩)
  ·subst e;simp [(List.find?_eq_none.mpr λb m=>by simpa using A b m:c.find? (λb=>decide (b.1=x))=none)]
  ·have j:¬k=x:=λz=>e z.symm
   generalize C:c.find? (λb=>decide (b.1=x))=B;induction B<;>simp [e,j]
def qj{b:List (Int×Value)}{f:Int->Option V}{n:Nat}(c:(b.map (·.1)).Nodup)(g:∀k,(UU b k).map er=f k)(j:∀k,f k≠none->0<=k/\k<(n:Int)):b.length<=n:=by
 rw [<-eS (f:=(·.1))];refine o4 n _ c λx m=>j x ?_
 rw [<-g];generalize h:UU b x=p;induction p with
 |none=>exact absurd h (wy m)
 |some v=>simp
def Enc.local2{h h':UT}{d a:iS}{o:AO}(e:Enc c h d a o)(j:∀ob,h.get? a=some ob->h'.get? a=some ob)(D:o.isInst=true->∀ob,h.get? d=some ob->h'.get? d=some ob):Enc c h' d a o:=by
 induction o with
 |list B=>refine bW e λg n x y=>?_;exact⟨g,n,j _ x,y⟩
 |tuple B=>refine bW e λg n x y=>?_;exact⟨g,n,j _ x,y⟩
 |idict f=>obtain⟨k,⟨o,p,s,w,r⟩,y⟩:=e;exact⟨k,⟨o,p,s,j _ w,r⟩,y⟩
 |sdict f=>obtain⟨k,⟨o,p,s,w,r⟩,y⟩:=e;exact⟨k,⟨o,p,s,j _ w,r⟩,y⟩
 |ba b=>refine bp e λA x y=>?_;exact⟨A,j _ x,y⟩
 |inst C G=>obtain⟨x,y,p,s,m,z,r⟩:=e;exact⟨j _ x,y,p,s,m,D rfl _ z,r⟩
 |rng lo J=>obtain⟨⟨t,u,v,x⟩,r⟩:=e;exact⟨⟨t,u,v,j _ x⟩,r⟩
 |fix o B=>obtain⟨x,g,n,y,z⟩:=e;exact⟨j _ x,g,n,j _ y,z⟩
set_option tactic.hygienic true in
def I.turn2{r:H}{h h':UT}{a:iS}{g o:AO}(x:I c pr r h)(u:r a=some g)(v:∀b ob,b≠a->h.get? b=some ob->h'.get? b=some ob)(e:Enc c h' a a o)(k:o.isInst=false)(w:g.isInst=false):
  I c pr (r.put a o) h':=by
 refine du x.lay λB L=>?_
 have m:∀b C j,r b=some (.inst C j)->B b≠a:=λb C j q z=>by
  have:=(L.priv b C j q).2.1;rw [z] at this;have this:=u▸this;cases this
 refine⟨λb o e=>v b o (λz=>?_) (x.fz b o e),x.kin,B,λb ob q=>?_,λb ob q=>?_,λb C j q=>?_⟩
 ·have:=L.off a _ u;rw [<-z] at this;have this:=e▸this;cases this
 ·unfold H.put at q;split at q
  ·rename_i p;subst p;obtain rfl:=eQ q
   revert k e;cases o<;>intro k e<;>first|(cases k;done)|exact e
  ·rename_i p;refine(L.enc b ob q).local2 (λy=>v b y p) λz y=>v _ y ?_
   cases ob with
   |inst C j=>exact m b C j q
   |_=>cases z
 ·unfold H.put at q;split at q
  ·rename_i p;subst p;exact L.off _ _ u
  ·exact L.off b ob q
 ·unfold H.put at q;split at q
  ·obtain rfl:=eQ q;exact nomatch k
  ·refine eK (L.priv b C j q) λD G J=>?_
   refine⟨D,?_,λM O A s Q=>?_⟩
   ·exact H.put_ne _ _ (m b C j q)▸G
   ·unfold H.put at s;split at s
    ·obtain rfl:=eQ s;cases k
    ·exact J M O A s Q
def sJ{K:Type} [DecidableEq K] {b:List (K×Value)}{f:K->Option V}(c:∀k,(UU b k).map er=f k)(x:K)(v:Value)(k:K):(UU (aad b x v) k).map er=if k=x then some (er v) else f k:=by
 rw [ey];by_cases e:k=x
 ·rw [eX e,eX e];rfl
 ·rw [if_neg e,if_neg e];exact c k
def xm{n:Nat}(hA:sU n A)(o i v:Value):bq c A pr (XA o i v) (λJ=>()) (cq (er o) (er i) (er v)):=by
 intro Q C s q X;have ac:∀ {G:Value->Value->Value->Prop},
   (∀a x t g n,C a=some (.list (g.toList.map er))->IsL s.heap a g n->0<=x->x<2^62->x.toNat<(g.toList.map er).length->Q () (C.put a (.list ((g.toList.map er).set x.toNat (er v))))->G (.ref a) (.int x t) v)->
   (∀a x t (m:Array UInt8) y u,C a=some (.ba m.toList)->s.heap.get? a=some (bC m)->0<=x->x<2^62->x.toNat<m.toList.length->0<=y/\y<256/\m.toList.length<=1000000/\Q () (C.put a (.ba (m.toList.set x.toNat (Tk y.toNat))))->G (.ref a) (.int x t) (.int y u))->
   (∀a x t f h,C a=some (.idict f)->s.heap.DictOf (VI c.prog c.w) a h->(∀k,(UU h k).map er=f k)->(∀k,f k≠none->0<=k/\k<100000)->Q () (C.put a (.idict λk=>if k=x then some (er v) else f k))->G (.ref a) (.int x t) v)->
   (∀a x t f h,C a=some (.sdict f)->s.heap.DictOf (strKind c.prog c.w) a h->h.length<=1000->(∀k,(UU h k).map er=f k)->(f x).isSome=true->Q () (C.put a (.sdict λk=>if k=x then some (er v) else f k))->G (.ref a) (.str x t) v)->G o i v:=by
  intro G k1 k2 k3 k4;generalize ho:er o=D;induction D with
  |ref a=>generalize hi:er i=D;induction D with
   |int x=>
    rw [ho,hi] at q;obtain⟨t,z⟩:=cv hi;rw [bK ho,z];unfold cq at q;dsimp only at q;generalize j:C a=D;induction D with
    |none=>rw [j] at q;exact q.elim
    |some ob=>
     rw [j] at q;induction ob with
     |list xs=>
      obtain⟨B,M,O,r⟩:=q;refine bW (X.list j) λg n hl aa=>?_;subst aa
      exact k1 a x t g n j hl B M O r
     |ba b=>
      obtain⟨B,M,O,r⟩:=q;refine bp (X.ba j) λm hb aa=>?_;subst aa
      generalize hv:er v=D;induction D with
      |int y=>
       have r:=hv▸r;obtain⟨u,z⟩:=cv hv;exact z▸k2 a x t m y u j hb B M O r
      |_=>have r:=hv▸r;exact r.elim
     |idict f=>
      refine bp (eU X j) λh Y U=>?_
      exact k3 a x t f h j Y U q.2.2.1 q.2.2.2
     |_=>exact q.elim
   |str x=>
    rw [ho,hi] at q;obtain⟨t,z⟩:=AV hi;rw [bK ho,z];unfold cq at q;dsimp only at q;rcases j:C a with _|ob
    ·rw [j] at q;exact q.elim
    ·
     rw [j] at q;induction ob with
     |sdict f=>
      refine dQ (wk X j) λh Y w U=>?_
      exact k4 a x t f h j Y w U q.1 q.2
     |_=>exact q.elim
   |_=>rw [ho] at q;have q:=hi▸q;exact q.elim
  |_=>have q:=ho▸q;exact q.elim
 refine ac (G:=λo i v=>bD _ A (XA o i v) _ _ s) (λa x t g n j hl B M O r=>?_) (λa x t m y u j hb B M O r=>?_) (λa x t f h j Y U O r=>?_) λa x t f h j Y w U B M=>?_
 ·refine .of (Cq hl B M (by simpa using O) λh' n' ae hs=>⟨.mkH s _,_,r,X.turn j hs ⟨_,n',ae,?_⟩ rfl rfl⟩);simp [aa5]
 ·refine q8 r λy0 y1 q5 q6=>?_
  refine IK hb B M O q5 y0 y1 λh' hs hh=>⟨.mkH s _,_,q6,X.turn j hs ⟨_,hh,?_⟩ rfl rfl⟩
  exact(Array.toList_setIfInBounds)
 ·have nd:(h.map (·.1)).Nodup:=by refine H2 Y λ_ _ _ _ _ _ _ _ nd=>?_;exact nd
  exact .of (aaC (Wb _ _ _ _) Y (λh' ab hs=>⟨.mk' s _ _,_,r,X.turn j hs ⟨_,ab,sJ U x v⟩ rfl rfl⟩) (gD (qj (n:=100000) nd U O) (by decide)))
 ·have af:h.any (λkv=>decide (kv.1=x))=true:=by
   have B:=U x▸B;rw [List.any_eq_true];generalize hv:UU h x=D;induction D with
   |none=>have B:=hv▸B;exact fT B
   |some y=>
    refine bp (Option.map_eq_some_iff.mp hv) λp hp J=>?_
    exact⟨p,WD hp,by simpa using aaq hp⟩
  refine .of (aaC (Y3 _ _ _ _) Y (λh' ab hs=>⟨.mk' s _ _,_,M,X.turn j hs ⟨_,ab,?_,sJ U x v⟩ rfl rfl⟩) (gD w (by decide)));unfold aad;rw [eX af,eS];exact w
def Ep{n:Nat}{q:Option Int}:q.elim n (Wi n)<=n:=by
 induction q with
 |none=>exact oP _
 |some i=>exact Int.toNat_le.mpr (Int.max_le.mpr ⟨Int.natCast_nonneg n,Int.min_le_right ..⟩)
def xf{n:Nat}{Q:Unit->H->Prop}{C:H}{s:bS}(hA:sU n A)(o l u v:Value)(q:jz (er o) (er l) (er u) (er v) Q C)(X:I c pr C s.heap):
  bD (pR c.prog c.w) A (XA o (.ref s.heap.objs.size) v) (Ends c pr (λJ=>()) Q s) No {s with heap:=s.heap.push (qZ l u)}:=by
 have O:∀ {G:Value->Value->Prop},(∀a (g:Array UInt8) lo m (z:Array UInt8) t,C a=some (.ba g.toList)->s.heap.get? a=some (bC g)->g.toList.length<=1000000->Wc l lo->Wc u m->
   lo.elim 0 (Wi g.toList.length)<=m.elim g.toList.length (Wi g.toList.length)/\z.toList.length=m.elim g.toList.length (Wi g.toList.length)-lo.elim 0 (Wi g.toList.length)/\Q () (C.put a (.ba (g.toList.take (lo.elim 0 (Wi g.toList.length))++z.toList++g.toList.drop (m.elim g.toList.length (Wi g.toList.length)))))->G (.ref a) (.bytes z t))->G o v:=by
  intro G k;generalize U:er o=w;induction w with
  |ref a=>
   rw [U] at q;rw [bK U];unfold jz at q;dsimp only at q;generalize B:C a=w;induction w with
   |none=>rw [B] at q;exact q.elim
   |some ob=>
    rw [B] at q;induction ob with
    |ba b=>
     obtain⟨D,h⟩:=q;refine bp (X.ba B) λg M j=>?_;subst j
     generalize Y:er v=w;induction w with
     |bytes r=>
      rw [Y] at h;generalize hp:mL (er l) g.toList.length=w;induction w with
      |none=>rw [hp] at h;exact h.elim
      |some p=>generalize hr:mP (er u) g.toList.length=w;induction w with
       |none=>rw [hp,hr] at h;exact h.elim
       |some r'=>
        rw [hp,hr] at h;refine bW (gm Y) λz t j aa=>?_;subst j;subst aa
        refine bp (FT hp) λlo x j=>?_;subst j
        refine bp (GL hr) λm y j=>?_;subst j
        exact k a g lo m z t B M D (jx x) (jx y) h
     |_=>have h:=Y▸h;exact h.elim
    |_=>exact q.elim
  |_=>rw [U] at q;exact q.elim
 refine O (G:=λo v=>bD _ A (XA o _ v) _ _ _) λa g lo m z t B M D x y h=>?_
 have X1:=X.push (qZ l u);refine wB (s:={s with heap:=s.heap.push (qZ l u)}) (p:=lo.elim 0 (Wi g.size)) (r:=m.elim g.size (Wi g.size)) hA.gd (sT _ M) (Yc s.heap l u .none) (XJ (Nm M)) x y D
  (KZ h.2.1 (Ep (n:=g.toList.length) (q:=m)) D) (sliceBounds_plain ..) h.1 h.2.1 λh' hk hh=>⟨.mkH s _,_,h.2.2,X1.turn2 B hk ⟨_,hh,?_⟩ rfl rfl⟩
 simp only [Zf,Array.toList_extract,List.extract_eq_drop_take,aaD,Y5];rw [WW (l:=Xl _ g.toList) (by simp)];rfl
end
end
section
section
variable{c:bo}{A:Bs}{pr:PH}
structure G3(c:bo)(C:iS):Prop where
 has:(clsIn c.K C).any (·.hasDict)=true
 ga:V2 c.K (.ref C) "__getattribute__" =some (some (.builtin "object.__getattribute__"))
 gx:V2 c.K (.ref C) "__getattr__" =some none
 sa:V2 c.K (.ref C) "__setattr__" =some (some (.builtin "object.__setattr__"))
 over:Zt c.K C=true
 no:∀i,i<100->V2 c.K (.ref C) (c.nm i)=some none
structure Good2(c:bo):Prop extends Good c where
 cls:∀C,c.cls C=true->G3 c C
 inj:∀i j,i<300->j<300->c.nm i=c.nm j->i=j
def oX{b:Array Xc}(c:Xi b):b.any (·.refKey)=false:=by
 rw [Array.any_eq_false'];intro e g;refine eT (c e g) λn t h=>?_;simp [DictEntry.refKey,h]
def rf{b:Array Xc}{c:Nat}{name:Str}(g:Xi b):lookIn name {cls:=.type "dict",data:=.dict b c}=some (VG b name):=by
 delta lookIn VG findBy;dsimp only;refine Array.find?_toList▸ ?_;generalize h:b.toList.find? (λe=>e.key.isStr name)=j;induction j with
 |some e=>rfl
 |none=>
  exact((Array.any_toList).trans (oX g))▸rfl
def ux{k:H}{h:UT}{a C:iS}{j:Fs}(x:I c pr k h)(e:k a=some (.inst C j)):∃d b g,c.cls C=true/\h.get? a=some (Wg C d)/\h.get? d=some {cls:=.type "dict",data:=.dict b g}/\Xi b/\
  (∀i,i<300->(VG b (c.nm i)).map er=aC j i)/\b.size<=j.length/\W.InstAt h a (Wg C d) C (some {cls:=.type "dict",data:=.dict b g}):=by
 refine du (x.at e) λd s=>?_
 obtain⟨p,u,b,g,m,r,v,w,y,z⟩:=s;exact⟨d,b,g,u,p,r,v,λi A=>by rw [w];exact y i A,z,⟨p,rfl,rfl,r⟩⟩
set_option tactic.hygienic true in
def wS(G:Good2 c){g:Bool}(o:Value)(i:Nat):eW c A pr (getAttr o (c.nm i) g) er (vv (er o) i):=by
 intro Q u s q X;refine Lw (v:=o) q λa q=>RJ q λC M w q=>?_
 ··obtain⟨p,h⟩:=q;split at h
   ·rename_i v x;refine H9 (ux X w) λd O U y Y h2 z B h5 D=>?_
    refine bp (Option.map_eq_some_iff.mp (x▸(B i (Cd p)))) λr j b=>?_
    subst b;have K:=G.cls C y;refine bp (any_some K.has) λcd k m=>?_
    obtain⟨h,J⟩:=h;refine get_value X.K D K.ga (v:=r) ?_ ?_ ⟨.mkT s _,u,J,X⟩
    ·unfold findObj;rw [k,K.no i p];rw [Xy];unfold W.ownOf;rw [eX m];dsimp only;rw [rf z,j];rfl
    ·induction r<;>first|rfl|exact fT h
   ·exact h.elim
def wG{prog:Vd}{w:Va}{E:Value->bS->Prop}{s:bS}{d:iS}{b:Array Xc}{k:Nat}{name:Str}{v:Value}{Q:Unit->bS->Prop}(j:s.heap.get? d=some {cls:=.type "dict",data:=.dict b k})(m:Xi b)
  (q:∀h' c p,OR d s.heap h'->h'.get? d=some {cls:=.type "dict",data:=.dict c p}->Xi c->(∀x,VG c x=if x=name then some v else VG b x)->
   c.size<=b.size+(if (VG b name).isSome then 0 else 1)->Q () {s with heap:=h',toks:=s.toks+1}):
  tL (pR prog w) A (nsSet d name v) Q E s:=by
 refine aS (aS (Vh (fS (aS (aae (aS (abQ j ?_)))))));dsimp only;rw [aRefKeyMayBeTheName_at,(oX m),Vq];refine wpAny_updatePart j ?_;generalize g:b.findIdx? (·.key.isStr name)=r;induction r with
 |some i=>
  refine q _ (b.modify i λe=>{e with val:=v}) k (Ts ..) ?_ (m.modify _ _) (λx=>findBy_modify (λn v=>v.isStr n) Value.isStr_inj b name x v i g) ?_
  ·have:=UW (Obj.putName name (Ye w.params name) (.str name s.toks) v) j (by simp only [Obj.putName_eq,Obj.putNameByArray,g];rfl);refine this.trans ?_;simp only [Obj.putName_eq,Obj.putNameByArray,g]
  ·simp
 |none=>
  have u:VG b name=none:=by
   unfold VG;rw [findBy_of_findIdx?,g]
  refine q _ (b.push ⟨Ye w.params name,.str name s.toks,v⟩) (k+1) (Ts ..) ?_ (m.push _ _ _ _) (λx=>findBy_push (λn v=>v.isStr n) b name x _ _ v (λy=>?_) g) ?_
  ·have:=UW (Obj.putName name (Ye w.params name) (.str name s.toks) v) j (by simp only [Obj.putName_eq,Obj.putNameByArray,g];rfl);refine this.trans ?_;simp only [Obj.putName_eq,Obj.putNameByArray,g]
  ·show(name==y)=decide (y=name);by_cases h:y=name
   ·subst h;rfl
   ·have:¬name=y:=λe=>h e.symm
    simp [h,this]
  ·rw [u];simp
def nY(b:Fs)(i:Nat)(v:V):(bB b i v).length=b.length+(if (aC b i).isSome then 0 else 1):=by
 induction b with
 |nil=>simp [bB,aC]
 |cons p r c=>
  obtain⟨k,u⟩:=p;unfold bB aC;by_cases h:k=i
  ·simp [h]
  ·rw [if_neg h,if_neg h,UP,c,UP];lia
set_option tactic.hygienic true in
def nI(G:Good2 c)(o:Value)(i:Nat)(v:Value):eW c A pr (setAttr o (c.nm i) v) (λJ=>()) (gN (er o) i (er v)):=by
 intro Q σ s q X;unfold gN at q;split at q
 ·rename_i a y;have y:=bK y;subst y;split at q
  ·rename_i C fs hx;obtain⟨B,q2,q3⟩:=q;refine dQ (X.turnI hx) λg hE ab u=>?_
   obtain⟨x,hc,es,ep,m,w,h3,hm,h4,h5⟩:=hE;have K:=G.cls C hc;refine bp (any_some K.has) λcd D M=>?_
   have Ia:W.InstAt s.heap a (Wg C g) C (some {cls:=.type "dict",data:=.dict es ep}):=⟨x,rfl,rfl,w⟩
   refine set_plain X.K Ia K.sa ?_;have X':I c pr σ ({s with toks:=s.toks+1}:bS).heap:=X;refine osa_open (s:={s with toks:=s.toks+1}) X.K Ia K.over (r:=none) (by unfold takerIn;rw [K.no i B];rfl) λb=>?_
   refine aS (fS (aS (aS (abQ (s:={s with toks:=s.toks+1}) x (aS ((looks_clsIn X'.K D).here ?_))))));rw [M];refine fS (a:=some g) (aS (fS (aS ?_)));refine wG (s:={s with toks:=s.toks+1}) w h3 λh' h O hs hg U Y aa=>?_
   have k:h.size<=(bB fs i (er v)).length:=by
    rw [nY];have e1:(VG es (c.nm i)).isSome=(aC fs i).isSome:=by rw [hm,<-h4 i (by exact Cd B)];simp
    rw [e1] at aa;lia
   refine aS (abh (s:={s with heap:=h',toks:=s.toks+1+1}) hg (pastItsLine_dict ?_) ?_)
   ·rw [nY] at k;have:(1000:Nat)<=sizeLine:=by decide
    split at k<;>lia
   ·refine fS ⟨⟨_,_,rfl⟩,_,q3,u h' _ hs ⟨(hs.2 a ?_).trans x,hc,h,O,VG h,hg,U,λJ=>rfl,λj hj=>?_,k⟩⟩
    ·intro z;subst z;have w:=x▸w;cases w
    ·rw [Y,bN];by_cases p:c.nm j=c.nm i
     ·have:=G.inj j i hj (Cd B) p;subst this;simp
     ·rw [if_neg p,if_neg (λz=>p (by rw [z])),hm];exact h4 j hj
  ·exact q.elim
 ·exact q.elim
end
end
section
section
variable{c:bo}{A:Bs}{pr:PH}
set_option tactic.hygienic true in
theorem td:∀ {vs:List Value} {bs:List UInt8},octets? (vs.map er)=some bs->∃c,YS vs c/\(∀n∈c,0<=n/\n<256)/\(byteArr c).toList=bs
 | [],_,h=>by obtain rfl:=eQ h;exact⟨[],.nil,by decide,rfl⟩
 |v::r,bs,h=>by
  simp only [IS,octets?] at h;split at h
  ·rename_i b j g k;obtain rfl:=eQ h;refine dQ (td k) λc m p s=>?_
   induction v<;>simp only [er,octet?,reduceCtorEq] at g
   rename_i i t;split at g
   ·rename_i u;obtain rfl:=eQ g;refine⟨i::c,.cons i t m,λn hn=>?_,?_⟩
    ·rcases List.mem_cons.mp hn with rfl|hn
     ·exact u
     ·exact p n hn
    ·rw [<-s];rfl
   ·exact nN g
  ·exact nN h
theorem I.rng{g:H}{h:UT}{a:iS}{lo b:Int}(x:I c pr g h)(e:g a=some (.rng lo b)):(∃t u v,IsRange h a lo b 1 t u v)/\ -(2^60)<lo/\lo<2^60/\ -(2^60)<b/\b<2^60:=let ⟨_,z⟩:=x.at e;z
def kL{lo b:Int}:abo lo b 1=(((b-lo).toNat:Nat):Int):=by
 refine(eX (by decide)).trans ?_;split
 ·rw [Int.ediv_one];lia
 ·lia
def oO{lo b:Int}(c: -(2^60)<lo)(g:lo<2^60)(h: -(2^60)<b)(j:b<2^60):Yf lo b 1=true:=by
 unfold Yf;refine kL▸ ?_;simp [abp];omega
def HY{as:List Value}{v:V}(h:as.map er= [v]):∃a,as= [a]/\er a=v:=by
 rcases as with _|⟨a,r⟩
 ·exact nC h
 ·induction r with
  |nil=>simp at h;exact⟨a,rfl,h⟩
  |cons b r=>simp at h
def IW{as:List Value}{v u:V}(h:as.map er= [v,u]):∃a b,as= [a,b]/\er a=v/\er b=u:=by
 rcases as with _|⟨a,r⟩
 ·exact nC h
 ·
  simp only [IS,List.cons.injEq] at h;refine bp (HY h.2) λb c g=>?_
  subst c;exact⟨a,b,rfl,h.1,g⟩
def qM{p:Prop} [Decidable p] {a b G:Prop}(h:if p then a else b)(c:p->a->G)(g:b->G):G:=by
 by_cases e:p
 ·rw [eX e] at h;exact c e h
 ·rw [if_neg e] at h;exact g h
def g4{as:List Value}{f:V->Prop}{G:List Value->Prop}(h:rz (as.map er) f)(k:∀a,f (er a)->G [a]):G as:=by
 induction as with
 |nil=>exact h.elim
 |cons a r=>induction r with
  |nil=>exact k a h
  |cons _ _=>exact h.elim
def xZ{as:List Value}{f:V->V->Prop}{G:List Value->Prop}(h:DQ (as.map er) f)(k:∀a b,f (er a) (er b)->G [a,b]):G as:=by
 rcases as with _|⟨a,r⟩
 ·exact h.elim
 ·rcases r with _|⟨b,r⟩
  ·exact h.elim
  ·induction r with
   |nil=>exact k a b h
   |cons _ _=>exact h.elim
def xg{a:Value}{Q:V->H->Prop}{k:H}{h:UT}{G:Value->Prop}(X:I c pr k h)(q:pJ (er a) Q k)
  (A:∀x t,0<=x->x<=1000000->Q (.bytes (oR x.toNat 0)) k->G (.int x t)) (B:∀(b:Array UInt8) t,Q (.bytes b.toList) k->G (.bytes b t))
  (C:∀p (j:Array UInt8),h.get? p=some (bC j)->j.toList.length<=1000000->Q (.bytes j.toList) k->G (.ref p))
  (D:∀p items n s,IsL h p items n->items.size<=1000000->YS items.toList s->(∀n∈s,0<=n/\n<256)->Q (.bytes (byteArr s).toList) k->G (.ref p)):G a:=by
 generalize m:er a=u;induction u with
 |int x=>
  have q:=m▸q;obtain⟨t,z⟩:=cv m;rw [z];exact A x t q.1 q.2.1 q.2.2
 |bytes b=>
  rw [m] at q;refine bW (gm m) λb t g y=>?_;subst g;subst y
  exact B b t q
 |ref p=>
  have q:=m▸q;rw [bK m];unfold pJ at q;dsimp only at q;generalize v:k p=u;induction u with
  |none=>rw [v] at q;exact q.elim
  |some ob=>
   have q:=v▸q;induction ob with
   |ba b=>
    refine bp (X.ba v) λj J g=>?_;subst g
    exact C p j J q.1 q.2
   |list M=>
    obtain⟨O,w⟩:=q;generalize r:octets? M=u;induction u with
    |none=>rw [r] at w;exact w.elim
    |some b=>
     rw [r] at w;refine bW (X.list v) λitems n U g=>?_;subst g
     refine dQ (td r) λs Y i2 g=>?_;subst g
     exact D p items n s U (by simpa using O) Y i2 w
   |_=>exact q.elim
 |_=>have q:=m▸q;exact q.elim
def xN{n:Nat}(r:sU n A)(a:Value):eW c A pr (call (.type "bytes") [a]) er (pJ (er a)):=by
 intro Q h s q X;refine xg (G:=λa=>tL _ A (call (.type "bytes") [a]) _ _ s) X q (λx u j m v=>?_) (λb u q=>?_) (λp w y j q=>?_) λp g n M z j B C m=>?_
 ·exact Ae j m λt k=>⟨.mkT s k,h,by show Q (.bytes (aam _ _).toList) h;rw [Array.toList_replicate];exact v,X⟩
 ·exact BH λt k=>⟨.mkT s k,h,q,X⟩
 ·exact Bv y j λt k=>⟨.mkT s k,h,q,X⟩
 ·exact call_bytes_ints (vs:=g.toList) z.isList B C (gD j (by decide)) r.hd λD t k J=>⟨.mk' s D k,h,m,X.keeps J⟩
def Ad{n:Nat}(B:sU n A)(a:Value):eW c A pr (call (.type "list") [a]) er (xc (er a)):=by
 intro Q C s q X;generalize v:er a=w;induction w with
 |ref p=>
  have q:=v▸q;refine pX (G:=λa=>tL _ A (call (.type "list") [a]) _ _ s) v ?_;unfold xc at q;dsimp only at q;generalize r:C p=w;induction w with
  |none=>rw [r] at q;exact q.elim
  |some ob=>
   have q:=r▸q;induction ob with
   |rng lo m=>
    refine nj (X.rng r) λk D J M O=>?_
    refine cS k λt1 u1 v1 U=>?_
    refine call_list_range B.hd U (oO D J M O) kL (by omega) λx Y b y z hS g=>⟨.mk' s x Y,_,q.2 _ (X.fresh (oP _)),X.alloc z (oP _) ⟨b,y,hS,?_⟩ rfl⟩
    refine List.ext_getElem? λi=>?_
    simp only [PR,We];by_cases m:i<(m-lo).toNat
    ·have u:i<b.size:=by rw [g.1];exact m
     refine du (g.2 i b[i] (Hd u)) λt ht=>?_
     rw [Hd u,ht,List.getElem?_range m];show some (V.int _)=some (V.int _);rw [Int.mul_one]
    ·have u:¬i<b.size:=by rw [g.1];exact m
     rw [WR (by exact Em u),Vz (by simp;exact Sa m)];rfl
   |list xs=>
    refine bW (X.list r) λh n hl j=>?_
    subst j;exact call_list_seq (T:= "list") (o:={cls:=.type "list",dict:=none,data:=.seq h n,slots:= #[]}) (hsz:=(gD (by simpa using q.1) Js)) _ (.inl rfl) hl rfl rfl λx y z hD=>⟨.mkH s x,_,q.2 _ (X.fresh (oP _)),X.alloc z (oP _) ⟨h,y,hD,rfl⟩ rfl⟩
   |_=>exact q.elim
 |_=>have q:=v▸q;exact q.elim
def z3(G:Good c)(a:Value):eW c A pr (call (.type "dict") [a]) er (yq (er a)):=by
 intro Q w s q X;generalize j:er a=k;induction k with
 |ref p=>
  have q:=j▸q;refine pX (G:=λa=>tL _ A (call (.type "dict") [a]) _ _ s) j ?_;unfold yq at q;dsimp only at q;generalize h:w p=k;induction k with
  |none=>rw [h] at q;exact q.elim
  |some ob=>
   have q:=h▸q;induction ob with
   |idict f=>
    refine bp (eU X h) λg u v=>?_
    have m:(g.map (·.1)).Nodup:=by refine H2 u λ_ _ _ _ _ _ _ _ m=>?_;exact m
    exact kt_call_dict (ro G X h) u (gD (qj (n:=100000) m v q.1) (by decide)) λx r y=>⟨.mkH s x,_,q.2 _ (X.fresh (oP _)),X.alloc (λb o e=>y.extBut b o (TS (Nm e)) (sT _ e)) (oP _) ⟨g,r,v⟩ rfl⟩
   |_=>exact q.elim
 |_=>rw [j] at q;exact q.elim
def BM(a:Value):eW c A pr (call (.type "int") [a]) er λQ g=>match er a with| .bool b=>Q (.int (if b then 1 else 0)) g|_=>False:=by
 intro Q g s q X;generalize h:er a=j;induction j with
 |bool b=>
  rw [h] at q;rw [ju h];exact call_int_bool ⟨.mkT s _,g,q,X⟩
 |_=>have q:=h▸q;exact q.elim
def EI{n:Nat}(p:sU n A)(as:List Value):bq c A pr (call (.type "bytearray") as) er λQ g=>match as.map er with| []=>fresh (.ba []) Q g|v::r=>r= []/\(match v with| .bytes b=>b.length<=1000000/\fresh (.ba b) Q g|_=>False):=by
 intro Q g s q X;induction as with
 |nil=>exact Da p.gd λh j k=>⟨.mkH s h,_,q _ (X.fresh (oP _)),X.alloc j (oP _) ⟨_,k,rfl⟩ rfl⟩
 |cons a r=>
  obtain⟨u,q⟩:=q;refine List.map_eq_nil_iff.mp u▸ ?_;generalize m:er a=w;induction w with
  |bytes b=>
   have q:=m▸q;refine dx (G:=λa b=>b.length<=1000000/\fresh (.ba b) Q g->bD _ A (call (.type "bytearray") [a]) _ _ s) m (λb t q=>?_) q;exact ws p.gd (by exact q.1) λh j k=>⟨.mkH s h,_,q.2 _ (X.fresh (oP _)),X.alloc j (oP _) ⟨_,k,rfl⟩ rfl⟩
  |_=>have q:=m▸q;exact q.elim
def yc(as:List Value):bq c A pr (call (.type "range") as) er λQ g=>match as.map er with
  |v::r=>(match r with
   | []=>(match v with| .int x=> -(2^60)<x/\x<2^60/\fresh (.rng 0 x) Q g|_=>False)
   |u::j=>j= []/\dL v u λx y=> -(2^60)<x/\x<2^60/\ -(2^60)<y/\y<2^60/\fresh (.rng x y) Q g)
  |_=>False:=by
 intro Q g s q X;rcases as with _|⟨a,r⟩
 ·exact q.elim
 ·induction r with
  |nil=>
   generalize h:er a=k;induction k with
   |int x=>
    have q:(match er a with| .int x=> -(2^60)<x/\x<2^60/\fresh (.rng 0 x) Q g|_=>False):=q;have q:=h▸q;refine pU (G:=λa=>bD _ A (call (.type "range") [a]) _ _ s) h λu=>?_
    exact .of (call_range_1 ⟨.mk' s _ _,_,c8 X q.2.2,X.new ⟨⟨_,_,_,aaE _ _ _ _ _ _ _⟩,by decide,by decide,q.1,q.2.1⟩ rfl⟩)
   |_=>
    have q:(match er a with| .int x=> -(2^60)<x/\x<2^60/\fresh (.rng 0 x) Q g|_=>False):=q;have q:=h▸q;exact q.elim
  |cons b j=>
   obtain⟨m,q⟩:=q;refine List.map_eq_nil_iff.mp m▸ ?_;refine im (G:=λa b=>bD _ A (call (.type "range") [a,b]) _ _ s) q λx y u v q=>?_
   exact .of (call_range_2 ⟨.mk' s _ _,_,c8 X q.2.2.2.2,X.new ⟨⟨_,_,_,aaE _ _ _ _ _ _ _⟩,q.1,q.2.1,q.2.2.1,q.2.2.2.1⟩ rfl⟩)
def Cz(G:Good c){n:Nat}(j:sU n A)(t:String)(as:List Value):bq c A pr (call (.type t) as) er (zA t (as.map er)):=by
 intro Q b s q X;have g:∀ {u:String},t=u->bD (pR c.prog c.w) A (call (.type u) as) (Ends c pr er Q s) No s->bD (pR c.prog c.w) A (call (.type t) as) (Ends c pr er Q s) No s:=λe z=>e▸z
 refine qM q (λh q=>g h ?_) λq=>qM q (λh q=>g h ?_) λq=>qM q (λh q=>g h ?_) λq=>qM q (λh q=>g h ?_) λq=>qM q (λh q=>g h ?_) λq=>qM q (λh q=>g h ?_) λq=>q.elim
 ·exact g4 (G:=λas=>bD _ A (call (.type "bytes") as) _ _ s) q λa q=>.of (xN j a Q b s q X)
 ·exact EI j as Q b s q X
 ·exact g4 (G:=λas=>bD _ A (call (.type "int") as) _ _ s) q λa q=>.of (BM a Q b s q X)
 ·exact g4 (G:=λas=>bD _ A (call (.type "list") as) _ _ s) q λa q=>.of (Ad j a Q b s q X)
 ·exact g4 (G:=λas=>bD _ A (call (.type "dict") as) _ _ s) q λa q=>.of (z3 G a Q b s q X)
 ·exact yc as Q b s q X
def xL:Yu (.type "bytes") (.type "int")=pure false:=by kernel_rfl
def Aj{prog:Vd}{w:Va}{E:Value->bS->Prop}{s:bS}{x:Array UInt8}{u:Tok}{Q:Value->bS->Prop}(h:∀k,Q (.bool false) {s with toks:=k}):
  tL (pR prog w) A (call (.builtin "isinstance") [.bytes x u,.type "int"]) Q E s:=by
 refine call_isinstance (S:=λJ R s=>∀k,R (.ok (.ret (.bool false))) {s with toks:=k}) (λJ J J J s b=>?_) (by intro k;exact h k);exact isinstance_outer (isinstance_nested_false_bytes (by decide+kernel) F.isi_meta_int xL (b _))
def CC{a:Value}{Q:V->H->Prop}{k:H}{h:UT}{G:Value->Prop}(X:I c pr k h)(q:j6 (er a) Q k)
  (x:∀(b:Array UInt8) t,b.toList.length<=1000000->Q (.int b.toList.length) k->G (.bytes b t)) (w:∀p items n,IsL h p items n->(items.toList.map er).length<=1000000->Q (.int (items.toList.map er).length) k->G (.ref p))
  (y:∀p (g:Array UInt8),h.get? p=some (bC g)->g.toList.length<=1000000->Q (.int g.toList.length) k->G (.ref p)):G a:=by
 generalize m:er a=s;induction s with
 |bytes b=>
  rw [m] at q;refine bW (gm m) λb t j u=>?_;subst j;subst u
  exact x b t q.1 q.2
 |ref p=>
  have q:=m▸q;rw [bK m];unfold j6 at q;dsimp only at q;generalize r:k p=s;induction s with
  |none=>rw [r] at q;exact q.elim
  |some ob=>
   have q:=r▸q;induction ob with
   |list z=>
    refine bW (X.list r) λitems n v j=>?_;subst j
    exact w p items n v q.1 q.2
   |ba b=>
    obtain⟨g,A,rfl⟩:=X.ba r;exact y p g A q.1 q.2
   |fix o z=>
    obtain⟨_,items,n,v,rfl⟩:=X.fixed r;exact w p items n v q.1 q.2
   |_=>exact q.elim
 |_=>rw [m] at q;exact q.elim
def Co(a:Value):eW c A pr (call (.builtin "len") [a]) er (j6 (er a)):=by
 intro Q h s q X;refine CC (G:=λa=>tL _ A (call (.builtin "len") [a]) _ _ s) X q (λb u g q=>?_) (λp j n m g q=>?_) λp r v g q=>?_
 ·exact len_bytes (QI g) ⟨.mkT s _,h,by exact q,X⟩
 ·simp only [eS,Zh] at g;exact Calls.call_len_list m.isList (LT g) ⟨.mkT s _,h,by show Q (.int _) h;rw [eS] at q;exact q,X⟩
 ·exact Il v g λt k=>⟨.mkT s _,h,q,X⟩
def AU(a:Value):eW c A pr (call (.builtin "abs") [a]) er λQ b=>match er a with| .int x=>Q (.int (if x<0 then -x else x)) b|_=>False:=by
 intro Q b s q X;generalize g:er a=h;induction h with
 |int x=>
  have q:=g▸q;exact pU (G:=λa=>tL _ A (call (.builtin "abs") [a]) _ _ s) g λu=>call_abs_int λu j=>⟨.mkT s _,b,q,X⟩
 |_=>have q:=g▸q;exact q.elim
def BR(a:Value):eW c A pr (call (.builtin "isinstance") [a,.type "int"]) er λQ g=>match er a with| .int _=>Q (.bool true) g| .bytes _=>Q (.bool false) g|_=>False:=by
 intro Q g s q X;generalize h:er a=j;induction j with
 |int x=>
  rw [h] at q;exact pU (G:=λa=>tL _ A (call (.builtin "isinstance") [a,.type "int"]) _ _ s) h λu=>IsiPair.int_int ⟨.refl s,g,q,X⟩
 |bytes b=>
  have q:=h▸q;exact dx (G:=λa J=>tL _ A (call (.builtin "isinstance") [a,.type "int"]) _ _ s) h λx u=>Aj λk=>⟨.mkT s _,g,q,X⟩
 |_=>rw [h] at q;exact q.elim
def BF{n:Nat}(m:sU n A)(t:String)(as:List Value):eW c A pr (call (.builtin t) as) er (w7 t (as.map er)):=by
 intro Q g s q X;have j:∀ {u:String},t=u->tL (pR c.prog c.w) A (call (.builtin u) as) (Ends c pr er Q s) No s->tL (pR c.prog c.w) A (call (.builtin t) as) (Ends c pr er Q s) No s:=λe z=>e▸z
 refine qM q (λh q=>j h ?_) λq=>qM q (λh q=>j h ?_) λq=>qM q (λh q=>j h ?_) λq=>qM q (λh q=>j h ?_) λq=>qM q (λh q=>j h ?_) λq=>q.elim
 ·exact g4 (G:=λas=>tL _ A (call (.builtin "len") as) _ _ s) q λa q=>Co a Q g s q X
 ·exact g4 (G:=λas=>tL _ A (call (.builtin "abs") as) _ _ s) q λa q=>AU a Q g s q X
 ·refine xZ (G:=λas=>tL _ A (call (.builtin "min") as) _ _ s) q λa b q=>im (G:=λa b=>tL _ A (call (.builtin "min") [a,b]) _ _ s) q λx y u v q=>?_
  refine min_two_ints m.hd λp r k=>⟨.mk' s _ _,g,?_,X.keeps k⟩
  split
  ·rw [eX ‹_›] at q;exact q
  ·rw [if_neg ‹_›] at q;exact q
 ·refine xZ (G:=λas=>tL _ A (call (.builtin "max") as) _ _ s) q λa b q=>im (G:=λa b=>tL _ A (call (.builtin "max") [a,b]) _ _ s) q λx y u v q=>?_
  refine max_two_ints m.hd λp r k=>⟨.mk' s _ _,g,?_,X.keeps k⟩
  split
  ·rw [eX ‹_›] at q;exact q
  ·rw [if_neg ‹_›] at q;exact q
 ·refine xZ (G:=λas=>tL _ A (call (.builtin "isinstance") as) _ _ s) q λa b q=>?_
  exact C6 q.1▸BR a Q g s q.2 X
end
end
section
def pV(c:bo)(x:Cx)(n:Nat):Prop:=∀(A:Bs) (pr:PH) (f:Value) (b:List Value),sU n A->bq c A pr (call f b) er (ki x n (er f) (b.map er))
structure Top(env:Env):Prop where
 g:env.globals=UX
 b:env.builtins=Xj
 f:env.scope.kind=.function
 cl:∀x,env.scope.names.lookup x=some .cell->∃a,env.cells.lookup x=some a
section
variable{c:bo}{A:Bs}{pr:PH}{env:Env}{vs:List (Option Str)}{m:Fs}{x:Cx}{n:Nat}
set_option tactic.hygienic true in
def rE(T:Top env){y:Str}{v:V}(h:DR c.K y=some v):eW c A pr (loadGlobal env y) er (λQ b=>Q v b):=by
 intro Q b s q X;unfold DR at h;unfold loadGlobal;refine T.g▸ ?_;refine T.b▸ ?_;generalize g:nsIn c.K UX y=j;induction j with
 |none=>rw [g] at h;exact nN h
 |some o=>
  rw [g] at h;induction o with
  |some u=>obtain rfl:=eQ h;exact aS ((aaQ X.K g).here (fS ⟨.refl s,b,q,X⟩))
  |none=>
   generalize k:nsIn c.K Xj y=j;induction j with
   |none=>rw [k] at h;exact nN h
   |some o=>
    rw [k] at h;induction o with
    |none=>exact nN h
    |some u=>obtain rfl:=eQ h;exact aS ((aaQ X.K g).here (aS ((aaQ X.K k).here (fS ⟨.refl s,b,q,X⟩))))
def nu(T:Top env){y:Str}{v:V}{pos:Pos}(b:env.scope.names.lookup y=some .globalImplicit)(h:DR c.K y=some v)(g:(y !=("__debug__" :Str))=true):
  bq c A pr (eval (.Name y pos) env) er (λQ j=>Q v j):=by
 rw [eval_Name env y pos (by simpa using g)];refine .standAt (.leaf ?_);rw [loadName_read T.f b];exact rE T h
def Cy{k:Const}{v:V}{i:Nat}{pos:Pos}(h:Cr k=some v):bq c A pr (eval (.Constant k i pos) env) er (λQ b=>Q v b):=by
 refine .leaf λQ b s q X=>?_
 induction k<;>first|(exact nN h;done)|obtain rfl:=eQ h
 ·exact fS ⟨.refl s,b,q,X⟩
 ·exact fS ⟨.refl s,b,q,X⟩
 ·exact YI ⟨.mkT s _,b,q,X⟩
 ·exact aae ⟨.mkT s _,b,q,X⟩
 ·exact Constant_bytes (k:=0) (pos:=pos) (env:=env) ⟨.mkT s _,b,q,X⟩
def yE{o:iD}{a:Str}(h:wV o=true){t:Sem Value}:attributeBase o a env t=t:=by
 cases o with
 |Call f b c p=>cases f with
  |Name i g=>induction b with
   |nil=>induction c with
    |nil=>exact fT h
    |cons _ _=>rfl
   |cons _ _=>rfl
  |_=>rfl
 |_=>rfl
def yr{M:VX}{E:Value->bS->Prop}{s:bS}{f:Value}{c:List (Bool×Sem Value)}{Q:Args->bS->Prop}(hp:c.any (·.1)=false)
  (h:bD M A (Yk c) (λvs k=>Q ⟨vs,[]⟩ k) E s):bD M A (evalArgs f true c []) Q E s:=by
 have m:bD M A (Yk c>>=λl=>(pure (l,(none:Option Value)):Sem (List Value×Option Value))>>=λ(p:List Value×Option Value)=>holding (p.1++p.2.toList) (do
   let g (j:List Value):Sem (List Value):=do
    let some s:=p.2|return p.1
    if <-notIterableAtAll s then
     rule "call.star.not-iterable"
     raiseError "TypeError" s!"{← functionStr f} argument after * must be an iterable, not {← typeNameOf s}"
    holding j (collect s)
   if ([]:List (Option Str×Sem Value)).all (·.1.isSome) then
    let u:=(([]:List (Option Str×Sem Value)).filterMap (·.1)).zip (<-evalAll (([]:List (Option Str×Sem Value)).map (·.2)))
    return (⟨<-g (u.map (·.2)),u⟩:Args)
   let d <-mergedKeywords f []
   let pos <-g [.ref d]
   return ⟨pos,<-holding (.ref d::pos) (keywordsIn f d)⟩)) Q E s:=by
  refine aA (aJ h (λvs k q=>aA (aF ?_)) λJ J z=>z);exact aK (aA (aF (aA (aF (aF q)))))
 rcases c with _|⟨p,r⟩
 ·exact m
 ·
  obtain⟨b,t⟩:=p;induction b with
  |true=>exact xF hp
  |false=>rcases r with⟨⟩<;>exact m
def Gy{M:VX}{E:Value->bS->Prop}{s:bS}{b:Type}{Q:b->bS->Prop}{p:Prop}{d:Decidable p}{t e:Sem b}(c:bD M A t Q E s)(g:bD M A e Q E s):bD M A (@ite _ p d t e) Q E s:=
 if h:p then pO h c else qA h g
def gW{M:VX}{E:Value->bS->Prop}{s:bS}{pos:Pos}{f:Value}{first:List Value}{c:List (Bool×Sem Value)}{P:UT->Prop}{Q:Value->bS->Prop}(hp:c.any (·.1)=false)
  (v:∀h,P h->∃k,(k=Xs\/k=Xa\/k=WA)/\Y6 M h (aar f) k)
  (h:bD M A (Yk c) (λvs j=>P j.heap/\bD M A (call f (first++vs)) Q E j) E s):bD M A (callWith pos f first c []) Q E s:=by
 refine aA (aK (yr hp (aJ h (λvs j z=>?_) λJ J z=>z)));refine aA (aL ?_);obtain⟨w,m⟩:=z;refine bp (v _ w) λk p L=>?_
 rw [hp,List.any_nil,Bool.or_false];refine aD (L.here ?_);have b:∀ {t:Sem Value},bD M A t Q E j->bD M A (t>>=λr=>holding [r] point>>=λJ=>pure r) Q E j:=
  λy=>aA (aJ y (λr u B=>aA (aK (.of (wpAny_point (aF B))))) λJ J x=>x)
 have g (mk:Value):bD M A (callMarked mk f (first++vs) []) Q E j:=by exact Ax m
 rcases p with rfl|rfl|rfl
 ·exact Gy (b m) (b (g _))
 ·exact b m
 ·exact Gy (b m) (b (g _))
def xr(items:List Value):eW c A pr (newList items) er (λQ b=>(items.map er).length<=1000/\fresh (.list (items.map er)) Q b):=by
 intro Q b s q X;have h:items.length<=sizeLine:=by
  have:=q.1;rw [eS] at this;exact gD this (by decide)
 refine wpAny_newList ⟨.mkH s _,_,c8 X q.2,X.new ⟨_,0,abg s.heap _,by rfl⟩ rfl⟩ h
def vF(items:List Value):eW c A pr (newTuple items) er (λQ b=>(items.map er).length<=1000/\fresh (.tuple (items.map er)) Q b):=by
 intro Q b s q X;have h:items.length<=sizeLine:=by
  have:=q.1;rw [eS] at this;exact gD this (by decide)
 refine wpAny_newTuple ⟨.mkH s _,_,c8 X q.2,X.new ⟨_,0,GD _ rfl,by rfl⟩ rfl⟩ h
set_option tactic.hygienic true in
def Hx(v:Value):eW c A pr (unaryOp .USub v) er (λQ b=>match er v with| .int i=>Q (.int (-i)) b|_=>False):=by
 intro Q b s q X;induction v with
 |int i t=>exact P.neg_int ⟨.mkT s _,b,q,X⟩
 |_=>exact q.elim
end
end
section
section
variable{c:bo}{A:Bs}{pr:PH}
def zH{a:iS}{xs:List V}{v:Value}{Q:V->H->Prop}{j:H}{s:bS}(k:j a=some (.list xs))(m:xs.length<=1000000)(q:Q .none (j.put a (.list (xs++ [er v]))))(X:I c pr j s.heap):
  tL (pR c.prog c.w) A (call (.builtin "list.append") [.ref a,v]) (Ends c pr er Q s) No s:=by
 refine bW (X.list k) λb n h g=>?_
 subst g;have p:b.size<=sizeLine:=gD (by rw [eS] at m;exact m) Js;exact append_at (hsz:=p) h λw r u=>⟨.mkH s _,_,q,X.turn k r ⟨_,_,u,by simp⟩ rfl rfl⟩
def tc{n:Nat}(B:sU n A){a:iS}{b r:List UInt8}{v:Value}{Q:V->H->Prop}{y:H}{s:bS}(z:y a=some (.ba b))(C:b.length<=1000000)(D:r.length<=1000000)
  (w:er v=.bytes r\/∃p,er v=.ref p/\y p=some (.ba r)) (q:Q .none (y.put a (.ba (b++r)))) (X:I c pr y s.heap):
  bD (pR c.prog c.w) A (call (.builtin "bytearray.extend") [.ref a,v]) (Ends c pr er Q s) No s:=by
 refine bp (X.ba z) λG h k=>?_
 subst k;obtain⟨g,J,rfl⟩:∃g,vD s v g/\g.toList=r:=by
  rcases w with w|⟨p,w,hp⟩
  ·refine bW (gm w) λx t m u=>?_
   subst m;subst u;exact⟨x,.by x t,rfl⟩
  ·have:=bK w;subst this;refine bp (X.ba hp) λg M j=>?_
   subst j;exact⟨g,.ba M,rfl⟩
 refine ix BA.slot_extend (bL h) (by decide+kernel) BA.entry_extend (zZ (A:=A.in1) B.gd h J (by exact C) (by exact D) λY O U=>⟨_,rfl,.mkH s _,_,q,X.turn z O ⟨_,U,by simp⟩ rfl rfl⟩) (BA.args_extend _ _)
def EZ(G:Good c){a:iS}{f:Int->Option V}{k:Int}{t:Tok}{Q:V->H->Prop}{b:H}{s:bS}(j:b a=some (.idict f))(q:Q ((f k).getD .none) b)(X:I c pr b s.heap):
  tL (pR c.prog c.w) A (call (.builtin "dict.get") [.ref a,.int k t]) (Ends c pr er Q s) No s:=by
 refine bp (eU X j) λg m p=>?_
 refine call_meetsIn F.slot_dict_get m.typeIs F.entry_dict_get (F.args_dict_get_2 _ _) (meets_dict_get _ a (Wb _ _ k t) (ro G X j)) ⟨_,m.mapOf,.mkT s _,b,?_,X⟩;have q:=p k▸q;generalize h:UU g k=r;induction r<;>rw [h] at q<;>exact q
def DJ(G:Good c){a:iS}{f:Int->Option V}{k:Int}{t:Tok}{v:Value}{Q:V->H->Prop}{b:H}{s:bS}(j:b a=some (.idict f))(q:Q ((f k).getD (er v)) b)(X:I c pr b s.heap):
  tL (pR c.prog c.w) A (call (.builtin "dict.get") [.ref a,.int k t,v]) (Ends c pr er Q s) No s:=by
 refine bp (eU X j) λg m p=>?_
 refine call_meetsIn F.slot_dict_get m.typeIs F.entry_dict_get (F.args_dict_get_3 _ _ _) (meets_dict_get_default _ a (Wb _ _ k t) (ro G X j) v) ⟨_,m.mapOf,.mkT s _,b,?_,X⟩;have q:=p k▸q;generalize h:UU g k=r;induction r<;>rw [h] at q<;>exact q
end
end
section
open PySem.SeqAt PySem.MeetsSeq
section
variable{prog:Vd}{w:Va}
open AutoSeq1 (wpAny_loadPart')
def rq(l:iS)(items:Array Value)(n:Nat)(x:Value)(e:Value->Bool)(j:Nat)(C:j<items.size)(D:e items[j]=true)(k:Nat)(u:items.size<=Yj):
  ∀i:Nat,j-i=k->i<=j->(∀m (J:m<items.size),i<=m->m<j->e items[m]=false)->Meets (Builtin.«list.remove.loop» ⟨[.ref l,x,Xw i],[]⟩)
   (λA R s=>s.heap.get? l=some {cls:=.type "list",dict:=none,data:=.seq items n,slots:= #[]}/\(∀y,y∈items->EqAt A.in1 s y x (e y))/\R (.ok (.ret .none)) {s with heap:=s.heap.update l (Obj.mapSeq λxs=>xs.eraseIdxIfInBounds j)}):=by
 induction k with
 |zero=>
  intro i p v b prog w A R s h;obtain⟨hp,g,d,M,os⟩:=s;obtain⟨r,B,h⟩:=h;have z:i=j:=by exact OX v p
  subst z;wp_walk using Xn r;have G:items[((i:Nat):Int).toNat]? =some items[i]:=by simp [C]
  rw [G];refine aS (B _ (Zu C) prog w _ _ ?_);rw [D];wp_walk using (wpAny_updateSeq r rfl (hz:=u) (_hz':=(gD (size_erased items _) (Nat.le_succ_of_le u)))),Xn r;exact h
 |succ k O=>
  intro i p v b prog w A R s h;obtain⟨hp,g,d,M,os⟩:=s;obtain⟨r,B,h⟩:=h;have c:i<items.size:=by exact Ka p C
  wp_walk using Xn r;have G:items[((i:Nat):Int).toNat]? =some items[i]:=by simp [c]
  have Q:((i:Int)+1)=((i+1:Nat):Int):=by push_cast;rfl
  refine G▸ ?_;refine aS (B _ (Zu c) prog w _ _ ?_);refine b i c (oP _) (by exact Gu p)▸ ?_;wp_walk
  exact Q▸⟨V6 WX _,V8 aa6 (by
   refine Vi WX _▸ ?_
   exact O (i+1) (Gk p) (RS p) (λm J U Y=>b m J (GV U) Y) prog w A R _ ⟨r,B,h⟩)⟩
def r7(l:iS)(items:Array Value)(n:Nat)(x:Value)(e:Value->Bool)(j:Nat)(u:j<items.size)
  (b:e items[j]=true) (c:∀m (p:m<items.size),m<j->e items[m]=false) (k:items.size<=Yj):
  Meets (Builtin.«list.remove» ⟨[.ref l,x],[]⟩)
   (λA R s=>s.heap.get? l=some {cls:=.type "list",dict:=none,data:=.seq items n,slots:= #[]}/\(∀y,y∈items->EqAt A.in1 s y x (e y))/\R (.ok (.ret .none)) {s with heap:=s.heap.update l (Obj.mapSeq λxs=>xs.eraseIdxIfInBounds j)}):=by
 intro prog w A R s h;obtain⟨hp,g,d,B,os⟩:=s;refine eK h λr v h=>?_
 wp_walk using Xn r
 exact⟨V6 WX _,V8 aa6 (by
  exact Vi WX _▸rq l items n x e j u b _ k 0 rfl (Tl _) (λm p U z=>c m p z) prog w A R _ ⟨r,v,h⟩)⟩
variable{K:YY}{A:Bs}{E:Value->bS->Prop}{s:bS}
def vz{x y C:iS}{k m:Obj}{p:Option Obj}{Q:Option Value->bS->Prop}(X:K.In s.heap)(I:InstAt s.heap x k C p)(u:V2 K (.ref C) "__eq__" =some (some (.builtin "object.__eq__")))(hp:Zt K C=true)
  (z:s.heap.get? y=some m) (c:x≠y) (q:Q none s):tL (pR prog w) A (tryCompare (.ref x) "__eq__" (.ref y)) Q E s:=by
 refine bp (any_some hp) λj B g=>?_
 have D:j.mro.isEmpty=false:=by cases q:j.mro with|nil=>rw [q] at g;cases g|cons _ _=>rfl
 have sub:Y6 (pR prog w) s.heap (aaO (.ref x) (.type "object")) true:=I.type.andThen (looks_mroIn X (by unfold mroIn;rw [B,Xy,if_neg (by rw [D];decide),only_has g]));have run:tL (pR prog w) A (call (.builtin "object.__eq__") [.ref x,.ref y]) (λv b=>v=.notImplemented/\b=s) E s:=
  aaN (codeAny_call_builtin PySem.F.cmp_object.eq.plain PySem.F.cmpEntry_eq (check_slot PySem.F.cmpKind_eq PySem.F.cmpSplit_eq sub (PySem.F.cmpArgs_eq _ _)
   (objEq_entry_other c I.at_ z (by rw [I.cls];exact λe=>by cases e) ⟨rfl,rfl⟩)))
 unfold tryCompare callSpecialIfBound? bindSpecialIfBound? Yv;refine aS (LO (aS (aS (aS (I.type.here ((looks_findIn X u).here ?_))))));dsimp only;rw [PySem.F.cmp_object.eq.bind];refine aS (Vh (wpAny_ite ?_));have fin:tL (pR prog w) A (call (.builtin "object.__eq__") ([.ref x]++ [.ref y])>>=λv=>pure (some v)) (λr b=>tL (pR prog w) A (match r with|some .notImplemented|none=>pure none|some v=>pure (some v)) Q E b) E s:=
  aS (UZ run (λv b h=>by obtain⟨rfl,rfl⟩:=h;exact fS (fS q)) λU U h=>h)
 split
 ·exact aS (fS (fS fin))
 ·exact wpAny_tryCatch (aS (fS (fS fin)))
def EJ{x y C:iS}{g h:Obj}{j b:Option Obj}(X:K.In s.heap)(I:InstAt s.heap x g C j)(J:InstAt s.heap y h C b)(c:V2 K (.ref C) "__eq__" =some (some (.builtin "object.__eq__")))(hp:Zt K C=true)(k:A.units<cLine):
  EqAt A s (.ref x) (.ref y) (x==y):=by
 intro prog w E Q q;refine LO ?_;by_cases e:x=y
 ·subst e;refine yg (by exact eX rfl) ?_;rw [beq_self_eq_true] at q;exact aS (Vj (fS q))
 ·refine cX (by simpa using e) ?_;refine aS ?_;refine LO (aS (wpAny_cRoomFor k ?_));refine aS (I.type.here (aS (J.type.here ?_)));refine cX (by simp) ?_;refine aS (fS ?_);refine aS (vz X I c hp J.at_ e ?_);refine aS (vz X J c hp I.at_ (NS e) ?_);refine aS (Vj (aS (wpAny_isSame_ref_other e I.at_ J.at_ (by exact I.cls▸λe=>by exact dI Value.ctorIdx e rfl) (fS ?_))));have q:Q false s:=by rw [beq_eq_false_iff_ne.mpr e] at q;exact q
  exact Vm q
end
end
section
open PySem.SeqAt PySem.MeetsSeq
structure Good3(c:bo)(x:Cx):Prop extends Good2 c where
 eq:∀C,c.cls C=true->V2 c.K (.ref C) "__eq__" =some (some (.builtin "object.__eq__"))
 meth:∀C i f,c.cls C=true->x.meth C i=some f->V2 c.K (.ref C) (c.nm i)=some (some (.ref f))/\aaR c.K (.ref f)=some (.type "function")/\Y7 c.K (.ref f)=true/\x.ok f=true/\x.init f=none
 nAppend:c.nm g8=("append" :Str)
 nRemove:c.nm gV=("remove" :Str)
 nExtend:c.nm jt=("extend" :Str)
 nGet:c.nm wO=("get" :Str)
theorem lm{b c:Type}(f:b->c):∀(l:List b) (i:Nat),(l.eraseIdx i).map f=(l.map f).eraseIdx i
 | [],_=>rfl
 |_::_,0=>rfl
 |a::r,i+1=>by exact congrArg _ (lm f r i)
theorem vh{b:Type} [DecidableEq b] (v:b):∀(l:List b),l.eraseIdx (l.idxOf v)=l.erase v
 | []=>rfl
 |a::r=>by
  rw [List.idxOf_cons,List.erase_cons];cases h:a==v with
  |true=>rfl
  |false=>
   have:(v==a)=false:=by rw [beq_eq_false_iff_ne] at h⊢;exact NS h
   exact congrArg _ (vh v r)
section
variable{c:bo}{A:Bs}{pr:PH}{x:Cx}
set_option tactic.hygienic true in
def zU(G:Good3 c x)(hu:A.units+1<cLine){a:iS}{xs:List V}{v:Value}{Q:V->H->Prop}{w:H}{s:bS}(Y:w a=some (.list xs))(B:jI w (er v) xs=true)(hm:er v∈xs)(hl:xs.length<=1000000)
  (q:Q .none (w.put a (.list (xs.erase (er v))))) (X:I c pr w s.heap):
  tL (pR c.prog c.w) A (call (.builtin "list.remove") [.ref a,v]) (Ends c pr er Q s) No s:=by
 refine bW (X.list Y) λb n h r=>?_
 subst r;have inst:∀ {u:Value} {C:iS},zo w (er u)=some C->∃p ox od,u=.ref p/\c.cls C=true/\InstAt s.heap p ox C od:=by
  intro u C e;refine Ij e λp hp e=>Qs e λC' fs M e=>?_
  obtain rfl:=eQ e;refine H9 (ux X M) λd es ep D J J J J J Ia=>?_
  exact⟨p,_,_,bK hp,D,Ia⟩
 unfold jI at B;split at B;have hz:b.size<=sizeLine:=gD (by rw [eS] at hl;exact hl) Js
 ·rename_i C M;refine uh (inst M) λg ov aa j D Iv=>?_
  subst j;have z:∀y,y∈b->EqAt A.in1 s y (.ref g) (decide (er y=V.ref g)):=by
   intro y hy;have:=List.all_eq_true.mp B (er y) (List.mem_map.mpr ⟨y,by simpa using hy,rfl⟩);refine uh (inst (beq_iff_eq.mp this)) λpy oy ab k J Iy=>?_
   subst k;have:=EJ (A:=A.in1) X.K Iy Iv (G.eq C D) (G.cls C D).over hu;show EqAt A.in1 s _ _ (decide (V.ref py=V.ref g));simpa [EB] using this
  have O:(b.toList.map er).idxOf (V.ref g)<b.size:=by
   have:=List.idxOf_lt_length_of_mem hm;rw [eS,Zh] at this;exact this
  refine aaK Yl ⟨_,h,rfl⟩ PySem.F.entry_list_remove (PySem.F.args_list_remove_2 _ _)
   (r7 a b n (.ref g) (λy=>decide (er y=V.ref g)) ((b.toList.map er).idxOf (V.ref g)) O ?_ ?_ hz) ⟨h,z,?_⟩
  ·have:=List.getElem_idxOf (xs:=b.toList.map er) (x:=V.ref g) (by simpa using O:(b.toList.map er).idxOf (V.ref g)<(b.toList.map er).length);simp only [HD,Y8] at this;exact eX this
  ·intro m ac U;have:=List.not_of_lt_findIdx (p:=(· ==V.ref g)) (xs:=b.toList.map er) (i:=m) U;simp only [HD,Y8] at this;exact this
  ·refine⟨.mkH s _,_,q,X.turn Y (Ts ..) ⟨b.eraseIdxIfInBounds ((b.toList.map er).idxOf (V.ref g)),_,UW _ h rfl,?_⟩ rfl rfl⟩;rw [Array.eraseIdxIfInBounds,dif_pos O,Array.toList_eraseIdx,lm,vh];rfl
 ·exact fT B
end
end
section
section
variable{c:bo}{A:Bs}{pr:PH}{x:Cx}{n:Nat}
inductive EU(x:Cx):Mk->Nat->Value->Prop
 |fn (f:iS) (i:Nat):x.ok f=true->x.init f=none->EU x (.fn f) i (.ref f)
 |app:EU x .li g8 (.builtin "list.append")
 |rem:EU x .li gV (.builtin "list.remove")
 |ext:EU x .ba jt (.builtin "bytearray.extend")
 |get:EU x .di wO (.builtin "dict.get")
def wn{g:H}{h:UT}{a:iS}{xs:List V}(X:I c pr g h)(e:g a=some (.list xs)):∃o,h.get? a=some o/\o.cls=.type "list" /\o.dict=none:=by
 refine bW (X.list e) λb n j J=>?_
 exact⟨_,j,rfl,rfl⟩
def ED(G:Good3 c x){m:Value}{i:Nat}{k:Mk}{pl:Sem Bool}{Q:Value×List Value->bS->Prop}{r:H}{s:bS}(h:et x r (er m) i=some k)(X:I c pr r s.heap)
  (q:∀u,EU x k i u->Q (u,[m]) s):tL (pR c.prog c.w) A (getMethod m (c.nm i) pl) Q No s:=by
 have M:∀ {P:Value->Mk->Prop},(∀a C w f,r a=some (.inst C w)->(aC w i).isNone=true->i<300->x.meth C i=some f->P (.ref a) (.fn f))->(∀a z,r a=some (.list z)->i=g8\/i=gV->P (.ref a) .li)->
   (∀a b,r a=some (.ba b)->i=jt->P (.ref a) .ba)->(∀a f,r a=some (.idict f)->i=wO->P (.ref a) .di)->P m k:=by
  intro P k1 k2 k3 k4;generalize O:er m=y;induction y with
  |ref a=>
   have h:=O▸h;rw [bK O];unfold et at h;dsimp only at h;generalize g:r a=y;induction y with
   |none=>rw [g] at h;exact nN h
   |some ob=>
    rw [g] at h;induction ob with
    |inst C w=>
     refine DX h (λB h=>?_) λh=>nN h
     refine bp (Option.map_eq_some_iff.mp h) λf U Y=>?_;subst Y
     have B:=Bool.and_eq_true_iff.mp B;exact k1 a C w f g B.1 (EX B.2) U
    |list z=>exact DX h (λj h=>eQ h▸k2 a z g j) λh=>nN h
    |ba b=>exact DX h (λj h=>eQ h▸k3 a b g j) λh=>nN h
    |idict f=>exact DX h (λj h=>eQ h▸k4 a f g j) λh=>nN h
    |_=>exact nN h
  |_=>rw [O] at h;exact nN h
 refine M (P:=λm k=>(∀u,EU x k i u->Q (u,[m]) s)->tL _ A (getMethod m (c.nm i) pl) Q No s) (λa C w f g hn j U q=>?_) (λa z g j q=>?_) (λa b g j q=>?_) (λa f g j q=>?_) q
 ·refine H9 (ux X g) λd es ep hc p h2 D h4 h5 Ia=>?_
  have K:=G.cls C hc;refine nj (G.meth C i f hc U) λm1 m2 J m3 m4=>?_
  refine method_fn X.K Ia K.ga K.gx m1 m2 ?_ (q _ (.fn f i m3 m4));show(lookIn (c.nm i) _).map Option.isSome=some false;rw [rf D];have:=h4 i j;generalize hh:VG es (c.nm i)=y;induction y with
  |none=>rfl
  |some v=>rw [hh] at this;rw [<-this] at hn;exact fT hn
 ·refine dQ (wn X g) λo p h2 D=>?_
  rcases j with rfl|rfl
  ·refine G.nAppend▸ ?_;exact WY ⟨o,p,h2⟩ Yr PySem.F.slot_list_append PySem.F.type_list_append (λa e=>by cases e;exact⟨o,p,D⟩) (q _ .app)
  ·exact G.nRemove▸WY ⟨o,p,h2⟩ Yr Yl PySem.F.type_list_remove (λa e=>by cases e;exact⟨o,p,D⟩) (q _ .rem)
 ·subst j;refine bp (X.ba g) λaa p J=>?_
  refine G.nExtend▸ ?_;exact WY (bL p) BA.plainAttrs BA.slot_extend BA.type_extend (λa e=>by cases e;exact⟨_,p,rfl⟩) (q _ .ext)
 ·subst j;refine bp (eU X g) λab hd J=>?_
  exact G.nGet▸WY hd.typeIs PySem.F.plainAttrs_dict PySem.F.slot_dict_get PySem.F.type_dict_get hd.mapOf.noDict (q _ .get)
def xR(G:Good3 c x){a:iS}{f:Int->Option V}{as:List Value}{Q:V->H->Prop}{b:H}{s:bS}(h:b a=some (.idict f))(q:Ay f (as.map er) Q b)(X:I c pr b s.heap):
  bD (pR c.prog c.w) A (call (.builtin "dict.get") (.ref a::as)) (Ends c pr er Q s) No s:=by
 rcases as with _|⟨v,r⟩
 ·exact q.elim
 ·
  have g:∀ {P:Value->Prop},(∀k t,P (.int k t))->P v:=λ{P} z=>by
   generalize j:er v=m;induction m with
   |int k=>exact pU j λt=>z k t
   |_=>have q:(match er v with| .int k=>_|_=>False):=q;rw [j] at q;exact q.elim
  refine g (P:=λv=>Ay f (er v::r.map er) Q b->bD _ A (call (.builtin "dict.get") (.ref a::v::r)) _ _ s) (λk t q=>?_) q;rcases r with _|⟨u,p⟩
  ·exact .of (EZ G.toGood h q X)
  ·induction p with
   |nil=>exact .of (DJ G.toGood h q X)
   |cons _ _=>exact q.elim
def A7(G:Good3 c x)(m:sU n A){a:iS}{o:AO}{k:Mk}{i:Nat}{w:Value}{as:List Value}(B:EU x k i w){Q:V->H->Prop}{j:H}{s:bS}(g:j a=some o)(q:jd k a o i (as.map er) Q j)(X:I c pr j s.heap):
  bD (pR c.prog c.w) A (call w (.ref a::as)) (Ends c pr er Q s) No s:=by
 induction B with
 |fn f i D J=>exact q.elim
 |app=>induction o with
  |list C=>exact g4 (G:=λas=>bD _ A (call _ (.ref a::as)) _ _ s) q λv z=>.of (zH g z.1 z.2 X)
  |_=>exact q.elim
 |rem=>induction o with
  |list C=>exact g4 (G:=λas=>bD _ A (call _ (.ref a::as)) _ _ s) q λv z=>.of (zU G (by exact Pi m.units) g z.1 z.2.1 z.2.2.1 z.2.2.2 X)
  |_=>exact q.elim
 |ext=>induction o with
  |ba b=>
   refine g4 (G:=λas=>bD _ A (call _ (.ref a::as)) _ _ s) q λv z=>?_
   obtain⟨y,z⟩:=z;generalize h:er v=u;induction u with
   |bytes r=>rw [h] at z;exact tc m g y z.1 (.inl h) z.2 X
   |ref p=>
    have z:=h▸z;dsimp only at z;generalize hp:j p=u;induction u with
    |none=>rw [hp] at z;exact z.elim
    |some o=>
     have z:=hp▸z;induction o with
     |ba r=>exact tc m g y z.2.1 (.inr ⟨p,h,hp⟩) z.2.2 X
     |_=>exact z.elim
   |_=>rw [h] at z;exact z.elim
  |_=>exact q.elim
 |get=>induction o with
  |idict f=>exact xR G g q X
  |_=>exact q.elim
set_option tactic.hygienic true in
def I9(G:Good3 c x)(h:sU n A)(C:pV c x n){b:Value}{k:Mk}{i:Nat}{j:Value}{as:List Value}(m:EU x k i j){Q:V->H->Prop}{g:H}{s:bS}(q:Fm x n (er b) k i (as.map er) Q g)(X:I c pr g s.heap):
  bD (pR c.prog c.w) A (call j (b::as)) (Ends c pr er Q s) No s:=by
 induction k with
 |fn f=>
  cases m;rename_i p r;refine C A pr (.ref f) (b::as) h Q g s ?_ X;refine⟨p,?_⟩;exact r▸q
 |_=>exact Lw (v:=b) q λa q=>SM q λob u q=>A7 G h m u q X
end
end
section
section
variable{c:bo}{pr:PH}
def I.add{k:H}{h h':UT}{a:iS}{o:Obj}(x:I c pr k h)(s:∀b ob,h.get? b=some ob->h'.get? b=some ob)(p:h.objs.size<=a)(e:h'.get? a=some o):I c (pr.set a o) k h':=by
 refine du x.lay λu L=>?_
 refine⟨λb ob q=>?_,λb ob q=>?_,u,λb ob q=>(L.enc b ob q).keeps s,λb ob q=>?_,λb C g q=>?_⟩
 ·by_cases j:b=a
  ·subst j;rw [PH.set_same] at q;obtain rfl:=eQ q;exact e
  ·rw [PH.set_ne _ _ j] at q;exact s _ _ (x.fz b ob q)
 ·by_cases j:b=a
  ·subst j;have q:=x.prFresh p|>λz=>(show c.K.lookup b=none from by generalize w:c.K.lookup b=v;induction v with|none=>rfl|some y=>have:=x.kin b y w;have this:=z▸this;exact nN this)▸q;exact nN q
  ·exact(PH.set_ne _ _ j).trans (x.kin b ob q)
 ·exact(PH.set_ne _ _ ((λb ob q z=>absurd (x.lt q) (by exact z▸Nat.not_lt.mpr p)) b ob q)).trans (L.off b ob q)
 have A:∀b C g,k b=some (.inst C g)->u b≠a:=λb C g q z=>by
  obtain⟨_,_,B,D,m,r,_⟩:=L.enc b _ q;exact absurd (Nm r) (by exact z▸Nat.not_lt.mpr p)
 ·exact PH.set_ne _ _ (A b C g q)▸L.priv b C g q
def I.addSub{g:H}{h:UT}{a:iS}(x:I c pr g h)(j:h.objs.size<=a)(o:Obj):∀b ob,pr b=some ob->pr.set a o b=some ob:=λb ob q=>by
 rw [PH.set_ne _ _ λz=>?_]
 ·exact q
 ·subst z;have q:=x.prFresh j▸q;exact nN q
def I.prNone{b:H}{h:UT}{a:iS}{o:AO}(x:I c pr b h)(e:b a=some o):pr a=none:=let ⟨_,L⟩:=x.lay;L.off a o e
def I.sNone{b:H}{h:UT}{a:iS}{o:Obj}(x:I c pr b h)(e:pr a=some o):b a=none:=by
 generalize q:b a=g;induction g with
 |none=>rfl
 |some j=>have e:=x.prNone q▸e;exact nN e
set_option tactic.hygienic true in
def I.thaw{p:H}{h h':UT}{a:iS}{o:Obj}{ao:AO}(x:I c (pr.set a o) p h)(k:pr a=none)(A:∀b o,c.K.lookup b=some o->pr b=some o)(s:OR a h h')(e:Enc c h' a a ao)(m:ao.isInst=false):
  I c pr (p.put a ao) h':=by
 refine du x.lay λw L=>?_
 have y:∀b ob,p b=some ob->b≠a:=λb ob q z=>by have:=L.off b ob q;have this:=z▸this;rw [PH.set_same] at this;cases this
 have u:∀b C g,p b=some (.inst C g)->w b≠a:=λb C g q z=>by have:=(L.priv b C g q).1;have this:=z▸this;rw [PH.set_same] at this;cases this
 have back:∀b,b≠a->pr.set a o b=pr b:=λb j=>PH.set_ne _ _ j
 refine⟨λb ob q=>?_,A,w,λb ob q=>?_,λb ob q=>?_,λb C g q=>?_⟩
 ·have j:b≠a:=λz=>by rw [z] at q;have q:=k▸q;cases q
  exact(s.2 b j).trans (x.fz b ob (by exact back b j▸q))
 ·unfold H.put at q;split at q
  ·rename_i j;subst j;obtain rfl:=eQ q
   revert m e;cases ao<;>intro m e<;>first|(cases m;done)|exact e
  ·refine(L.enc b ob q).local (s.2 b (y b ob q)) λz=>s.2 _ ?_
   cases ob with
   |inst C g=>exact u b C g q
   |_=>cases z
 ·unfold H.put at q;split at q
  ·rename_i j;subst j;exact k
  ·refine back b (y b ob q)▸ ?_;exact L.off b ob q
 ·unfold H.put at q;split at q
  ·obtain rfl:=eQ q;exact nomatch m
  ·refine eK (L.priv b C g q) λB D G=>?_
   refine⟨by exact back _ (u b C g q)▸B,?_,λJ M v r O=>?_⟩
   ·exact(H.put_ne _ _ (u b C g q)).trans (D)
   ·unfold H.put at r;split at r
    ·obtain rfl:=eQ r;cases m
    ·exact G J M v r O
def n9.grow{c:PH}{env:Env}{x:Str}{k:Value}(h:n9 env pr x k)(hp:∀b o,pr b=some o->c b=some o):n9 env c x k:=by
 rcases h with⟨g,o,m,p,j,r⟩|⟨g,s,o,j,u,r⟩
 ·exact .inl ⟨g,o,m,p,hp _ _ j,r⟩
 ·exact .inr ⟨g,s,o,j,hp _ _ u,r⟩
theorem fg.grow{g:PH}{env:Env}{vs:List (Option Str)}{m:Fs}(F:fg c env vs pr m)(hp:∀b o,pr b=some o->g b=some o):fg c env vs g m where
 fn:=F.fn
 nodup:=F.nodup
 loc:=let ⟨o,j,k,h,r⟩:=F.loc;⟨o,j,k,hp _ _ h,r⟩
 cells x cc h:=let ⟨o,v,h,r⟩:=F.cells x cc h;⟨o,v,hp _ _ h,r⟩
 apart:=F.apart
 apartL:=F.apartL
 off:=F.off
 vars i x v h1 h2 h3:=let ⟨p,h,r⟩:=F.vars i x v h1 h2 h3;⟨p,h,r.grow hp⟩
variable{x:Cx}
structure bR(c:bo)(x:Cx)(n:Nat)(A:Bs)(pr:PH)(env:Env)(vs:List (Option Str))(m:Fs):Prop where
 adm:sU n A
 top:Top env
 fr:fg c env vs pr m
 calls:pV c x n
 keep:∀a,x.ok a=true->Y7 c.K (.ref a)=true
theorem bR.grow{n:Nat}{A:Bs}{pr g:PH}{env:Env}{vs:List (Option Str)}{m:Fs}(S:bR c x n A pr env vs m)(hp:∀b o,pr b=some o->g b=some o):bR c x n A g env vs m:=
 ⟨S.adm,S.top,S.fr.grow hp,S.calls,S.keep⟩
end
end
section
set_option maxHeartbeats 2000000
section
variable{c:bo}{A:Bs}{pr:PH}{env:Env}
noncomputable abbrev emptyDict:Obj:={cls:=.type "dict",data:=.dict #[]}
def G2{k:Str}{i:Nat}{p:Pos}{P:Value->bS->Prop}{M:VX}{E:Value->bS->Prop}{s:bS}(h:P (.str k s.toks) {s with toks:=s.toks+1}):bD M A (eval (.Constant (.str k) i p) env) P E s:=by
 rw [arm_eval_Constant];exact .of (aae h)
def EG{w y:Str}{i j:Nat}{D M pos:Pos}{B m:iD}{C W2:(V->H->Prop)->H->Prop}(O:bq c A pr (eval B env) er C)(Q:bq c A pr (eval m env) er W2){G:V->V->H->Prop}{P:List (Value×Value)->bS->Prop}{g:H}{s:bS}
  (q:C (λa g=>W2 (λb g=>G a b g) g) g) (X:I c pr g s.heap) (k:∀U Y a b h p,aU s p->G (er a) (er b) h->I c pr h p.heap->P [(.str w U,a),(.str y Y,b)] p):
  bD (pR c.prog c.w) A (evalPairs [(eval (.Constant (.str w) i D) env,(do let x <-eval B env;standAt pos;pure x)),(eval (.Constant (.str y) j M) env,(do let x <-eval m env;standAt pos;pure x))]) P No s:=by
 simp only [evalPairs];refine aA (G2 (aA (aK (aA (aJ (O _ g {s with toks:=s.toks+1} q X) (λa r z=>?_) λJ J z=>z)))));obtain⟨m,u,q2,X3⟩:=z;refine aA (aL (aF ?_));refine aA (aK (aA (G2 ?_)));refine aA (aK (aA (aJ (Q _ u {r with toks:=r.toks+1} q2 X3) (λb s4 z=>?_) λJ J z=>z)));obtain⟨e4,v,q4,X5⟩:=z;refine aA (aL (aF ?_));exact aA (aK (aF (aF (aF (k _ _ a b v s4 (((aU.mkT s _).trans m).trans ((aU.mkT r _).trans e4)) q4 X5)))))
def Fv{g h:Str}{i j:Nat}{Y p2 pos:Pos}{z B:iD}{W1 W2:(V->H->Prop)->H->Prop}(y:g≠h)
  (h1:∀m:PH,(∀b o,pr b=some o->m b=some o)->bq c A m (eval z env) er W1) (h2:∀m:PH,(∀b o,pr b=some o->m b=some o)->bq c A m (eval B env) er W2):
  bq c A pr (eval (.Dict [some (.Constant (.str g) i Y),some (.Constant (.str h) j p2)] [z,B] pos) env) er
   (λQ u=>W1 (λa u=>W2 (λb u=>fresh (.sdict λk=>if k=g then some a else if k=h then some b else none) Q u) u) u):=by
 intro Q u s q X;rw [arm_eval_Dict];refine aA (aL ?_);show bD _ _ (dictDisplay (([(eval (.Constant (.str g) i Y) env,(do let x <-eval z env;standAt pos;pure x)),(eval (.Constant (.str h) j p2) env,(do let x <-eval B env;standAt pos;pure x))]:List (Sem Value×Sem Value)).map λp=>(some p.1,p.2))) _ _ _;rw [dictDisplay_pairs _ (by simp) (by simp)];unfold subDict;refine aA ?_;have C:s.heap.objs.size<=s.heap.objs.size:=oP _;have e0:(s.heap.push emptyDict).get? s.heap.objs.size=some emptyDict:=GD _ rfl;have X1:=X.add (λJ J e=>sT _ e) C e0;have up:=X.addSub C emptyDict;refine aD (wpAny_alloc ?_);refine aA (aK ?_);rw [eX (by simp)];refine aA (EG (G:=λa b u=>fresh (.sdict λk=>if k=g then some a else if k=h then some b else none) Q u) (h1 _ up) (h2 _ up) q X1 λt1 t3 a b aa D ee q4 M=>?_);refine aK ?_;have d0:D.heap.DictOf (strKind c.prog c.w) s.heap.objs.size []:=by
  have:=M.fz _ _ (PH.set_same pr s.heap.objs.size emptyDict);have n0:=YV (knd:=strKind c.prog c.w) s.heap;obtain⟨o,es,ep,ho,r⟩:=n0;rw [e0] at ho;cases ho;exact⟨_,es,ep,this,r⟩
 refine aD (wpAny_storeAll (knd:=strKind c.prog c.w) (d:=s.heap.objs.size) [(.str g t1,a),(.str h t3,b)] [(g,a),(h,b)] [] D _ ⟨Y3 _ _ g t1,rfl,Y3 _ _ h t3,rfl,trivial⟩ d0 (by show 2<=Yj;decide) λh' O U=>?_);refine aF (aF (aF ⟨(aU.mkH s _).trans (ee.trans (.mk' D _ _)),_,q4 s.heap.objs.size (M.sNone (PH.set_same ..)),?_⟩))
 ·refine M.thaw (X.prFresh C) X.kin U ⟨_,O,?_,λk=>?_⟩ rfl
  ·have:(merged [] [(g,a),(h,b)]).length<=0+2:=merged_length_le _ _;exact K0 this
  ·have hm:merged [] [(g,a),(h,b)]=aad (aad [] g a) h b:=rfl;rw [hm,ey,ey];by_cases v:k=g
   ·subst v;rw [if_neg y,eX rfl];exact(eX rfl).symm
   ·by_cases w:k=h
    ·subst w;simp [NS y]
    ·simp [NS v,NS w,v,w,UU]
end
end
section
section
variable{c:bo}{A:Bs}{pr:PH}{env:Env}{vs:List (Option Str)}{m:Fs}
noncomputable def PH.del(pr:PH)(a:iS):PH:=λb=>if b=a then none else pr b
def PH.del_same(pr:PH)(a:iS):pr.del a a=none:=eX rfl
def PH.del_ne(pr:PH){a b:iS}(h:b≠a):pr.del a b=pr b:=if_neg h
def I.lose{k:H}{h h':UT}{a:iS}{o:Obj}(x:I c pr k h)(r:pr a=some o)(y:c.K.lookup a=none)(p:abq a h h'):I c (pr.del a) k h':=by
 refine du x.lay λs L=>?_
 have u:∀b C j,k b=some (.inst C j)->s b≠a:=λb C j q z=>by have:=(L.priv b C j q).1;rw [z] at this;have this:=r▸this;exact sN this
 refine⟨λb ob q=>?_,λb ob q=>?_,s,λb ob q=>?_,λb ob q=>?_,λb C j q=>?_⟩
 ·by_cases g:b=a
  ·subst g;rw [PH.del_same] at q;exact nN q
  ·rw [PH.del_ne _ g] at q;exact p b ob g (x.fz b ob q)
 ·by_cases g:b=a
  ·subst g;have q:=y▸q;exact nN q
  ·exact(PH.del_ne _ g).trans (x.kin b ob q)
 have A:∀b ob,k b=some ob->b≠a:=λb ob q z=>by have:=L.off b ob q;rw [z] at this;have this:=r▸this;exact sN this
 ·have e:=L.enc b ob q;obtain⟨B,v⟩:=e.at;refine e.local ((p b B (A b ob q) v).trans v.symm) λz=>?_
  induction ob with
  |inst C j=>
   obtain⟨_,_,D,G,m,w,_⟩:=e;exact(p _ _ (u b C j q) w).trans w.symm
  |_=>exact fT z
 ·by_cases g:b=a
  ·subst g;exact PH.del_same ..
  ·exact(PH.del_ne _ g).trans (L.off b ob q)
 ·exact PH.del_ne _ (u b C j q)▸L.priv b C j q
def n9.same{c:PH}{x:Str}{k:Value}(h:n9 env pr x k)(hp:∀b,Fa env b->c b=pr b):n9 env c x k:=by
 rcases h with⟨j,o,m,p,g,r⟩|⟨j,s,o,g,u,r⟩
 ·exact .inl ⟨j,o,m,p,(hp _ (.inl rfl)).trans g,r⟩
 ·exact .inr ⟨j,s,o,g,(hp _ (.inr ⟨x,g⟩)).trans u,r⟩
theorem fg.same{g:PH}(F:fg c env vs pr m)(hp:∀b,Fa env b->g b=pr b):fg c env vs g m where
 fn:=F.fn
 nodup:=F.nodup
 loc:=let ⟨o,j,k,h,r⟩:=F.loc;⟨o,j,k,(hp _ (.inl rfl)).trans h,r⟩
 cells x cc h:=let ⟨o,v,p,r⟩:=F.cells x cc h;⟨o,v,(hp _ (.inr ⟨x,h⟩)).trans p,r⟩
 apart:=F.apart
 apartL:=F.apartL
 off:=F.off
 vars i x v h1 h2 h3:=let ⟨s,h,r⟩:=F.vars i x v h1 h2 h3;⟨s,h,r.same hp⟩
def fg.sub{b:Fs}(F:fg c env vs pr b)(g:∀i v,aC m i=some v->aC b i=some v):fg c env vs pr m where
 fn:=F.fn
 nodup:=F.nodup
 loc:=F.loc
 cells:=F.cells
 apart:=F.apart
 apartL:=F.apartL
 off:=F.off
 vars i x v h1 h2 h3:=F.vars i x v h1 (g i v h2) h3
def fg.fa{b:iS}(F:fg c env vs pr m)(h:Fa env b):∃o,pr b=some o:=by
 rcases h with rfl|⟨x,g⟩
 ·refine DI F.loc λo _ _ h _=>?_;exact⟨o,h⟩
 ·refine bW (F.cells x b g) λo _ h _=>?_;exact⟨o,h⟩
noncomputable def nv:wR->Nat->Obj->Prop
 | .list a,i,o=>o.cls=.type "list_iterator" /\o.data=.fields #[.ref a,.int i 0]
 | .rng lo b,i,o=>o={cls:=.type "range_iterator",dict:=none,data:=.fields #[Xw (lo+i),Xw (((b-lo).toNat:Int)-i),Xw 1],slots:= #[]}/\(i:Int)<=(b-lo).toNat
 | .set _,_,_=>False
set_option tactic.hygienic true in
def zj{k:wR}{C:H}{s:bS}{y:iS}{o:Obj}{i:Nat}{r:Option V}{Q:Option Value->bS->Prop}{E:Value->bS->Prop}(hh:A.handled=none)(X:I c pr C s.heap)(hp:pr y=some o)(D:c.K.lookup y=none)(M:nv k i o)
  (h:cG k C i=some r)
  (q1:∀(u:V) (pv:Value) (m:bS) (G:Obj),r=some u->er pv=u->aU s m->I c (pr.set y G) C m.heap->nv k (i+1) G->Q (some pv) m)
  (q2:∀m,r=none->aU s m->I c (pr.del y) C m.heap->Q none m):tL (pR c.prog c.w) A (Y9 (.ref y)) Q E s:=by
 have O:=X.fz _ _ hp;induction k with
 |list a=>
  unfold cG at h;dsimp only at h;split at h
  ·rename_i xs hx;split at h
   ·obtain rfl:=eQ h;refine bW (X.list hx) λp n hl j=>?_
    subst j;have z:s.heap.IsListIter y a i:=⟨o,O,M⟩
    have B:=hl.isList;generalize J:p[i]? =zz;induction zz with
    |some v=>
     refine aaf z B J λw b x=>?_
     refine bp b λG U r'=>?_
     exact q1 (er v) v _ G (by simp [J]) rfl (.mkH s w) (X.retouch hp D x U) r'
    |none=>
     exact aan hh z B J λw x=>q2 _ (by simp [J]) (.mkH s w) (X.lose hp D x)
   ·exact nN h
  ·exact nN h
 |rng lo Y=>
  obtain⟨rfl,aa⟩:=M;have h:=eQ h;subst h;by_cases g:lo+(i:Int)<Y
  ·refine wpAny_pyNext_range_item O (N1 g) λw b x=>?_
   refine(eX g▸q1) _ _ _ _ rfl rfl (.mk' s w _) (X.retouch hp D x b) ⟨?_,by exact MJ g⟩;have e2:((Y-lo).toNat:Int)-i-1=((Y-lo).toNat:Int)-((i+1:Nat):Int):=by push_cast;exact PZ
   have e1:lo+(i:Int)+1=lo+((i+1:Nat):Int):=by push_cast;exact Mj
   rw [e1,e2]
  ·exact wpAny_pyNext_range_end hh O (O8 g) λw x=>(if_neg g▸q2) _ rfl (.mkH s w) (X.lose hp D x)
 |set ys=>exact M.elim
def cj{b:H}{h:UT}(X:I c pr b h){a:iS}(g:pr a=none):c.K.lookup a=none:=by
 generalize w:c.K.lookup a=j;induction j with
 |none=>rfl
 |some k=>have:=X.kin a k w;have this:=g▸this;exact nN this
set_option tactic.hygienic true in
def ze{k:wR}{p:H}{s:bS}{v:Value}{Q:Value->bS->Prop}{E:Value->bS->Prop}(X:I c pr p s.heap)(h:sq (er v) p=some k)
  (q:∀(j:iS) (r:bS) (o:Obj),pr j=none->c.K.lookup j=none->aU s r->I c (pr.set j o) p r.heap->nv k 0 o->Q (.ref j) r):tL (pR c.prog c.w) A (W7 v) Q E s:=by
 have m:=X.prFresh (oP s.heap.objs.size)
 revert q
 refine UF h (λa O x q=>?_) λa lo U x q=>?_
 ··
   refine bW (X.list x) λy n z b=>?_
   subst b;exact aa7 z.isList (q _ _ {cls:=.type "list_iterator",data:=.fields #[.ref a,.int 0 0]} m (cj X m) (.mkH s _) (X.add (λJ J e=>sT _ e) (oP _) (GD _ rfl)) ⟨rfl,rfl⟩)
 ··
   refine nj (X.rng x) λg B C D G=>?_
   refine cS g λt u w M=>?_
   refine wpAny_pyIter_range M (oO B C D G) ?_;refine q _ _ _ m (cj X m) (.mkH s _) (X.add (λJ J e=>sT _ e) (oP _) (GD _ rfl)) ⟨?_,by exact JC⟩;refine kL▸ ?_;simp
end
end
section
noncomputable def pF(led:Bool)(pl:List Nat):SetTable:={mask:=7,place:=pl.toArray,dummies:= #[],finger:=0,led,moves:=0,plain:=true}
noncomputable abbrev cQ(b:Array (Int×Value))(c:Nat)(t:Vc):Obj:={cls:=.type "set",dict:=none,data:=.set b c t,slots:= #[]}
def Sm(n:Int):Prop:=0<=n/\n<64
inductive nV(led:Bool):List Int->Array (Int×Value)->Vc->Prop
 |zero:nV led [] #[] (pF led [])
 |one (j:Nat) (n:Int) (t:Tok):j<8->Sm n->nV led [n] #[(n,.int n t)] (pF led [j])
 |two (i j:Nat) (n m:Int) (t u:Tok):i<j->j<8->Sm n->Sm m->n≠m->nV led [n,m] #[(n,.int n t),(m,.int m u)] (pF led [i,j])
def xW{n:Int}(h:Sm n):∃k:Fin 64,n=((k:Nat):Int):=⟨⟨n.toNat,by have:=h.1;exact MP h.2⟩,by exact PK h.1⟩
def uA{n:Int}(h:Sm n):hashInt n=n:=by
 obtain⟨k,rfl⟩:=xW h;exact(by decide+kernel:∀k:Fin 64,hashInt ((k:Nat):Int)=((k:Nat):Int)) k
def JE{n:Int}(h:Sm n)(led:Bool):∃k,(pF led []).freeSlot n=some (k,false)/\k<8:=by
 refine du (xW h) λk b=>?_
 subst b;have:∀(led:Bool) (k:Fin 64),(match (pF led []).freeSlot ((k:Nat):Int) with|some (x,false)=>decide (x<8)|_=>false)=true:=by decide+kernel
 have:=this led k;split at this
 ·exact⟨_,‹_›,EX this⟩
 ·exact fT this
def QW{n:Int}(h:Sm n)(led:Bool){j:Nat}(g:j<8):∃k,(pF led [j]).freeSlot n=some (k,false)/\k<8/\k≠j:=by
 refine du (xW h) λk c=>?_
 subst c;have:∀(led:Bool) (j:Fin 8) (k:Fin 64),(match (pF led [(j:Nat)]).freeSlot ((k:Nat):Int) with|some (x,false)=>decide (x<8)&&decide (x≠j)|_=>false)=true:=by decide+kernel
 have:=this led ⟨j,g⟩ k;split at this
 ·obtain⟨a,b⟩:=Bool.and_eq_true_iff.mp this;exact⟨_,‹_›,EX a,EX b⟩
 ·exact fT this
def Ub{j k:Nat}(b:j<8)(c:k<8)(g:k≠j)(led:Bool):(pF led [j]).put k=(pF led (if k<j then [k,j] else [j,k]),if k<j then 0 else 1):=by
 exact(by decide+kernel:∀(led:Bool) (j k:Fin 8),k≠j->(pF led [(j:Nat)]).put k=(pF led (if (k:Nat)<j then [(k:Nat),j] else [(j:Nat),k]),if (k:Nat)<j then 0 else 1)) led ⟨j,b⟩ ⟨k,c⟩ λe=>g (congrArg Fin.val e)
def Tb{n:Int}(h:Sm n)(led:Bool)(x:Value):∃k,k<8/\aaS (pF led []) #[] n x=(#[(n,x)],pF led [k],false,false):=by
 refine bp (JE h led) λk e b=>?_
 refine⟨k,b,?_⟩;unfold aaS;rw [e];rfl
def TI{n m:Int}(h:Sm n)(led:Bool){j:Nat}(b:j<8)(x y:Value):∃k,k<8/\k≠j/\aaS (pF led [j]) #[(m,y)] n x=(if k<j then #[(n,x),(m,y)] else #[(m,y),(n,x)],pF led (if k<j then [k,j] else [j,k]),false,false):=by
 refine dQ (QW h led b) λk e c g=>?_
 refine⟨k,c,g,?_⟩;unfold aaS;rw [e];dsimp only;rw [Ub b c g];by_cases p:k<j
 ·simp only [eX p];rfl
 ·simp only [if_neg p];rfl
section
variable{prog:Vd}{w:Va}{A:Bs}{E:Value->bS->Prop}{s:bS}
def nV.elems{led:Bool}{g:List Int}{b:Array (Int×Value)}{t:Vc}(S:nV led g b t):ElemsOf (VI prog w) b.toList/\t.fits b.size=true/\b.size<3/\b.size=g.length/\t.plain=true/\t.tooFull=false:=by
 have one:∀ {n:Int} {t:Tok},Sm n->(∃k,(VI prog w).is k (.int n t)=true/\n=(VI prog w).hash k)/\(Value.int n t).scannable=true:=λ{n t} h=>⟨⟨n,Wb ..,(uA h).symm⟩,rfl⟩
 induction S with
 |zero=>exact⟨λe h=>(nM h),rfl,by decide,rfl,rfl,rfl⟩
 |one j n t p c=>
  refine⟨λe h=>?_,rfl,(by decide:1<3),rfl,rfl,rfl⟩;obtain rfl:=List.mem_singleton.mp h;exact one c
 |two i j n m t u v p c r s=>
  refine⟨λe h=>?_,rfl,(by decide:2<3),rfl,rfl,rfl⟩;rcases List.mem_cons.mp h with rfl|h
  ·exact one c
  ·obtain rfl:=List.mem_singleton.mp h;exact one r
def nV.found{led:Bool}{g:List Int}{p:Array (Int×Value)}{t:Vc}(S:nV led g p t)(n:Int):(n∈g->∃i,p.toList.findIdx? (λe=>(VI prog w).is n e.2)=some i)/\(n∉g->p.toList.findIdx? (λe=>(VI prog w).is n e.2)=none):=by
 have e:∀(m:Int) (t:Tok),(VI prog w).is n (.int m t)=(m==n):=λm t=>by rfl
 induction S with
 |zero=>exact⟨(λh=>nM h),λJ=>rfl⟩
 |one j m t r s=>
  refine⟨λh=>⟨0,?_⟩,λh=>?_⟩
  ·obtain rfl:=List.mem_singleton.mp h;simp [Vs,e]
  ·have:m≠n:=λx=>h (by exact x▸ .head _)
   simp [Vs,e,this]
 |two i j m k t u y r s z v=>
  by_cases b:m=n
  ·refine⟨λh=>⟨0,?_⟩,λh=>absurd (by refine b▸ ?_;exact .head _) h⟩;simp [Vs,e,b]
  ·by_cases c:k=n
   ·refine⟨λh=>⟨1,?_⟩,λh=>absurd (by exact c▸ .tail _ (.head _)) h⟩;simp [Vs,e,b,c]
   ·refine⟨λh=>?_,λh=>?_⟩
    ·rcases List.mem_cons.mp h with rfl|h
     ·exact absurd rfl b
     ·exact absurd (List.mem_singleton.mp h).symm c
    ·simp [Vs,e,b,c]
def nV.lay{led:Bool}{s:List Int}{w:Array (Int×Value)}{t:Vc}(S:nV led s w t){n:Int}{tk:Tok}(b:Sm n)(C:s.length<=1)(c:n∉s):
  ∃g y p,aaS t w n (.int n tk)=(g,y,false,false)/\nV led p g y/\∀z,z∈p↔z∈s\/z=n:=by
 induction S with
 |zero=>
  refine bp (Tb b led (.int n tk)) λk u e=>?_
  exact⟨_,_,[n],e,.one k n tk u b,λz=>by simp⟩
 |one j m t A B=>
  refine dQ (TI b led A (.int n tk) (.int m t) (m:=m)) λk u v e=>?_
  have r:n≠m:=λx=>c (by exact x▸ .head _)
  by_cases h:k<j
  ·simp only [eX h] at e;exact⟨_,_,[n,m],e,.two k j n m tk t h A b B r,λz=>by simp [or_comm]⟩
  ·simp only [if_neg h] at e;exact⟨_,_,[m,n],e,.two j k m n t tk (Ny h v) u B b (NS r),λz=>by simp⟩
 |two=>exact absurd C (by decide:¬2<=1)
def Ig{a:iS}{led:Bool}{j:List Int}{k:Array (Int×Value)}{t:Vc}{B:Nat}{n:Int}{tk:Tok}{Q:Bool->bS->Prop}(S:nV led j k t)(p:s.heap.get? a=some (cQ k B t))(U:Sm n)(C:n∈j\/j.length<=1)
  (h:∀b h' g c D m,OR a s.heap h'->h'.get? a=some (cQ c D m)->nV led g c m->(∀z,z∈g↔z∈j\/z=n)->Q b {s with heap:=h'}):
  tL (pR prog w) A (setAddHashed a (.int n tk) n) Q E s:=by
 refine wP (S.elems (prog:=prog) (w:=w)) λr Y hz aa hp ht=>?_
 have hb:k.size<scanBound:=Ww hz (by decide);have u:(VI prog w).is n (.int n tk)=true:=Wb ..;refine LO (aS (WZ p rfl Y ?_));dsimp -zeta only;rw [byScan_of rfl hb r];refine aS (aS (Vj ?_));rw [show setScan a (.int n tk) n true k=setScan a (.int n tk) ((VI prog w).hash n) true k from by rw [show(VI prog w).hash n=n from uA U]];refine aS (wpAny_setScan_of u p rfl Y r ?_);by_cases v:n∈j
 ·refine du ((S.found (prog:=prog) (w:=w) n).1 v) λi e=>?_
  exact e▸fS (fS (h _ s.heap j k B t (.refl a s.heap) p S λz=>⟨.inl,λx=>x.elim id λx=>x▸v⟩))
 ·rw [(S.found (prog:=prog) (w:=w) n).2 v];refine uh (S.lay (tk:=tk) U (C.resolve_left v) v) λc m g e S' G=>?_
  refine e▸ ?_;refine wP (S'.elems (prog:=prog) (w:=w)) λab ac y J M O=>?_
  refine aS (fS ?_);refine yg M ?_;refine aS (fS ?_);simp only [plainKind,↓reduceIte];refine aS (wpAny_storeSet_of p rfl ?_ (fits_of_scanBound (Ww y (by decide))));rw [O];refine fS (fS (h _ _ g c (B+1) m (Ts ..) ?_ S' G));have:=UW (Obj.putSet c m) p (by rfl);rw [putSet_of c m rfl] at this;exact this
end
end
section
section
variable{prog:Vd}{w:Va}{A:Bs}{E:Value->bS->Prop}{s:bS}
def nV.full{led:Bool}{c:List Int}{k:Array (Int×Value)}{t:Vc}(S:nV led c k t){a b n:Int}(h:∀z∈c,z=a\/z=b)(m:n=a\/n=b):n∈c\/c.length<=1:=by
 induction S with
 |zero=>exact .inr (Tl _)
 |one=>exact .inr (oP _)
 |two i j x y t u p r s v g=>
  refine .inl ?_;by_cases e:n=x
  ·rw [e];exact .head _
  ·rw [show n=y from by exact Kt m (h y (.tail _ (.head _))) (h x (.head _)) e g];exact .tail _ (.head _)
def Hn{R:V1->bS->Prop}{S J l:iS}{led:Bool}{items:Array Value}{a b:Int}(hh:A.handled=none)(y:S≠J)(aa:l≠S)(ab:l≠J)
  (hv:∀(i:Nat) (v:Value),items[i]? =some v->∃n t,v=Value.int n t/\Sm n/\(n=a\/n=b)):
  ∀(k i:Nat) (s:bS) (c:List Int) (g:Array (Int×Value)) (t:Vc) (u:Nat),items.size-i=k->s.heap.IsList l items->s.heap.IsListIter J l i->s.heap.get? S=some (cQ g u t)->nV led c g t->
   (∀z,z∈c↔∃(j:Nat) (tk:Tok),j<i/\items[j]? =some (Value.int z tk))->
   (∀h' tk c g t u,h'.get? S=some (cQ g u t)->nV led c g t->(∀z,z∈c↔∃(j:Nat) (tk:Tok),items[j]? =some (Value.int z tk))->(∀b o,b≠S->b≠J->s.heap.get? b=some o->h'.get? b=some o)->R (.ok (.ret .none)) {s with heap:=h',toks:=tk})->
   aa0 (pR prog w) A (.builtin "set.update.loop" ⟨[.ref S,.ref J],[]⟩) R s:=by
 intro k;induction k with
 |zero=>
  intro i s c g t u C Y B hS p hz fin;refine V8 WG ?_;refine Vi Vx _▸ ?_;refine aS (aan (by exact hh) B Y (WR (MO C)) λh' hx=>?_);refine fS (fin h' s.toks c g t u (hx _ _ y hS) p (λz=>(hz z).trans ⟨λac=>by refine bW ac λj tk _ h=>?_;exact⟨j,tk,h⟩,λ⟨j,tk,h⟩=>⟨j,tk,?_,h⟩⟩) λb o K r h=>hx _ _ r h);exact Mm ((Array.getElem?_eq_some_iff.mp h).1) C
 |succ k ih=>
  intro i s c g t u C Y B hS p hz fin;have hi:i<items.size:=by exact Gu C
  refine lC (hv i items[i] (Hd hi)) λn tk hn D ae=>?_
  refine V8 WG ?_;refine Vi Vx _▸ ?_;refine aS (aaf B Y (Hd hi) λG M O=>?_);refine hn▸ ?_;refine aS (LO ?_);refine LO (aS ((VI prog w).pyHash (k:=n) (Wb _ _ _ _) ?_));rw [show(VI prog w).hash n=n from uA D];refine Ig (s:={s with heap:=G,toks:=s.toks+1}) p ((O.2 S y).trans hS) D (p.full (a:=a) (b:=b) (λz h=>?_) ae) λK r af ag ah t' Q ai U aj=>?_
  ·refine bW ((hz z).mp h) λj tj K hj=>?_
   refine lC (hv j _ hj) λm tm e K hm=>?_
   cases e;exact hm
  ·have x:∀b o,b≠S->b≠J->s.heap.get? b=some o->r.get? b=some o:=λb o b1 b2 h=>(Q.2 b b1).trans ((O.2 b b2).trans h)
   obtain⟨ol,ak,cl,nl,dl⟩:=Y;refine bp M λoi al ri=>?_
   refine fS ⟨V6 Vx _,ih (i+1) _ af ag t' ah (Gk C) ⟨ol,x _ _ aa ab ak,cl,nl,dl⟩ ⟨oi,(Q.2 J (NS y)).trans al,ri⟩ ai U (λz=>?_) λh' am c g t u a1 a2 a3 a4=>fin h' am c g t u a1 a2 a3 λb o b1 b2 h=>a4 b o b1 b2 (x b o b1 b2 h)⟩;rw [aj,hz];constructor
   ·rintro (⟨j,tj,G,r⟩|rfl)
    ·exact⟨j,tj,Nat.lt_succ_of_lt G,r⟩
    ·exact⟨i,tk,Wj _,by rw [Hd hi,hn]⟩
   ·rintro ⟨j,tj,G,r⟩;by_cases e:j=i
    ·subst e;rw [Hd hi,hn] at r;cases r;exact .inr rfl
    ·exact .inl ⟨j,tj,by exact Kk G e,r⟩
end
end
section
section
variable{prog:Vd}{w:Va}{A:Bs}{E:Value->bS->Prop}{s:bS}
noncomputable def dg(w:Va):Bool:= !w.params.followText "set-order"
def C0(l:Value){Q:Value->bS->Prop}(h:Q (.ref s.heap.objs.size) {s with heap:=s.heap.push (cQ #[] 0 (pF (dg w) []))}):
  aa0 (pR prog w) A (.call (.builtin "set.__new__") ⟨[.type "set",l],[]⟩) (wants Q E) s:=by
 refine YN ?_;refine aS (AS (PySem.F.newCall_set_1 l) (fS ⟨V6 F.plain_set_new _,V8 F.entry_set_new ?_⟩));have b:=sub_set_self;obtain⟨hp,g,d,c,os⟩:=s;wp_walk;refine Vh (fS ?_);refine aS (wpAny_alloc (fS ?_));exact fS h
def C8{S l:iS}{items:Array Value}{a b:Int}{Q:Fin->bS->Prop}(U:A.handled=none)(u:s.heap.get? S=some (cQ #[] 0 (pF (dg w) [])))(G:s.heap.IsList l items)(x:l≠S)
  (Y:∀(i:Nat) (v:Value),items[i]? =some v->∃n t,v=Value.int n t/\Sm n/\(n=a\/n=b))
  (h:∀h' tk m p t y,h'.get? S=some (cQ p y t)->nV (dg w) m p t->(∀z,z∈m↔∃(j:Nat) (tk:Tok),items[j]? =some (Value.int z tk))->(∀b o,b≠S->s.heap.get? b=some o->h'.get? b=some o)->
   Q (.done (.ret .none)) {s with heap:=h',toks:=tk}):tL (pR prog w) A (Builtin.«set.__init__» ⟨[.ref S,.ref l],[]⟩) Q E s:=by
 have hT:s.TypeIs (.ref S) "set" :=⟨_,u,rfl⟩
 obtain⟨ol,c,g,nl,k⟩:=id G;obtain⟨J,B,C,r⟩:=ol;simp only at g k;subst g;subst k;have M:=F.sub_list_set;have O:=F.sub_list_frozenset;have aa:(Value.type "list" ==Value.type "dict")=false:=by decide
 unfold Builtin.«set.__init__» noKeywords aas;generalize D:W7=PI;wp_walk;subst D;refine aa7 G ?_;refine aS (wpAny_runValue ?_);have lt:=Nm u;refine Hn (a:=a) (b:=b) (led:=dg w) (items:=items) (l:=l) (by simp [U]) (TS lt) x (TS (Nm c)) Y (items.size-0) 0 _ [] #[] _ 0 rfl
  ⟨_,sT _ c,rfl,nl,rfl⟩ ⟨_,GD _ rfl,rfl,rfl⟩ (sT _ u) .zero (λz=>⟨(λh=>nM h),λ⟨j,tk,h,_⟩=>nL h⟩) λh' tk m p t y f1 f2 f3 f4=>?_
 show tL _ _ _ _ _ _;refine fS ?_;show tL _ _ (ret Value.none) _ _ _;exact fS (h h' tk m p t y f1 f2 f3 λb o e1 e=>f4 b o e1 (TS (Nm e)) (sT _ e))
def AC{l:iS}{items:Array Value}{a b:Int}{Q:Value->bS->Prop}(B:A.handled=none)(y:s.heap.IsList l items)
  (C:∀(i:Nat) (v:Value),items[i]? =some v->∃n t,v=Value.int n t/\Sm n/\(n=a\/n=b))
  (h:∀h' tk k m t p,h'.get? s.heap.objs.size=some (cQ m p t)->nV (dg w) k m t->(∀z,z∈k↔∃(j:Nat) (tk:Tok),items[j]? =some (Value.int z tk))->(∀b o,s.heap.get? b=some o->h'.get? b=some o)->
   Q (.ref s.heap.objs.size) {s with heap:=h',toks:=tk}):
  bD (pR prog w) A (call (.type "set") [.ref l]) Q E s:=by
 refine lb F.called_set (by decide+kernel) (F.typeCall_set_1 _) F.entry_set_init (C0 (.ref l) (Q:=λg c=>g=.ref s.heap.objs.size/\c={s with heap:=s.heap.push (cQ #[] 0 (pF (dg w) []))}) ⟨rfl,rfl⟩) λg c z=>?_
 obtain⟨rfl,rfl⟩:=z;have u:(s.heap.push (cQ #[] 0 (pF (dg w) []))).get? s.heap.objs.size=some (cQ #[] 0 (pF (dg w) [])):=GD _ rfl;refine⟨⟨_,u,rfl⟩,λq=>check_set_init_1 ⟨_,u,rfl⟩ q,.of (C8 (a:=a) (b:=b) (items:=items) B u ?_ ?_ C λh' tk k m t p D G J M=>⟨rfl,h h' tk k m t p D G J λb o e=>M b o (TS (Nm e)) (sT _ e)⟩)⟩
 ·refine bp y λo x r=>?_
  exact⟨o,sT _ x,r⟩
 ·refine bp y λo x r=>?_
  exact TS (Nm x)
end
end
section
namespace F
def slot_setit_next:Slot "set_iterator" "__next__" "set_iterator.__next__" :=
 .of (owner:= "set_iterator") (n:= "__next__") (by kernel_rfl) (by decide+kernel) (by decide+kernel) (by decide+kernel)
  (by first|exact .inl (by decide+kernel)|exact .inr (by decide+kernel)) (by kernel_rfl)
def slot_setit_iter:Slot "set_iterator" "__iter__" "set_iterator.__iter__" :=
 .of (owner:= "set_iterator") (n:= "__iter__") (by kernel_rfl) (by decide+kernel) (by decide+kernel) (by decide+kernel)
  (by first|exact .inl (by decide+kernel)|exact .inr (by decide+kernel)) (by kernel_rfl)
def entry_setit_next:Vn table "set_iterator.__next__" =some Builtin.«set_iterator.__next__» :=VW (by kernel_rfl)
def entry_set_iter:Vn table "set.__iter__" =some Builtin.«frozenset.__iter__» :=
 Y2 (id':= "frozenset.__iter__") (by kernel_rfl) rfl (by decide+kernel) (by kernel_rfl)
def entry_setit_iter:Vn table "set_iterator.__iter__" =some Builtin.«dict_keyiterator.__iter__» :=
 Y2 (id':= "dict_keyiterator.__iter__") (by kernel_rfl) rfl (by decide+kernel) (by kernel_rfl)
def args_setit_next(a:Value):Xu "set_iterator.__next__" ⟨[a],[]⟩:=by kernel_rfl
def args_setit_iter(a:Value):Xu "set_iterator.__iter__" ⟨[a],[]⟩:=by kernel_rfl
end F
section
variable{prog:Vd}{w:Va}{A:Bs}{E:Value->bS->Prop}{s:bS}
noncomputable abbrev wN(b i:Nat)(S:iS)(n c:Nat):Obj:={cls:=.type "set_iterator",dict:=none,data:=.fields #[Xw b,Xw i,.ref S,Xw n,Xw c],slots:= #[]}
def EH{S:iS}{r:List Int}{b:Array (Int×Value)}{t:Vc}{j:Nat}{Q:Value->bS->Prop}(c:s.heap.get? S=some (cQ b j t))(u:nV (dg w) r b t)
  (q:Q (.ref s.heap.objs.size) {s with heap:=s.heap.push (wN 0 0 S b.size j)}):tL (pR prog w) A (W7 (.ref S)) Q E s:=by
 refine wP (u.elems (prog:=prog) (w:=w)) λv g x k hp y=>?_
 have m:s.TypeIs (.ref S) "set" :=⟨_,c,rfl⟩
 refine Ym m YJ (UY YJ m F.entry_set_iter ?_ (PySem.F.args_set_iter_1 _));show tL _ _ (aat S>>=_) _ _ s;refine aS (aS (XK c rfl g (fS ?_)));refine aS (aS (WZ c rfl g ?_));refine aS (aS (Vh (fS ?_)));refine aS (fS ?_);refine fS ?_
 rw [if_neg (λh=>by
  have p:(!t.plain&&decide (b.size>1))=true:=(Bool.and_eq_true_iff.mp h).2;rw [hp] at p
  exact fT p)]
 refine aS (fS ?_);refine aS (wpAny_setEpoch_of c rfl g ?_);exact aS (VJ (fS ⟨_,rfl, "set_iterator",_,⟨_,GD _ rfl,rfl⟩,F.slot_setit_next.lookup,q⟩))
def xA{c S:iS}{b i n j:Nat}(k:s.heap.get? c=some (wN b i S n j)):tL (pR prog w) A (W7 (.ref c)) (λg m=>g=.ref c/\m=s) E s:=by
 have h:s.TypeIs (.ref c) "set_iterator" :=⟨_,k,rfl⟩
 refine Ym h F.slot_setit_iter (UY F.slot_setit_iter h F.entry_setit_iter ?_ (F.args_setit_iter _));exact fS ⟨_,rfl, "set_iterator",_,h,F.slot_setit_next.lookup,rfl,rfl⟩
end
end
section
section
variable{prog:Vd}{w:Va}{A:Bs}{E:Value->bS->Prop}{s:bS}
noncomputable def Dv(w:Va)(S c:Nat)(b:Array (Int×Value)):Array (Int×Value):=if w.params.followText "set-order" then Yw (w.params.setOrder S c) b else b
noncomputable def Iw(t:Vc):Nat->Nat
 |0=>0
 |i+1=>t.place.getD i 0+1
noncomputable def zS(w:Va)(t:Vc)(i:Nat):Nat:=if w.params.followText "set-order" then 0 else Iw t i
def Bz{led:Bool}{k:List Int}{g:Array (Int×Value)}{t:Vc}(p:nV led k g t){i:Nat}(c:i<=g.size):XR t.place (Iw t i)=i:=by
 induction p with
 |zero=>obtain rfl:i=0:=Nat.le_zero.mp c;rfl
 |one j n u b r=>
  have:∀(j:Fin 8) (i:Fin 2),XR (pF led [(j:Nat)]).place (Iw (pF led [(j:Nat)]) i)=i:=by induction led<;>decide+kernel
  exact this ⟨j,b⟩ ⟨i,aao c⟩
 |two a j n m u v h b r w s=>
  have:∀(a j:Fin 8) (i:Fin 3),(a:Nat)<j->XR (pF led [(a:Nat),j]).place (Iw (pF led [(a:Nat),j]) i)=i:=by induction led<;>decide+kernel
  exact this ⟨a,Ww h b⟩ ⟨j,b⟩ ⟨i,aao c⟩ h
def Dn{led:Bool}{g:List Int}{c:Array (Int×Value)}{t:Vc}(j:nV led g c t){i:Nat}(b:i<c.size):t.place[i]? =some (t.place.getD i 0):=by
 have h:t.place.size=c.size:=by induction j<;>rfl
 have b:=h▸b;rw [Hd b,Array.getD_eq_getD_getElem?,Hd b];rfl
def HT{led:Bool}{b:List Int}{c:Array (Int×Value)}{t:Vc}(g:nV led b c t):t.led=led:=by induction g<;>rfl
def qa{S:iS}{u:List Int}{b:Array (Int×Value)}{t:Vc}{g i:Nat}{Q:Option (Value×Nat)->bS->Prop}(m:s.heap.get? S=some (cQ b g t))(j:nV (dg w) u b t)(v:i<=b.size)
  (q:Q (((Dv w S g b)[i]?).map λe=>(e.2,zS w t (i+1))) s):tL (pR prog w) A (setNext S (zS w t i) i g) Q E s:=by
 refine wP (j.elems (prog:=prog) (w:=w)) λx p y r hp z=>?_
 refine aS (WZ m rfl p ?_);dsimp only;refine aS (aS (Vh (fS ?_)));by_cases c:w.params.followText "set-order" =true
 ·rw [show zS w t (i+1)=0 from eX c,show Dv w S g b=Yw (w.params.setOrder S g) b from eX c] at q;rw [show zS w t i=0 from eX c];refine(?_:tL (pR prog w) A (if w.params.followText "set-order" =true then _ else _) Q E s);rw [eX c,if_neg (by simp)];refine aS (aS (WZ m rfl p ?_));refine aS (aS (Vh (fS ?_)));refine(?_);refine yg c ?_;refine aS (Vh (fS ?_));exact fS q
 ·rw [show zS w t (i+1)=Iw t (i+1) from if_neg c,show Dv w S g b=b from if_neg c] at q;rw [show zS w t i=Iw t i from if_neg c];refine(?_:tL (pR prog w) A (if w.params.followText "set-order" =true then _ else _) Q E s)
  rw [if_neg c,if_neg (λh=>by
   have k:(!t.plain&&decide (b.size>1))=true:=h;have k:=hp▸k
   exact fT k)]
  refine aS ?_;refine(?_);refine cX (by rw [((HT j).trans (by unfold dg;rw [Bool.eq_false_iff.mpr c];rfl):t.led=true)];simp) ?_;refine fS ?_;rw [Bz j v];by_cases h:i<b.size
  ·rw [Hd h,Dn j h];rw [Hd h] at q;exact fS q
  ·rw [WR (by exact Em h)] at q⊢;exact fS q
end
end
section
section
variable{prog:Vd}{w:Va}{A:Bs}{E:Value->bS->Prop}{s:bS}
def O9{b:Type}(f:Nat->Nat)(x y:b):Yw f #[x,y]= #[x,y]\/Yw f #[x,y]= #[y,x]:=by
 show Vo f 2 0 [x,y] #[]=_\/Vo f 2 0 [x,y] #[]=_;unfold Vo;rcases Nat.mod_two_eq_zero_or_one (f 0) with h|h
 ·left;rw [show f 0% [x,y].length=0 from h];show Vo f 1 1 [y] #[x]=_;unfold Vo;rw [show f 1% [y].length=0 from Zn _];rfl
 ·right;rw [show f 0% [x,y].length=1 from h];show Vo f 1 1 [x] #[y]=_;unfold Vo;rw [show f 1% [x].length=0 from Zn _];rfl
def Pm{b:Type}(f:Nat->Nat)(x:b):Yw f #[x]= #[x]:=by
 show Vo f 1 0 [x] #[]=_;unfold Vo;rw [show f 0% [x].length=0 from Zn _];rfl
def CY{led:Bool}{p:List Int}{c:Array (Int×Value)}{t:Vc}(r:nV led p c t)(S g:Nat):(Dv w S g c).size=c.size/\∃ys:List Int,(Dv w S g c).toList.map (λe=>er e.2)=ys.map V.int/\ys.Nodup/\∀z,z∈ys↔z∈p:=by
 unfold Dv;split
 ·induction r with
  |zero=>exact⟨rfl,[],rfl,.nil,λJ=>.rfl⟩
  |one j n u h k=>rw [Pm];exact⟨rfl,[n],rfl,by simp,λJ=>.rfl⟩
  |two a j n m u v s h k x b=>
   rcases O9 (w.params.setOrder S g) (n,Value.int n u) (m,Value.int m v) with e|e
   ·rw [e];exact⟨rfl,[n,m],rfl,by simp [b],λJ=>.rfl⟩
   ·rw [e];exact⟨rfl,[m,n],rfl,by simp [NS b],λz=>by simp [or_comm]⟩
 ·induction r with
  |zero=>exact⟨rfl,[],rfl,.nil,λJ=>.rfl⟩
  |one j n u h k=>exact⟨rfl,[n],rfl,by simp,λJ=>.rfl⟩
  |two a j n m u v s h k x b=>exact⟨rfl,[n,m],rfl,by simp [b],λJ=>.rfl⟩
def ym{h:UT}{b:iS}{vs:Array Value}{k:Nat}{x:Value}(c:h.get? b=some {cls:=.type "set_iterator",dict:=none,data:=.fields vs,slots:= #[]}):
  (h.update b (Obj.mapFields (·.setIfInBounds k x))).get? b=some {cls:=.type "set_iterator",dict:=none,data:=.fields (vs.setIfInBounds k x),slots:= #[]}:=UW _ c rfl
def yb{c S:iS}{u:List Int}{h:Array (Int×Value)}{t:Vc}{g i:Nat}{e:Int×Value}{Q:Option Value->bS->Prop}(b:s.heap.get? c=some (wN (zS w t i) i S h.size g))(k:s.heap.get? S=some (cQ h g t))(j:nV (dg w) u h t)
  (m:(Dv w S g h)[i]? =some e) (v:∀h',h'.get? c=some (wN (zS w t (i+1)) (i+1) S h.size g)->OR c s.heap h'->Q (some e.2) {s with heap:=h'}):tL (pR prog w) A (Y9 (.ref c)) Q E s:=by
 refine wP (j.elems (prog:=prog) (w:=w)) λx y B p hp C=>?_
 have z:=by
  have:=(Array.getElem?_eq_some_iff.mp m).1;rw [(CY (w:=w) j S g).1] at this;exact JQ this
 have r:s.TypeIs (.ref c) "set_iterator" :=⟨_,b,rfl⟩
 refine aS (XO (wpAny_callSpecial?_slot (name:=Str.ofString "__next__") r F.slot_setit_next (UY F.slot_setit_next r F.entry_setit_next ?_ (F.args_setit_next _))));refine(aS (abS b rfl ?_):tL _ _ (fieldsOf (.ref c)>>=_) _ _ s);refine(aS (XK k rfl y ?_):tL _ _ (setEntries S>>=_) _ _ s);refine cX (by simp) ?_;refine(aS (qa k j z ?_):tL _ _ (setNext S (zS w t i) i g>>=_) _ _ s);refine m▸ ?_;refine aS (Za b rfl (by decide:0<5) ?_);refine aS (Za (ym b) rfl (by decide:1<5) (fS ⟨e.2,rfl,fS (v _ (ym (ym b)) ((Ts ..).trans (Ts ..)))⟩))
def zv{g S:iS}{v:List Int}{h:Array (Int×Value)}{t:Vc}{j i:Nat}{Q:Option Value->bS->Prop}(x:A.handled=none)(c:s.heap.get? g=some (wN (zS w t i) i S h.size j))(k:s.heap.get? S=some (cQ h j t))(p:nV (dg w) v h t)
  (y:i<=h.size) (z:(Dv w S j h)[i]? =none) (B:∀h',abq g s.heap h'->Q none {s with heap:=h'}):tL (pR prog w) A (Y9 (.ref g)) Q E s:=by
 refine wP (p.elems (prog:=prog) (w:=w)) λC D G r hp J=>?_
 have u:s.TypeIs (.ref g) "set_iterator" :=⟨_,c,rfl⟩
 refine aS (XO (wpAny_callSpecial?_slot (name:=Str.ofString "__next__") u F.slot_setit_next (UY F.slot_setit_next u F.entry_setit_next ?_ (F.args_setit_next _))));refine(aS (abS c rfl ?_):tL _ _ (fieldsOf (.ref g)>>=_) _ _ s);refine(aS (XK k rfl D ?_):tL _ _ (setEntries S>>=_) _ _ s);refine cX (by simp) ?_;refine(aS (qa k p y ?_):tL _ _ (setNext S (zS w t i) i j>>=_) _ _ s);refine z▸ ?_;refine aS (Za c rfl (by decide:2<5) ?_);refine aS ?_;refine aS (VJ ?_ (by size_fits));refine aS (m:=abT _ _) (AS (a:=Value.none) (by first|rfl|(simp only [abT];rfl)) ?_);refine VJ ?_ (by size_fits);refine aS (wpAny_handled ?_);rw [show A.in1.handled=none from x];refine aS (fS (wpAny_throw ?_));refine aS (U0 (T:= "StopIteration") (b:=true) ⟨_,GD _ rfl,rfl⟩ isSubtype_stop ?_);exact fS (B _ (((Ts ..).extBut.push _).push _))
end
end
section
def Wr(env:Env)(vs:List (Option Str))(c:List Nat)(b:iS):Prop:=∃i x,i∈c/\vs[i]? =some (some x)/\((env.kindOf x=some .local/\b=env.locals)\/(env.kindOf x=some .cell/\env.cells.lookup x=some b))
def Wr.fa{env:Env}{vs:List (Option Str)}{g:List Nat}{b:iS}(h:Wr env vs g b):Fa env b:=by
 refine lC h λ_ x _ _ c=>?_;obtain h|h:=c
 ·exact .inl h.2
 ·exact .inr ⟨x,h.2⟩
section
variable{c:bo}{A:Bs}{pr:PH}{env:Env}{vs:List (Option Str)}{m:Fs}
set_option tactic.hygienic true in
def Bw(T:Top env){x:Str}(h:stN env.scope x=true):∃b,(env.kindOf x=some .local/\b=env.locals)\/(env.kindOf x=some .cell/\env.cells.lookup x=some b):=by
 unfold stN at h;split at h
 ·rename_i e;exact⟨_,.inl ⟨e,rfl⟩⟩
 ·rename_i e;obtain⟨a,c⟩:=T.cl x e;exact⟨a,.inr ⟨e,c⟩⟩
 ·exact fT h
def js(T:Top env)(F:fg c env vs pr m){i:Nat}{x:Str}{pos:Pos}{k:Value}{p:H}{s:bS}{Q:Unit->bS->Prop}{E:Value->bS->Prop}(r:vs[i]? =some (some x))(v:stN env.scope x=true)(X:I c pr p s.heap)
  (h:∀j g,aU s j->I c g p j.heap->fg c env vs g (bB m i (er k))->(∀b,¬Wr env vs [i] b->g b=pr b)->Q () j):
  tL (pR c.prog c.w) A (Xm (.Name x pos) env k) Q E s:=by
 refine du (Bw T v) λC u=>?_
 refine wpAny_assign_Name (sr F r u X λj g e w y hp=>h j g e w y λb B=>hp b λz=>B ⟨i,x,List.mem_singleton.mpr rfl,r,?_⟩);subst z;exact u
def nx{c:OS}{i:Nat}{e:iD}(h:NP c vs i e=true):∃x p,e=.Name x p/\vs[i]? =some (some x)/\stN c x=true:=by
 refine eT (jC (eq_of_beq (bl (bl h)))) λx p b=>?_
 subst b;exact⟨x,p,rfl,eq_of_beq (br (bl h)),br h⟩
def i9{b:OS}{i:Nat}{g:List Nat}{c:List iD}(h:yR b vs (i::g) c=true):∃x p r,c=.Name x p::r/\vs[i]? =some (some x)/\stN b x=true/\yR b vs g r=true:=by
 unfold yR at h;induction c with
 |nil=>exact fT h
 |cons e r=>
  simp only [UQ] at h;refine lC (nx h.1.2) λx p j e2 k=>?_
  subst j;exact⟨x,p,r,rfl,e2,k,h.2⟩
def pY{c:OS}{b:List iD}(h:yR c vs [] b=true):b= []:=by
 delta yR at h;simpa using h
def wZ(T:Top env){σ:H}{E:Value->bS->Prop}(u:List Nat):∀(w:List iD) (items:List Value) (pr:PH) (m:Fs) (s:bS) (Q:Unit->bS->Prop),fg c env vs pr m->yR env.scope vs u w=true->items.length=u.length->
  I c pr σ s.heap->(∀C k,aU s C->I c k σ C.heap->fg c env vs k ((u.zip (items.map er)).foldl (λm p=>bB m p.1 p.2) m)->(∀b,¬Wr env vs u b->k b=pr b)->Q () C)->
  tL (pR c.prog c.w) A (assignInOrder ((Vk w env).map (·.2)) items) Q E s:=by
 induction u with
 |nil=>
  intro w items pr m s Q F D B X h;have:=pY D;subst this;have:items= []:=by simpa using B
  subst this;exact fS (h s pr (.refl s) X F λJ J=>rfl)
 |cons i u ih=>
  intro w items pr m s Q F D B X h;refine qo (i9 D) λx p r g h1 h2 h3=>?_
  subst g;induction items with
  |nil=>simp at B
  |cons v items=>
   refine aS (LO (js T F h1 h2 X λs1 G e1 X1 F1 M=>?_));refine ih r items G _ s1 Q F1 h3 (by exact Vf B) X1 λs2 O e2 X2 F2 U=>h s2 O (e1.trans e2) X2 F2 λb hb=>?_
   rw [U b λz=>hb ?_,M b λz=>hb ?_]
   ·obtain⟨j,y,Y,r⟩:=z;exact⟨j,y,List.mem_cons.mpr (.inl (List.mem_singleton.mp Y)),r⟩
   ·obtain⟨j,y,Y,r⟩:=z;exact⟨j,y,List.mem_cons.mpr (.inr Y),r⟩
theorem si:∀ {g:List Nat} {c:List iD},yR env.scope vs g c=true->(Vk c env).length=g.length/\(Vk c env).findIdx? (·.1)=none
 | [],c,h=>by exact pY h▸⟨rfl,rfl⟩
 |i::g,c,h=>by
  refine qo (i9 h) λx p r b J J j=>?_
  subst b;obtain⟨k,m⟩:=si j;have e:Vk (.Name x p::r) env=(false,Xm (.Name x p) env)::Vk r env:=rfl;rw [e];refine⟨by simp [k],?_⟩;refine(Vs).trans ?_;simp [m]
set_option tactic.hygienic true in
def Te{b:Type}{o:Option AO}{f:List V->Option b}{y:b}{C:Prop}(q:(match o with|some (.tuple c)=>f c|_=>none)=some y)(k:∀c,o=some (.tuple c)->f c=some y->C):C:=by
 induction o with
 |none=>exact nN q
 |some o=>induction o<;>first|exact k _ rfl q|exact nN q
def tg{c:H}{b:List Nat}{u:V}{m g:Fs}(h:(match u with| .ref a=>(match c a with|some (.tuple xs)=>if xs.length=b.length then some ((b.zip xs).foldl (λm p=>bB m p.1 p.2) m) else none|_=>none)|_=>none)=some g):∃a xs,u=.ref a/\c a=some (.tuple xs)/\xs.length=b.length/\g=(b.zip xs).foldl (λm p=>bB m p.1 p.2) m:=
 Ij h λa e h=>Te h λxs j h=>ifO h λk h=>⟨a,xs,e,j,k,(eQ h).symm⟩
def iz{g:H}{b:List Nat}{u:V}{m c:Fs}(h:c9 g b u m=some c):(∃i,b= [i]/\c=bB m i u)\/
  ∃a xs,u=.ref a/\g a=some (.tuple xs)/\xs.length=b.length/\c=(b.zip xs).foldl (λm p=>bB m p.1 p.2) m:=by
 match b,h with
 | [i],h=>exact .inl ⟨i,rfl,(eQ h).symm⟩
 | [],h=>exact .inr (tg h)
 |_::_::_,h=>exact .inr (tg h)
def u8{m:OS}{g:List Nat}{b:iD}(h:mB m vs g b=true):(∃i,g= [i]/\NP m vs i b=true)\/(2<=g.length/\∃j k p,b=.Tuple j k p/\yR m vs g j=true):=by
 unfold mB at h;simp only [Wl,UQ,Ze,Zo] at h;rcases h with⟨r,s⟩|⟨⟨r,s⟩,u⟩
 ·obtain⟨i,rfl⟩:=eD r;exact .inl ⟨i,rfl,s⟩
 ·refine cS (ek s) λj k p c=>?_
  subst c;exact .inr ⟨r,j,k,p,rfl,u⟩
def ut(O:A.handled=none)(T:Top env)(F:fg c env vs pr m){x:List Nat}{v:iD}{D:Fs}{G:Value}{B:H}{s:bS}{Q:Unit->bS->Prop}{E:Value->bS->Prop}(U:mB env.scope vs x v=true)
  (z:c9 B x (er G) m=some D) (X:I c pr B s.heap)
  (h:∀w g,aU s w->I c g B w.heap->fg c env vs g D->(∀b,¬Wr env vs x b->g b=pr b)->Q () w):tL (pR c.prog c.w) A (Xm v env G) Q E s:=by
 rcases u8 U with⟨i,rfl,C⟩|⟨C,Y,k,p,rfl,J⟩
 ·refine lC (nx C) λy p u e1 e2=>?_
  subst u;have z:=eQ z;subst z;exact js T F e1 e2 X h
 ·rcases iz z with⟨i,rfl,_⟩|⟨a,xs,ha,hx,M,rfl⟩
  ·simp at C
  ·have:=bK ha;subst this;refine bW (X.tuple hx) λj n ht r=>?_
   subst r;obtain⟨l1,l2⟩:=si (env:=env) J;refine wpAny_assign_Tuple O (items:=j) ⟨_,ht,rfl,_,rfl⟩ (by rw [l1,<-M];simp) l2 λh' hk=>?_
   refine wZ T x Y j.toList pr _ _ Q F J (by simpa using M) (X.keeps λb o e=>hk b o (TS (Nm e)) e) λw g e X' F' hp=>h w g ((aU.mkH s h').trans e) X' F' hp
end
end
section
section
variable{M:VX}{A:Bs}{E:Value->bS->Prop}{s:bS}{env:Env}
structure T4(env:Env)(names:List (Str×Wk))(acc cl:List (Str×iS)):Prop where
 old:∀x a,(x,a)∈cl->(x,a)∈acc\/env.cells.lookup x=some a
 all:∀x,(x,Vr)∈names->∃a,(x,a)∈cl
 sub:∀p,p∈acc->p∈cl
theorem FE(f:Str×Wk->List (Str×iS)->Sem (ForInStep (List (Str×iS))))(hf:∀x cs,f x cs=if x.2==.free then(do let a <-cellOf env x.1;pure (.yield ((x.1,a)::cs))) else pure (.yield cs)):
  ∀(names:List (Str×Wk)) (acc:List (Str×iS)) (Q:List (Str×iS)->bS->Prop),(∀x,(x,Vr)∈names->∃a,env.cells.lookup x=some a)->(∀cl,T4 env names acc cl->Q cl s)->tL M A (forIn names acc f) Q E s:=by
 intro names;induction names with
 |nil=>intro acc Q _ q;exact fS (q acc ⟨λJ J h=>.inl h,λJ h=>by simp at h,λJ h=>h⟩)
 |cons p r ih=>
  intro acc Q hc q;obtain⟨x,k⟩:=p;rw [aau,hf];have hc':=λy h=>hc y (ES _ h)
  by_cases hk:k=.free
  ·subst hk;refine JL (eX (by rfl)) ?_;refine du (hc x FS) λa ha=>?_
   refine aS (aS (wpAny_cellOf ha (fS ?_)));refine ih _ Q hc' λcl C=>q cl ⟨λy b h=>?_,λy h=>?_,λp h=>C.sub p (ES _ h)⟩
   ·rcases C.old y b h with h|h
    ·rcases List.mem_cons.mp h with e|h
     ·cases e;exact .inr ha
     ·exact .inl h
    ·exact .inr h
   ·rcases List.mem_cons.mp h with e|h
    ·cases e;exact⟨a,C.sub _ FS⟩
    ·exact C.all y h
  ·refine(by simpa using hk:(k==Vr)=false)▸ ?_;refine aS (fS ?_);refine ih _ Q hc' λcl C=>q cl ⟨C.old,λy h=>?_,C.sub⟩
   rcases List.mem_cons.mp h with e|h
   ·cases e;exact absurd rfl hk
   ·exact C.all y h
theorem D1{scope:OS}{Q:List (Str×iS)->bS->Prop}(hc:∀x,(x,Vr)∈scope.names->∃a,env.cells.lookup x=some a)(q:∀cl,T4 env scope.names [] cl->Q cl s):tL M A (closureFor scope env) Q E s:=by
 refine aS (FE _ (λx cs=>?_) scope.names [] _ hc λcl C=>fS (q cl C));rfl
def zt(M:VX)(A:Bs)(use:Option (Value->Sem Unit))(Q:Value->bS->Prop)(E:Value->bS->Prop)(acc:Value)(C:iS)(r:V1)(s':bS):Prop:=
 match r,use with
 | .ok _,none=>∃m,s'.heap.Ns C m/\∀h',OR C s'.heap h'->Q acc {s' with heap:=h'}
 | .ok _,some u=>bD M A (u acc) (λJ s''=>∃m,s''.heap.Ns C m/\∀h',OR C s''.heap h'->Q .none {s'' with heap:=h'}) E s'
 | .error _,_=>False
theorem pA{e:iD}{scope:OS}{pos:Pos}{newAcc first:Sem Value}{g:XS}{gs:List XS}{use:Option (Value->Sem Unit)}{Q:Value->bS->Prop}
  (hd:∀it acc env,dec (.compStart e 0 it acc env)=false) (hcl:clausesOf e=g::gs) (hs:∀x,Yn g.iter env x=pure x)
  (hkind:scope.kind=.function) (hnames:∀x∈scope.names,x.2=.local->scope.names.lookup x.1=some .local)
  (h:bD M A first (λx s₁=>tL M A (W7 x) (λit s₂=>tL M A newAcc (λacc s₃=>tL M A (closureFor scope env) (λcl s₃'=>
   tL M A (abU scope env.globals cl [] env.qual none .none (some env)) (λcenv s₄=>
    co M A (.compStart e 0 it acc {cenv with scope:=aag scope env}) (zt M A use Q E acc cenv.locals) s₄) E s₃') E s₃) E s₂) E s₁) E s):
  bD M A (XT e scope env pos newAcc false first use) Q E s:=by
 unfold XT;refine hcl▸ ?_;refine aA (aJ h (λx s₁ h₁=>aA (aL (aD (AS (hs x) (aD (LO (UZ h₁ (λit s₂ h₂=>?_) λJ J h'=>h'))))))) λJ J h'=>h');have rest:∀ {α:Type} {t:Sem α} {Q:α->bS->Prop} {cond:Bool} {p:Pos},bD M A t Q E s₂->bD M A (if cond=true then(standAt p>>=λJ=>t) else t) Q E s₂:=by
  intro α t Q cond p ht;split
  ·exact aA (aL ht)
  ·exact ht
 refine rest ?_;refine aD (UZ h₂ (λacc s₃ h₃=>aD (UZ h₃ (λcl s₃' h₃'=>aD (UZ h₃' (λcenv s₄ h₄=>?_) λJ J h'=>h')) λJ J h'=>h')) λJ J h'=>h');have hv:∀x∈(scope.names.filter λx=>(x.2==.local||x.2==.cell)&&x.1 !=(".0" :Str)).reverse,x.2=.local->
   abV {cenv with scope:=aag scope env} x.1=some .local:=λx hx hl=>lookup_relabel_local (hnames x (List.mem_filter.mp (List.mem_reverse.mp hx)).1 hl)
 have hv':∀x∈(scope.names.filter λx=>(x.2==.local||x.2==.cell)&&x.1 !=(".0" :Str)).reverse.drop 1++(scope.names.filter λx=>(x.2==.local||x.2==.cell)&&x.1 !=(".0" :Str)).reverse.take 1,
   x.2=.local->abV {cenv with scope:=aag scope env} x.1=some .local:=λx hx hl=>
  (List.mem_append.mp hx).elim (λz=>hv x (Zi z) hl) (λz=>hv x (VE z) hl)
 refine aK (aA (nH (aK (yL (hd _ _ _) (eF h₄ λr s' hr=>?_)))));induction r with
 |ok f=>
  cases use with
  |none=>
   refine bp hr λm hn hr=>?_
   exact aD (LO (abr (cenv:={cenv with scope:=aag scope env}) hkind _ s' m hv hn λh' m' J hs'=>aF (hr h' hs')))
  |some u=>
   refine aD (Vj (aA (aK (aJ hr (λJ s'' hr'=>?_) λJ J h'=>h'))));refine bp hr' λm hn hr'=>?_
   exact aD (abr (cenv:={cenv with scope:=aag scope env}) hkind _ s'' m hv' hn λh' m' J hs'=>aF (hr' h' hs'))
 |error x=>cases use<;>exact hr.elim
end
section
variable{prog:Vd}{w:Va}{A:Bs}{R:V1->bS->Prop}{s:bS}
theorem vC{elt target iter:iD}{ifs:List iD}{scope:OS}{pos:Pos}{it acc:Value}{env:Env}
  (h0:co (pR prog w) A (.compLoop (.ListComp elt [⟨target,iter,ifs,0⟩] scope pos) 0 it acc env) R s)
  (h:tL (pR prog w) A (W7 it) (λit' s'=>it'=it/\s'=s) (λJ J=>False) s):
  co (pR prog w) A (.compStart (.ListComp elt [⟨target,iter,ifs,0⟩] scope pos) 0 it acc env) R s:=by
 refine bz ?_;refine bI ?_;refine(aD (Vh ?_):bD _ _ (ask>>=_) _ _ s);have stop:bD (pR prog w) A (again (.compLoop (.ListComp elt [⟨target,iter,ifs,0⟩] scope pos) 0 it acc env)) (wH (pR prog w) A R)
   (λe s'=>bD (pR prog w) A (do noteFrame e env;standAt theWindowsPlace) (λJ s''=>R (.error e) s'') (λe s'=>R (.error e) s') s') s:=aF ⟨rfl,rfl,h0⟩
 split
 ·first
   |exact aA (aF (aF ⟨rfl,rfl,h0⟩))
   |exact stop
   |exact aA stop
 ·refine aD (Vj ?_);refine aA (aL (aD (UZ h (λit' s' z=>?_) λJ J z=>z.elim)));obtain⟨rfl,rfl⟩:=z;exact stop
end
end
section
noncomputable abbrev fO(b:List iD)(env:Env):Sem Bool:=forIn b true (λc r=>if r=true then(do let ok <-isTrue c env (eval c env);pure (Zj ok)) else pure (Zj r))
noncomputable def FX(c b:iD)(g:List iD)(env:Env)(k h:Value)(j:YM)(v:Value):Sem Fin:=VC b k v>>=λJ=>Xm b env v>>=λJ=>fO g env>>=λok=>
 if ok=true then((eval c env>>=λx=>call (.builtin "list.append") [h,x]>>=λJ=>pure ())>>=λJ=>again j) else again j
def vN(h b c:iD)(j:List iD)(g:OS)(pos:Pos)(m k:Value)(env:Env):
  compTurn (.ListComp h [⟨b,c,j,0⟩] g pos) 0 m k env=(standAt c.pos>>=λJ=>Y9 m>>=λr=>match r with
   |none=>pure (.done .next)
   |some v=>FX h b j env m k (.compLoop (.ListComp h [⟨b,c,j,0⟩] g pos) 0 m k env) v):=by rfl
def z8{M:VX}{A:Bs}{j b k:iD}{m:List iD}{g:OS}{pos:Pos}{u p:Value}{env:Env}{w:YM}{R:V1->bS->Prop}{s:bS}(y:∀c,M.den c=aaT table c)(x:w=.compLoop (.ListComp j [⟨b,k,m,0⟩] g pos) 0 u p env)
  (h:bD M A (Y9 u>>=λr=>match r with|none=>pure (.done .next)|some v=>FX j b m env u p w v) (wH M A R) No s):co M A w R s:=by
 subst x;refine bz ?_;rw [YK rfl,y];refine bI (aJ (E:=No) ?_ (λJ J z=>z) λJ J z=>z.elim);rw [vN];exact aA (aL h)
noncomputable abbrev eh(items:Array Value)(n:Nat):Obj:={cls:=.type "list",dict:=none,data:=.seq items n,slots:= #[]}
section
variable{c:bo}{A:Bs}{pr:PH}{env:Env}{vs:List (Option Str)}{m:Fs}
def CJ{m:H}{s:bS}{g a:iS}{i:Nat}{o:Obj}{b:iD}{j:Value}{Q:Unit->bS->Prop}{E:Value->bS->Prop}(X:I c pr m s.heap)(hp:pr g=some o)(k:nv (.list a) i o)(q:Q () s):
  tL (pR c.prog c.w) A (VC b (.ref g) j) Q E s:=by
 have p:∀r,tL (pR c.prog c.w) A (do
   let o <-load g
   match o.cls,o.data with
   | .type n,.fields vs=>
    if ["enumerate", "zip", "dict_itemiterator", "dict_reverseitemiterator", "odict_iterator", "itertools.zip_longest", "itertools.pairwise"].contains n&&vs[0]? ==some (Xw r) then
     rule "for.unpacks-the-owned-tuple"
     updateField g 0 .none
   |_,_=>pure ()) Q E s:=λr=>by
  refine aS (Wq (X.fz _ _ hp) ?_);refine k.1▸ ?_;rw [k.2];dsimp only
  rw [if_neg (by
   intro h;rw [show(["enumerate", "zip", "dict_itemiterator", "dict_reverseitemiterator", "odict_iterator", "itertools.zip_longest", "itertools.pairwise"].contains "list_iterator")=false from by decide,Ys] at h
   exact fT h)]
  exact fS q
 rcases b with⟨⟩<;>first|exact fS q|(induction j<;>first|exact fS q|exact p _)
def tO{s:bS}{c:iS}{n:Int}{t:Tok}{b:iD}{Q:Unit->bS->Prop}{E:Value->bS->Prop}{M:VX}(q:Q () s):tL M A (VC b (.ref c) (.int n t)) Q E s:=by
 rcases b with⟨⟩<;>exact fS q
def Bq{k:wR}{m:H}{s:bS}{p:iS}{i:Nat}{o:Obj}{h:iD}{r:Value}{u:V}{j:Nat}{Q:Unit->bS->Prop}{E:Value->bS->Prop}(X:I c pr m s.heap)(hp:pr p=some o)(w:nv k i o)
  (g:cG k m j=some (some u)) (v:er r=u) (q:Q () s):
  tL (pR c.prog c.w) A (VC h (.ref p) r) Q E s:=by
 induction k with
 |list a=>exact CJ X hp w q
 |rng lo x=>
  have g:=eQ g;split at g
  ·obtain rfl:=eQ g;obtain⟨t,rfl⟩:=cv v;exact tO q
  ·exact nN g
 |set y=>
  refine bp (Option.map_eq_some_iff.mp (eQ g)) λz J b=>?_
  subst b;obtain⟨t,rfl⟩:=cv v;exact tO q
set_option tactic.hygienic true in
def zE{cd:YM}{k:wR}{bind:H->V->Option Fs}{test:Fs->PT Bool}{eltA:Fs->PT V}{al ab am:iD}{an:List iD}{ac:OS}{pos:Pos}{w D:iS}{Q:V->H->Prop}{R:V1->bS->Prop}{s₀:bS}
  {It:Nat->Obj->Prop} (ae:cd=.compLoop (.ListComp al [⟨ab,am,an,0⟩] ac pos) 0 (.ref w) (.ref D) env) (av:D≠env.locals) (af:D≠w) (aw:w≠env.locals) (ax:c.K.lookup D=none) (ao:¬Fa env w) (ay:¬Fa env D)
  (ag:∀(p:H) (s:bS) (g:PH) (o:Obj) (i:Nat) (r:Option V) (Q:Option Value->bS->Prop) (E:Value->bS->Prop),I c g p s.heap->g w=some o->(∀b,b≠w->b≠D->b≠env.locals->g b=pr b)->It i o->cG k p i=some r->
   (∀(u:V) (M:Value) (B:bS) (o':Obj),r=some u->er M=u->aU s B->I c (g.set w o') p B.heap->It (i+1) o'->Q (some M) B)->(∀B,r=none->aU s B->I c (g.del w) p B.heap->Q none B)->tL (pR c.prog c.w) A (Y9 (.ref w)) Q E s)
  (ap:∀(p:H) (s:bS) (g:PH) (o:Obj) (i j:Nat) (u:V) (M:Value) (Q:Unit->bS->Prop) (E:Value->bS->Prop),I c g p s.heap->g w=some o->It i o->cG k p j=some (some u)->er M=u->Q () s->tL (pR c.prog c.w) A (VC ab (.ref w) M) Q E s)
  (hb:∀(p:H) (M:Value) (x:Fs) (g:PH) (B:bS) (Q:Unit->bS->Prop),bind p (er M)=some x->fg c env vs g m->I c g p B.heap->
   (∀ah O,aU B ah->I c O p ah.heap->fg c env vs O x->(∀b,b≠env.locals->O b=g b)->Q () ah)->tL (pR c.prog c.w) A (Xm ab env M) Q No B)
  (aq:∀p u x,bind p u=some x->∀i v,aC m i=some v->aC x i=some v)
  (ht:∀g x,fg c env vs g x->bq c A g (fO an env) id (test x))
  (he:∀g x,fg c env vs g x->bq c A g (eval al env) er (eltA x))
  (fin:∀(G:List V) (p:H) (B:bS) (g:PH) (items:Array Value) (n:Nat),aU s₀ B->fresh (.list G) Q p->I c g p B.heap->g D=some (eh items n)->items.toList.map er=G->
   fg c env vs g m->g w=none->(∀b,b≠w->b≠D->b≠env.locals->g b=pr b)->R (.ok .next) B)
  {p:H} {s:bS} {g:PH} {o:Obj} (h:iO k bind test eltA Q p) (e0:aU s₀ s) (X:I c g p s.heap) (ai:g w=some o) (ho:It 0 o) (hD:g D=some (eh #[] 0)) (F:fg c env vs g m)
  (U:∀b,b≠w->b≠D->b≠env.locals->g b=pr b):
  co (pR c.prog c.w) A cd R s:=by
 refine h (λi G p=>∀(s:bS) (g:PH) (o:Obj) (items:Array Value) (n:Nat),aU s₀ s->I c g p s.heap->g w=some o->It i o->g D=some (eh items n)->items.toList.map er=G->fg c env vs g m->
  (∀b,b≠w->b≠D->b≠env.locals->g b=pr b)->co (pR c.prog c.w) A cd R s) ?_ s g o #[] 0 e0 X ai ho hD rfl F U
 intro i G p q s g o items n e0 X ai ho hD C F U;have hq:cd.quiet=true:=by rw [ae];rfl
 have hd:dec cd=false:=by rw [ae];rfl
 refine z8 (λJ=>rfl) ae ?_;generalize hk:cG k p i=zz;induction zz with
 |none=>have q:=hk▸q;exact q.elim
 |some r=>
  rw [hk] at q;refine aD (ag p s g o i r _ _ X ai U ho hk (λu M s1 o1 hr hu e1 X1 aj=>?_) λs1 hr e1 X1=>?_)
  ·subst hr;dsimp only at q⊢;split at q
   ·rename_i x ar;refine aD (ap p s1 _ o1 (i+1) i u M _ _ X1 (PH.set_same ..) aj hk hu ?_);refine aD (hb p M x _ s1 _ (by exact hu▸ar) (F.same λb hb=>PH.set_ne _ _ λz=>ao (z▸hb):fg c env vs (g.set w o1) m) X1 λs2 Y e2 X2 F2 ak=>?_);have as:=(ak w aw).trans (PH.set_same ..);have D2:=(ak D av).trans ((PH.set_ne _ _ af).trans hD);have aa:=λb h1 h2 h3=>(ak b h3).trans ((PH.set_ne _ _ h1).trans (U b h1 h2 h3))
    have au:=F2.sub (aq p u x ar);refine aA (aJ (ht Y x F2 _ p s2 q X2) (λb s3 z=>?_) λJ J z=>z);obtain⟨e3,az,q3,X3⟩:=z;induction b with
    |false=>
     exact aF ⟨hq,hd,q3 s3 Y o1 items n ((e0.trans e1).trans (e2.trans e3)) X3 as aj D2 C au aa⟩
    |true=>
     refine aA (aA (aJ (he Y x F2 _ az s3 q3 X3) (λy s4 z=>?_) λJ J z=>z));obtain⟨e4,a2,⟨hz,q4⟩,X4⟩:=z;have hz:items.size<=sizeLine:=gD (by rw [<-C,eS] at hz;exact hz) Js;refine aD (append_at (hsz:=hz) (X4.fz _ _ D2) λh5 a0 a1=>?_);refine aF (aF ⟨hq,hd,q4 _ (Y.set D _) o1 (items.push y) _ (((e0.trans e1).trans (e2.trans e3)).trans (e4.trans (.mkH s4 h5))) (X4.retouch D2 ax a0 a1) ((PH.set_ne _ _ (NS af)).trans as) aj (PH.set_same ..) (by simp [C]) ?_ ?_⟩)
     ·exact au.same λb hb=>PH.set_ne _ _ λz=>ay (z▸hb)
     ·intro b h1 h2 h3;refine(PH.set_ne _ _ h2).trans ?_;exact aa b h1 h2 h3
   ·exact q.elim
  ·subst hr;refine aF (fin G p s1 (g.del w) items n (e0.trans e1) q X1 ((PH.del_ne _ af).trans hD) C (F.same λb hb=>PH.del_ne _ λz=>ao (z▸hb)) (PH.del_same ..) λb h1 h2 h3=>(PH.del_ne _ h1).trans (U b h1 h2 h3))
end
end
section
theorem jD:∀ {vs:List (Option Str)},fY vs=true->∀(i j:Nat) (x:Str),vs[i]? =some (some x)->vs[j]? =some (some x)->i=j
 | [],_,i,j,x,h,_=>by exact nN h
 |o::r,m,i,j,x,c,g=>by
  have p:fY r=true:=by induction o<;>simp_all [fY]
  have b:∀k:Nat,o=some x->r[k]? =some (some x)->False:=λk s u=>by
   subst s;simp only [fY,UQ,ID,Xf,decide_eq_false_iff_not] at m;exact m.1 (VD u)
  induction i with
  |zero=>
   induction j with
   |zero=>rfl
   |succ j=>simp at c g;exact(b j c g).elim
  |succ i=>
   rcases j with _|j
   ·simp at c g;exact(b i g c).elim
   ·simp at c g;exact(jD p) i j x c g▸rfl
set_option tactic.hygienic true in
def C4{vs:List (Option Str)}{b:List Str}{i:Nat}{x:Str}(h:(Cv vs b)[i]? =some (some x)):vs[i]? =some (some x)/\b.contains x=false:=by
 unfold Cv at h;rw [PR] at h;generalize q:vs[i]? =c;induction c with
 |none=>have h:=q▸h;exact nN h
 |some o=>
  rw [q] at h;induction o with
  |none=>cases h
  |some y=>
   simp only [WS,YL] at h;split at h
   ·exact nN h
   ·rename_i g;obtain rfl:=eQ h;exact⟨rfl,by exact Bool.not_eq_true _▸g⟩
def AR{b:List (Nat×Str)}{i:Nat}(h:∀p∈b,p.1≠i):∀(v:List (Option Str)),(b.foldl (λv p=>v.set p.1 (some p.2)) v)[i]? =v[i]? :=by
 induction b with
 |nil=>intro v;rfl
 |cons p r c=>
  intro v;rw [VV,c (λq g=>h q (ES _ g))];exact(List.getElem?_set_ne (h p FS))
def IB{vs:List (Option Str)}{b:List Str}{c:List Nat}{i:Nat}{x:Str}(g:i∉c)(h:(kZ vs b c)[i]? =some (some x)):vs[i]? =some (some x)/\b.contains x=false:=by
 unfold kZ at h;rw [AR (λp hp e=>g (by exact e▸(Yg hp).1))] at h;exact C4 h
def jl{g b:OS}{x:Str}{k:Wk}(h:(bA g b).names.lookup x=some k):∃j,g.names.lookup x=some j/\k=(if (j==.free&&b.kind==.function&&b.names.lookup x==some .cell)=true then .cell else j):=by
 unfold bA at h;generalize g.names=l at h⊢;induction l with
 |nil=>exact nN h
 |cons p r u=>
  obtain⟨n,m⟩:=p;rw [IS,UR] at h;rw [UR];have c:(if (m==Vr&&b.kind==YO&&b.names.lookup n==some Wy)=true then(n,Wy) else(n,m)).1=n:=by split<;>rfl
  rw [c] at h;cases s:x==n with
  |true=>
   rw [s] at h;have v:=beq_iff_eq.mp s;subst v;refine⟨m,rfl,?_⟩;have h:=eQ h;rw [<-h];split<;>rfl
  |false=>
   rw [s] at h;exact u h
def qu{g b:OS}{x:Str}{j:Wk}(h:g.names.lookup x=some j):(bA g b).names.lookup x=some (if (j==.free&&b.kind==.function&&b.names.lookup x==some .cell)=true then .cell else j):=by
 unfold bA;generalize g.names=l at h⊢;induction l with
 |nil=>exact nN h
 |cons p r s=>
  obtain⟨n,m⟩:=p;rw [UR] at h;rw [IS,UR];have c:(if (m==Vr&&b.kind==YO&&b.names.lookup n==some Wy)=true then(n,Wy) else(n,m)).1=n:=by split<;>rfl
  rw [c];cases k:x==n with
  |true=>
   rw [k] at h;have u:=beq_iff_eq.mp k;subst u;obtain rfl:=eQ h;simp only [YL];split<;>rfl
  |false=>
   rw [k] at h;exact s h
section
variable{c:bo}{A:Bs}{pr:PH}{env:Env}{vs:List (Option Str)}{m:Fs}{x:Cx}{n:Nat}
structure gZ(env env':Env)(sc:OS)(C:iS)(cl:List (Str×iS)):Prop where
 sco:env'.scope=bA sc env.scope
 lo:env'.locals=C
 g:env'.globals=env.globals
 b:env'.builtins=env.builtins
 ce:env'.cells=cl
 cl:T4 env sc.names [] cl
def g6{g j:OS}{k:List Str}{c:List (Option Str)}(h:gc g j k c=true):g.kind=.function/\(∀p∈g.names,p.2≠ .cell/\(p.2=.local->g.names.lookup p.1=some .local/\(p.1=(".0" :Str)\/k.contains p.1=true))/\(p.2=.free->j.names.lookup p.1=some .cell))/\
  (∀x∈k,g.names.lookup x=some .local)/\fY c=true/\(∀i:Nat,c[i]? ≠some (some (".0" :Str))):=by
 unfold gc at h;simp only [UQ,Ze,List.all_eq_true,Wl,adi,ne_eq,ID,Xf,decide_eq_false_iff_not,Zo] at h;obtain⟨⟨⟨⟨m,r⟩,s⟩,u⟩,v⟩:=h;refine⟨m,λp hp=>?_,s,u,λi w=>v (VD w)⟩;obtain⟨⟨a,b⟩,d⟩:=r p hp;refine⟨a,λe=>?_,λe=>?_⟩
 ·rcases b with b|b
  ·exact absurd e b
  ·exact⟨b.1,b.2.imp id λz=>by simpa using z⟩
 ·rcases d with d|d
  ·exact absurd e d
  ·exact d
def gZ.cellAt{b:Env}{c:OS}{C:iS}{g:List (Str×iS)}(K:gZ env b c C g){y:Str}{a:iS}(h:b.cells.lookup y=some a):env.cells.lookup y=some a:=by
 rw [K.ce] at h;rcases K.cl.old y a (mem_of_lookup h) with h|h
 ·exact nM h
 ·exact h
theorem gk{c:Type}:∀ {l:List (Str×c)} {y:Str} {a:c},(y,a)∈l->∃b,l.lookup y=some b
 | [],_,_,h=>nM h
 |(z,b)::r,y,a,h=>by
  rw [UR];cases g:y==z with
  |true=>exact⟨b,rfl⟩
  |false=>
   rcases List.mem_cons.mp h with e|h
   ·cases e;simp at g
   ·exact gk h
def gZ.cellHas{b:Env}{c:OS}{C:iS}{g:List (Str×iS)}(K:gZ env b c C g){y:Str}(h:(y,Vr)∈c.names):∃a,b.cells.lookup y=some a:=by
 refine du (K.cl.all y h) λa j=>?_
 exact K.ce▸gk j
def CR{b:Env}{j:OS}{C:iS}{p:List (Str×iS)}{r:List Str}{c:List (Option Str)}(T:Top env)(K:gZ env b j C p)(s:gc j env.scope r c=true):Top b:=by
 refine nj (g6 s) λu v x z A=>?_
 refine⟨K.g.trans T.g,K.b.trans T.b,by exact K.sco▸u,λy h=>?_⟩;rw [K.sco] at h;refine bp (jl h) λg w e=>?_
 have k:=mem_of_lookup w;have:g=.free:=by
  by_cases m:g=.free
  ·exact m
  ·have:(g==Vr)=false:=by simpa using m
   rw [this] at e;exact absurd e.symm (v _ k).1
 subst this;exact K.cellHas k
def sY{b:List Nat}(h:gS m b=true){i:Nat}{v:V}(c:aC m i=some v):i∉b:=λg=>by
 have:=List.all_eq_true.mp h i g;have this:=c▸this;exact fT this
def Fk{h:Env}{G:OS}{C:iS}{cl:List (Str×iS)}{J:List Str}{M:List Nat}{p:PH}{o:Obj}{O:Array Xc}{ep:Nat}(F:fg c env vs pr m)(K:gZ env h G C cl)(hk:gc G env.scope J (kZ vs J M)=true)(hs:gS m M=true)
  (hp:∀b ob,pr b=some ob->p b=some ob) (hC:p C=some o) (hd:o.data=.dict O ep) (Q:Xi O) (U:pr C=none) (Y:c.K.lookup C=none):fg c h (kZ vs J M) p m:=by
 refine nj (g6 hk) λk1 k2 k3 k4 k5=>?_
 refine⟨by rw [K.sco];exact k1,jD k4,⟨o,O,ep,by exact K.lo▸hC,hd,Q⟩,λy r s=>?_,λy z r s hz=>F.apart y z r (K.cellAt s) (K.cellAt hz),λy r s e=>?_,λb hb=>?_,λi y v hi hv g=>?_⟩
 ·refine bW (F.cells y r (K.cellAt s)) λo w j B=>?_
  exact⟨o,w,hp _ _ j,B⟩
 ·refine bW (F.cells y r (K.cellAt s)) λo w j B=>?_
  rw [e,K.lo] at j;have j:=U▸j;exact nN j
 ·rcases hb with rfl|⟨y,s⟩
  ·exact K.lo▸Y
  ·exact F.off _ (.inr ⟨y,K.cellAt s⟩)
 ·obtain⟨aa,ab⟩:=IB (sY hs hv) hi;unfold seen at g;have g:=K.sco▸g;generalize D:(bA G env.scope).names.lookup y=zz;induction zz with
  |none=>rw [D] at g;exact fT g
  |some k=>
   refine bp (jl D) λk0 h0 e=>?_
   have hm:=mem_of_lookup h0;refine eK (k2 _ hm) λq1 q2 q3=>?_
   have u:k0=.free:=by
    cases k0 with
    |free=>rfl
    |cell=>exact absurd rfl q1
    | «local» =>
     rcases(q2 rfl).2 with e|e
     ·have e:=e;subst e;exact absurd hi (k5 i)
     ·have e:=e;have e:=ab▸e;exact fT e
    |_=>(rw [D,e] at g;exact fT g)
   subst u;have x:=q3 rfl;refine bp (F.vars i y v aa hv (by unfold seen;exact x▸rfl)) λpv j B=>?_
   refine⟨pv,j,.inr ?_⟩;rcases B with⟨h3,_⟩|⟨_,r,oc,h4,h5,h6⟩
   have A:env.kindOf y=some .cell:=x
   ·rw [A] at h3;exact absurd h3 (by decide)
   ·obtain⟨a,ha⟩:=K.cellHas hm;obtain rfl:=eQ (h4▸(K.cellAt ha));have ac:=by
     show h.scope.names.lookup y=some .cell;rw [K.sco,D,e];simp [F.fn,x]
    exact⟨.inl ac,r,oc,ha,hp _ _ h5,h6⟩
end
end
section
section
variable{c:bo}{A:Bs}{pr:PH}{env:Env}{vs:List (Option Str)}{m:Fs}{x:Cx}{n:Nat}
def zT{k:wR}{s:bS}{b:iS}{i:Nat}{o:Obj}{E:Value->bS->Prop}(j:s.heap.get? b=some o)(g:nv k i o):tL (pR c.prog c.w) A (W7 (.ref b)) (λh m=>h=.ref b/\m=s) E s:=by
 induction k with
 |list a=>exact wpAny_pyIter_listiter (l:=a) (i:=i) ⟨o,j,g⟩ ⟨rfl,rfl⟩
 |rng lo p=>obtain⟨rfl,_⟩:=g;exact wpAny_pyIter_rangeiter j ⟨rfl,rfl⟩
 |set r=>exact g.elim
theorem cJ{i:Nat}:∀(l:List (Nat×V)) (m:Fs),(∀p∈l,p.1≠i)->aC (l.foldl (λm p=>bB m p.1 p.2) m) i=aC m i
 | [],_,_=>rfl
 |p::r,m,h=>by
  rw [VV,cJ r _ (λq b=>h q (ES _ b)),bN,if_neg (h p FS)]
def wm{j:H}{b:List Nat}{u:V}{m c:Fs}{i:Nat}(h:c9 j b u m=some c)(g:i∉b):aC c i=aC m i:=by
 rcases iz h with⟨i,rfl,rfl⟩|⟨a,k,r,s,v,rfl⟩
 ·rw [bN,if_neg (by simpa [eq_comm] using g)]
 ·exact cJ _ _ λp hp e=>g (by exact e▸(Yg hp).1)
def wo{e:iD}(h:s9 e=true)(env:Env)(v:Value):Yn e env v=pure v:=by
 rcases e with⟨⟩<;>first|rfl|exact fT h
structure S9(c:bo)(A:Bs)(pr:PH)(tgt:iD)(s:bS)(bind:H->V->Option Fs)(T:Fs->PT Bool)(EA:Fs->PT V)(Q:V->H->Prop)(itv:Value)(s2:bS)(it:iS)(o:Obj)(σ1:H)(prB:PH)(k:wR)(It:Nat->Obj->Prop):Prop where
 ref:itv=.ref it
 e:aU s s2
 X:I c (prB.set it o) σ1 s2.heap
 new:prB it=none
 up:∀b ob,pr b=some ob->prB b=some ob
 at0:It 0 o
 loop:iO k bind T EA Q σ1
 self:∀(s':bS) (E:Value->bS->Prop),s'.heap.get? it=some o->tL (pR c.prog c.w) A (W7 (.ref it)) (λit' s''=>it'=.ref it/\s''=s') E s'
 next:∀D lo,prB D=none->prB lo=none->∀(σ:H) (s:bS) (pr':PH) (o:Obj) (i:Nat) (r:Option V) (Q:Option Value->bS->Prop) (E:Value->bS->Prop),I c pr' σ s.heap->pr' it=some o->(∀b,b≠it->b≠D->b≠lo->pr' b=prB b)->It i o->cG k σ i=some r->
   (∀(u:V) (pv:Value) (s':bS) (o':Obj),r=some u->er pv=u->aU s s'->I c (pr'.set it o') σ s'.heap->It (i+1) o'->Q (some pv) s')->(∀s',r=none->aU s s'->I c (pr'.del it) σ s'.heap->Q none s')->tL (pR c.prog c.w) A (Y9 (.ref it)) Q E s
 lett:∀(σ:H) (s:bS) (pr':PH) (o:Obj) (i j:Nat) (u:V) (pv:Value) (Q:Unit->bS->Prop) (E:Value->bS->Prop),I c pr' σ s.heap->pr' it=some o->It i o->cG k σ j=some (some u)->er pv=u->Q () s->tL (pR c.prog c.w) A (VC tgt (.ref it) pv) Q E s
 back:∀D C pr1 σ' h',prB D=none->prB C=none->I c pr1 σ' h'->(∀b,b≠D->b≠C->pr1 b=prB b)->∃pr2,I c pr2 σ' h'/\pr2 D=pr1 D/\pr2 C=pr1 C/\∀b,b≠D->b≠C->pr2 b=pr b
def mK{use:Option (Value->Sem Unit)}{Qv:Value->bS->Prop}(S:bR c x n A pr env vs m){aj af w:iD}{ak:List iD}{sc:OS}{pos an:Pos}{tn:List Str}{M:List Nat}
  {T:Fs->PT Bool} {EA:Fs->PT V} {Q:V->H->Prop} {s:bS}
  (hk:gc sc env.scope tn (kZ vs tn M)=true) (ao:∀v,Yn w env v=pure v) (a0:mB (bA sc env.scope) (kZ vs tn M) M af=true) (a1:∀i y,i∈M->(kZ vs tn M)[i]? =some (some y)->tn.contains y=true) (U:gS m M=true)
  (hi:bD (pR c.prog c.w) A (eval w env) (λxv s1=>tL (pR c.prog c.w) A (W7 xv) (λap s2=>∃G o σ1 r k It,S9 c A pr af s (λσ u=>c9 σ M u m) T EA Q ap s2 G o σ1 r k It) No s1) No s)
  (ht:∀j g B,bR c x n A j g (kZ vs tn M) B->g.scope=bA sc env.scope->bq c A j (fO ak g) id (T B))
  (he:∀j g B,bR c x n A j g (kZ vs tn M) B->g.scope=bA sc env.scope->bq c A j (eval aj g) er (EA B))
  (fin:∀(D C:iS) (aa:H) (s':bS) (j:PH) (items:Array Value) (k:Nat) (oC:Obj) (mC:Str->Option Value),aU s s'->fresh (.list (items.toList.map er)) Q aa->I c j aa s'.heap->j D=some (eh items k)->
   j C=some oC->s'.heap.Ns C mC->C≠D->pr C=none->pr D=none->(∀b,b≠D->b≠C->j b=pr b)->zt (pR c.prog c.w) A use Qv No (.ref D) C (.ok .next) s'):
  bD (pR c.prog c.w) A (XT (.ListComp aj [⟨af,w,ak,0⟩] sc pos) sc env an (newList []) false (eval w env) use) Qv No s:=by
 refine nj (g6 hk) λk1 k2 k3 k4 k5=>?_
 refine pA (λJ J J=>rfl) rfl ao k1 (λp hp hl=>((k2 p hp).2.1 hl).1) ?_;refine aJ hi (λxv s1 z=>UZ z (λap s2 z=>?_) λJ J z=>z) λJ J z=>z
 obtain⟨G,o,σ1,r,k,It,Fz⟩:=z;obtain rfl:=Fz.ref;have al:=Fz.new;have nn:∀b,r b=none->pr b=none:=λb h=>by
  generalize q:pr b=zz;induction zz with
  |none=>rfl
  |some ob=>have h:=Fz.up b ob q▸h;exact sN h
 have X2:=Fz.X
 ·refine wpAny_newList ?_ (by simp);have fD:=X2.prFresh (oP s2.heap.objs.size);have KD:=cj X2 fD;generalize hD:s2.heap.objs.size=D at fD KD⊢;have e3:aU s2 {s2 with heap:=s2.heap.push {cls:=.type "list",data:=.seq ([]:List Value).toArray}}:=.mkH _ _
  revert e3;refine KV (({s2 with heap:=s2.heap.push {cls:=.type "list",data:=.seq ([]:List Value).toArray}}:bS)) λs3 a2 e3=>?_
  have X3:I c ((r.set G o).set D (eh #[] 0)) σ1 (s2.heap.push {cls:=.type "list",data:=.seq ([]:List Value).toArray}):=
   X2.add (λJ J e=>sT _ e) (by refine hD▸ ?_;exact oP _) (by exact hD▸GD _ rfl)
  refine D1 (λy hy=>S.top.cl y ((k2 _ hy).2.2 rfl)) λcl Cl=>?_
  refine wpAny_newFunctionEnv (λp hp=>(k2 p hp).1) (by intro y hy;exact nM hy) (λah a3 a4=>?_) k1;have X3:I c ((r.set G o).set D (eh #[] 0)) σ1 s3.heap:=by exact a2▸X3
  have fC:=X3.prFresh (oP s3.heap.objs.size);have KC:=cj X3 fC;refine qo a3 λoC be bf aq a5 a6 bg=>?_
  have X4:=X3.add (λb ob e=>a4.extBut b ob (TS (Nm e)) (sT _ e)) (oP _) aq;generalize hC:s3.heap.objs.size=C at fC KC X4 aq⊢;have O:C≠D:=λz=>by rw [z,PH.set_same] at fC;exact sN fC
  have ag:C≠G:=λz=>by have fC:=PH.set_ne _ _ O▸fC;rw [z,PH.set_same] at fC;exact sN fC
  have ab:r C=none:=by rw [PH.set_ne _ _ O,PH.set_ne _ _ ag] at fC;exact fC
  have am:D≠G:=λz=>by have fD:=z▸fD;rw [PH.set_same] at fD;exact sN fD
  have ac:r D=none:=by rw [PH.set_ne _ _ am] at fD;exact fD
  have up:∀b ob,r b=some ob->(((r.set G o).set D (eh #[] 0)).set C oC) b=some ob:=λb ob e=>by
   rw [PH.set_ne _ _ (λz=>by rw [z] at e;have e:=ab▸e;cases e),PH.set_ne _ _ (λz=>by rw [z] at e;have e:=ac▸e;cases e)];exact(PH.set_ne _ _ (λz=>by rw [z] at e;have e:=al▸e;cases e)).trans (e)
  generalize ar:({s3 with heap:=ah,toks:=s3.toks+([]:List (Str×Value)).length}:bS)=s4;have e4:aU s3 s4:=by exact ar▸ .mk' s3 _ _
  have X4:I c (((r.set G o).set D (eh #[] 0)).set C oC) σ1 s4.heap:=by exact(by exact ar▸rfl:s4.heap=ah)▸X4
  suffices go:∀g,gZ env g sc C cl->co (pR c.prog c.w) A (.compStart (.ListComp aj [⟨af,w,ak,0⟩] sc pos) 0 (.ref G) (.ref D) g) (zt (pR c.prog c.w) A use Qv No (.ref D) C) s4 from
   go _ ⟨rfl,rfl,rfl,rfl,rfl,Cl⟩
  intro g K;have T':=CR S.top K hk;have as:∀j B,fg c g (kZ vs tn M) j B->bR c x n A j g (kZ vs tn M) B:=λj B F=>⟨S.adm,T',F,S.calls,S.keep⟩
  have a7:∀b,Fa g b->b=C\/∃ob,r b=some ob:=λb hb=>by
   rcases hb with rfl|⟨y,hy⟩
   ·exact .inl K.lo
   ·refine bW (S.fr.cells y b (K.cellAt hy)) λob J h1 J=>?_
    exact .inr ⟨ob,Fz.up _ _ h1⟩
  have ae:∀b,b≠C->r b=none->¬Fa g b:=λb h1 h2 h3=>by
   rcases a7 b h3 with h|⟨ob,h⟩
   ·exact h1 h
   ·have h:=h2▸h;exact nN h
  have lo:=K.lo;have ai:(((r.set G o).set D (eh #[] 0)).set C oC) G=some o:=by rw [PH.set_ne _ _ (NS ag),PH.set_ne _ _ (NS am),PH.set_same]
  refine vC ?_ (Fz.self s4 _ (X4.fz _ _ ai));refine zE rfl (pr:=r) (m:=m) (vs:=kZ vs tn M) (bind:=λσ u=>c9 σ M u m) (test:=T) (eltA:=EA) (s₀:=s) (by rw [lo];exact NS O) am (by rw [lo];exact NS ag) KD (ae G (NS ag) al) (ae D (NS O) ac) (Fz.next D g.locals ac (by rw [lo];exact ab)) Fz.lett
   (λσ pv B j s' Q hb F X q=>ut S.adm.hd T' F (by exact K.sco▸a0) hb X λa8 au e a9 ba hp=>q a8 au e a9 ba λb hb=>hp b λhw=>?_)
   (λσ u B hb i v hv=>?_) (λj B F=>ht j g B (as j B F) K.sco) (λj B F=>he j g B (as j B F) K.sco) (λbh aa s' j items k e hf X' bb av F aw ax=>?_) Fz.loop (Fz.e.trans (e3.trans e4)) X4 ai Fz.at0 (by rw [PH.set_ne _ _ (NS O),PH.set_same]:(((r.set G o).set D (eh #[] 0)).set C oC) D=some (eh #[] 0)) (Fk S.fr K hk U (λb ob e=>up b ob (Fz.up b ob e)) (PH.set_same _ C oC) a5 a6 (nn C ab) KC) λb h1 h2 h3=>?_
  ·refine lC hw λi y hi hy hw=>?_
   rcases hw with⟨_,hw⟩|⟨hw,_⟩
   ·exact hb hw
   ·have hw:g.scope.names.lookup y=some .cell:=hw;rw [K.sco,qu (k3 y (by simpa using (a1 i y hi hy)))] at hw;simp at hw
  ·exact wm hb (sY U hv)|>.trans hv
  ·subst av;refine uh F.loc λay az bc h1 h2 h3=>?_
   rw [lo] at h1
   refine se (Fz.back D C j aa s'.heap ac ab X' λb b1 b2=>by
    by_cases hb:b=G
    ·subst hb;rw [aw,al]
    ·exact ax b hb b1 (by rw [lo];exact b2)) λbd Y y1 y2 y3=>?_
   exact fin D C aa s' bd items k ay (VG az) e hf Y (y1.trans bb) (y2.trans h1) ⟨ay,az,bc,X'.fz _ _ h1,h2,h3,λJ=>rfl⟩ O (nn C ab) (nn D ac) y3
  ·rw [lo] at h3;exact(PH.set_ne _ _ h3).trans ((PH.set_ne _ _ h2).trans ((PH.set_ne _ _ h1)))
set_option tactic.hygienic true in
def vc{use:Option (Value->Sem Unit)}{Qv:Value->bS->Prop}(S:bR c x n A pr env vs m){aa ab w:iD}{ac:List iD}{sc:OS}{pos ae:Pos}{M:List Str}{G:List Nat}{WI:(V->H->Prop)->H->Prop}
  {T:Fs->PT Bool} {EA:Fs->PT V} {Q:V->H->Prop} {B:H} {s:bS}
  (hk:gc sc env.scope M (kZ vs M G)=true) (af:s9 w=true) (ag:mB (bA sc env.scope) (kZ vs M G) G ab=true) (ah:∀i y,i∈G->(kZ vs M G)[i]? =some (some y)->M.contains y=true) (O:gS m G=true)
  (hi:bq c A pr (eval w env) er WI)
  (ht:∀g p m',bR c x n A g p (kZ vs M G) m'->p.scope=bA sc env.scope->bq c A g (fO ac p) id (T m'))
  (he:∀g p m',bR c x n A g p (kZ vs M G) m'->p.scope=bA sc env.scope->bq c A g (eval aa p) er (EA m'))
  (q:WI (λv B=>match sq v B with|some k=>iO k (λB u=>c9 B G u m) T EA Q B|none=>False) B) (X:I c pr B s.heap)
  (fin:∀(D C:iS) (U:H) (s':bS) (g:PH) (items:Array Value) (k:Nat) (oC:Obj) (mC:Str->Option Value),aU s s'->fresh (.list (items.toList.map er)) Q U->I c g U s'.heap->g D=some (eh items k)->
   g C=some oC->s'.heap.Ns C mC->C≠D->pr C=none->pr D=none->(∀b,b≠D->b≠C->g b=pr b)->zt (pR c.prog c.w) A use Qv No (.ref D) C (.ok .next) s'):
  bD (pR c.prog c.w) A (XT (.ListComp aa [⟨ab,w,ac,0⟩] sc pos) sc env ae (newList []) false (eval w env) use) Qv No s:=
 mK S hk (wo af env) ag ah O (aJ (hi _ B s q X) (λxv s1 z=>by
  obtain⟨e1,ai,q1,X1⟩:=z;split at q1
  ·rename_i k aj
   exact ze X1 aj λit s2 o ak al e2 X2 ho=>⟨it,o,ai,pr,k,nv k,rfl,e1.trans e2,X2,ak,λJ J h=>h,ho,q1,
    λs' E h=>zT h ho,
    λD lo J J B s g o i r Q E Y hp J ho h=>zj S.adm.hd Y hp al ho h,
    λB s g o i j u pv Q E Y hp ho hu he q=>Bq Y hp ho hu he q,
    λD C am U h' J J Y hb=>⟨am,Y,rfl,rfl,hb⟩⟩
  ·exact q1.elim) λJ J z=>z) ht he fin
end
end
section
section
variable{c:bo}{A:Bs}{pr:PH}{env:Env}{vs:List (Option Str)}{m:Fs}{x:Cx}{n:Nat}
def DW{ag:iD}{s₀ s:bS}{bind:H->V->Option Fs}{T:Fs->PT Bool}{EA:Fs->PT V}{Q:V->H->Prop}{σ:H}{l:iS}{xs:List V}{a b:Int}(hh:A.handled=none)(e0:aU s₀ s)(X:I c pr σ s.heap)(hl:σ l=some (.list xs))
  (hi:xs.all V.isInt=true) (hs:∀z,V.int z∈xs->0<=z/\z<64) (h2:∀z,V.int z∈xs->z=a\/z=b) (q:∀ys:List Int,ys.Nodup->(∀z,z∈ys↔V.int z∈xs)->iO (.set ys) bind T EA Q σ):
  bD (pR c.prog c.w) A (call (.type "set") [.ref l]) (λxv s1=>tL (pR c.prog c.w) A (W7 xv) (λah s2=>∃it o σ1 ai k It,S9 c A pr ag s₀ bind T EA Q ah s2 it o σ1 ai k It) No s1) No s:=by
 refine bW (X.list hl) λg nn aj O=>?_
 subst O;have aa:∀(i:Nat) (v:Value),g[i]? =some v->er v∈g.toList.map er:=λi v h=>List.mem_map.mpr ⟨v,Array.mem_toList_iff.mpr (Array.mem_of_getElem? h),rfl⟩
 refine AC (a:=a) (b:=b) hh aj.isList (λi v h=>?_) λB tk ns p t x g1 hS hz ab=>?_
 ·have hv:=aa i v h;have:=List.all_eq_true.mp hi _ hv;generalize m:er v=zz;induction zz with
  |int z=>
   rw [m] at hv;obtain⟨t,rfl⟩:=cv m;exact⟨z,t,rfl,hs z hv,h2 z hv⟩
  |_=>have this:=m▸this;exact fT this
 have K1:=X.prFresh (oP s.heap.objs.size);have X1:=X.add (h':=B) ab (oP _) g1;have KS:=cj X K1;generalize s.heap.objs.size=S at g1 K1 X1 KS⊢;refine EH (s:={s with heap:=B,toks:=tk}) g1 hS ?_;have U:=X1.prFresh (oP B.objs.size);have KI:=cj X1 U;have X2:=X1.add (h':=B.push (wN 0 0 S p.size x)) (λJ J e=>sT _ e) (oP _) (GD _ rfl);generalize B.objs.size=it at U KI X2⊢;obtain⟨ak,ys,hy,al,ac⟩:=CY (w:=c.w) hS S x;have am:∀z,z∈ys↔V.int z∈g.toList.map er:=λz=>by
  rw [ac,hz];constructor
  ·rintro ⟨j,tk,h⟩;exact aa j _ h
  ·intro h;refine bp (List.mem_map.mp h) λv hv m=>?_
   obtain⟨t,rfl⟩:=cv m;obtain⟨j,hj⟩:=List.mem_iff_getElem?.mp hv;exact⟨j,t,by exact We▸hj⟩
 refine⟨it,wN 0 0 S p.size x,σ,pr.set S (cQ p x t),.set ys,λi o=>o=wN (zS c.w t i) i S p.size x/\i<=p.size,rfl,e0.trans (.mk' s _ _),X2,U,λb ob hb=>?_,⟨?_,Tl _⟩,q ys al am,λs' E h=>xA h,?_,?_,?_⟩
 ·exact(PH.set_ne _ _ λe=>by rw [e] at hb;have hb:=K1▸hb;cases hb).trans (hb)
 ·delta zS Iw;split<;>rfl
 have an:∀i:Nat,(ys[i]?).map V.int=((Dv c.w S x p)[i]?).map λe=>er e.2:=λi=>by
  rw [<-PR,<-hy,PR,We]
 have ao:∀ {D lo:iS} {y:PH},(pr.set S (cQ p x t)) D=none->(pr.set S (cQ p x t)) lo=none->(∀b,b≠it->b≠D->b≠lo->y b=(pr.set S (cQ p x t)) b)->y S=some (cQ p x t):=λ{D lo y} h1 h2 h=>by
  have ap:it≠S:=λe=>by have U:=e▸U;rw [PH.set_same] at U;exact sN U
  rw [h S (NS ap) (λe=>by rw [<-e,PH.set_same] at h1;exact sN h1) (λe=>by rw [<-e,PH.set_same] at h2;exact sN h2),PH.set_same]
 ·intro D lo hD aq σ s y o i r Q E Y hp ae ho M q1 q2;obtain⟨rfl,hi⟩:=ho;have af:=Y.fz _ _ (ao hD aq ae);have M:=eQ M;rw [an] at M;generalize m:(Dv c.w S x p)[i]? =zz;induction zz with
  |some e=>
   rw [m] at M;refine yb (Y.fz _ _ hp) af hS m λB ar hs=>q1 (er e.2) e.2 _ _ M.symm rfl (.mkH s B) (Y.retouch hp KI hs ar) ⟨rfl,?_⟩
   exact PE ((Array.getElem?_eq_some_iff.mp m).1) ak
  |none=>
   have M:=m▸M;exact zv hh (Y.fz _ _ hp) af hS hi m λB hs=>q2 _ M.symm (.mkH s B) (Y.lose hp KI hs)
 ·intro σ s y o i j u pv Q E Y hp ho hu m qq;refine bp (Option.map_eq_some_iff.mp (eQ hu)) λz J G=>?_
  subst G;obtain⟨t,rfl⟩:=cv m;exact tO qq
 ·intro D C as au B hD hC Y hb;have nD:D≠S:=λe=>by rw [e,PH.set_same] at hD;exact sN hD
  have nC:C≠S:=λe=>by have hC:=e▸hC;rw [PH.set_same] at hC;exact sN hC
  refine⟨as.del S,Y.weaken (λb o h=>?_) (λb o h=>?_),PH.del_ne _ nD,PH.del_ne _ nC,λb b1 b2=>?_⟩
  ·by_cases e:b=S
   ·rw [e,PH.del_same] at h;exact nN h
   ·rw [PH.del_ne _ e] at h;exact h
  ·exact(PH.del_ne _ λe=>by rw [e] at h;have h:=KS▸h;cases h).trans (Y.kin b o h)
  ·by_cases e:b=S
   ·rw [e,PH.del_same,K1]
   ·exact(PH.del_ne _ e).trans ((hb b b1 b2).trans ((PH.set_ne _ _ e)))
end
end
section
def pC{f:iD}(h:(view f).tag≠11)(as:List iD)(pos:Pos)(env:Env):
  eval (.Call f as [] pos) env=(do callWith pos (<-eval f env) [] (WL pos (VQ as env)) []):=by
 rcases f with⟨⟩<;>first|rfl|exact absurd rfl h
def xk(o:iD)(name:Str)(b:Pos)(as:List iD)(pos:Pos)(env:Env):eval (.Call (.Attribute o name b) as [] pos) env=(do
  let c <-attributeBase o name env (eval o env)
  standAt b.atName
  aaU o name b pos env c (as.length+([]:List Yx).length) (WL pos (VQ as env)) (backToKw pos (aav [] env))):=rfl
def zn{e:iD}(h:cN e=false)(pos:Pos)(r:List iD)(env:Env):WL pos (VQ (e::r) env)=(false,eval e env)::WL pos (VQ r env):=by
 rcases e with⟨⟩<;>first|rfl|exact xF h
def vT{c:bo}{b:OS}{vs:List (Option Str)}{e:E}{g:Es}{xs:List iD}(h:w6 c b vs (.cons e g) xs=true):∃y r,xs=y::r/\cN y=false/\mE c b vs e y=true/\w6 c b vs g r=true:=by
 unfold w6 at h;induction xs with
 |nil=>exact fT h
 |cons y r=>
  simp only [UQ,ID] at h;exact⟨y,r,rfl,h.1.1.2,h.1.2,h.2⟩
def y9{c:bo}{b:OS}{vs:List (Option Str)}{xs:List iD}(h:w6 c b vs .nil xs=true):xs= []:=by
 delta w6 at h;simpa using h
theorem fQ{c:bo}{k:OS}{vs:List (Option Str)}{env:Env}{pos:Pos}:∀ {j:Es} {b:List iD},w6 c k vs j b=true->(WL pos (VQ b env)).any (·.1)=false
 | .nil,b,h=>by exact y9 h▸rfl
 | .cons e j,b,h=>by
  refine Qj (vT h) λy r g m s p=>?_
  subst g;rw [zn m];exact(fQ (env:=env) (pos:=pos) p)
section
variable{c:bo}{x:Cx}
set_option tactic.hygienic true in
def EN(G:Good3 c x){n:Nat}{A:Bs}{pr:PH}{env:Env}{vs:List (Option Str)}{m:Fs}(S:bR c x n A pr env vs m){as:Es}{b:List iD}{pos:Pos}(w:w6 c env.scope vs as b=true)
  (h:bq c A pr (Yk (WL pos (VQ b env))) (Wz er) (lf x n m as)) (j:Value):
  bq c A pr (callWith pos j [] (WL pos (VQ b env)) []) er (λQ g=>lf x n m as (λvs g=>ki x n (er j) vs Q g) g):=by
 intro Q g s q X;refine gW (P:=λh=>∃k,(k=Xs\/k=Xa\/k=WA)/\Y6 (pR c.prog c.w) h (aar j) k) (fQ w) (λh z=>z) ?_;refine aJ (h _ g s q X) (λcu y z=>?_) λJ J z=>z
 obtain⟨e,p,r,u⟩:=z;refine⟨?_,aJ (S.calls A pr j cu S.adm Q p y r u) (λv C B=>?_) λJ J z=>z⟩
 ·exact CX r (λt _=>⟨.machine,.inr (.inl rfl),Vy rfl⟩) (λt _=>⟨.machine,.inr (.inl rfl),Vy rfl⟩) λa q=>keeps_K (S.keep a q.1) _ u.K
 ·exact B.from e
set_option tactic.hygienic true in
def BB(G:Good3 c x){n:Nat}{A:Bs}{pr:PH}{env:Env}{vs:List (Option Str)}{m:Fs}(S:bR c x n A pr env vs m){as:Es}{b:List iD}{B:iD}{i:Nat}{r pos:Pos}
  (C:(r.endLine==pos.line)=true) (D:b.length<20) (u:w6 c env.scope vs as b=true) (h:bq c A pr (Yk (WL pos (VQ b env))) (Wz er) (lf x n m as)) (j:Value):
  bq c A pr (aaU B (c.nm i) r pos env j (b.length+([]:List Yx).length) (WL pos (VQ b env)) (backToKw pos (aav [] env))) er
   (λQ g=>match et x g (er j) i with|some k=>lf x n m as (λvs g=>Fm x n (er j) k i vs Q g) g|none=>False):=by
 intro Q g s q X;split at q
 ·rename_i k M;unfold aaU;have hp:=(fQ (env:=env) (pos:=pos) u)
  have p:abX (b.length+([]:List Yx).length) (WL pos (VQ b env)) (backToKw pos (aav [] env))=true:=by
   unfold abX;have O:(WL pos (VQ b env)).all (λx=> !x.1)=true:=by
    simpa using hp
   rw [O];show(true&&true&&decide (b.length+0+0<30))=true;simp;exact NE D
  refine p▸ ?_;refine aA (aK (.of ?_));refine ED G M X λU w=>?_
  refine aA ?_;refine pO (by exact C) ?_;refine aF ?_;refine gW (P:=λh=>∃k,(k=Xs\/k=Xa\/k=WA)/\Y6 (pR c.prog c.w) h (aar U) k) hp (λh z=>z) ?_;refine aJ (h _ g s q X) (λcu s' z=>?_) λJ J z=>z
  obtain⟨e,Y,q',y⟩:=z;refine⟨?_,aJ (I9 G S.adm S.calls w q' y) (λv s2 z2=>?_) λJ J z=>z⟩
  ·induction w with
   |fn f i h1 u=>exact keeps_K (S.keep f h1) _ y.K
   |app=>exact⟨.machine,.inr (.inl rfl),Vy rfl⟩
   |rem=>exact⟨.machine,.inr (.inl rfl),Vy rfl⟩
   |ext=>exact⟨.machine,.inr (.inl rfl),Vy rfl⟩
   |get=>exact⟨.machine,.inr (.inl rfl),Vy rfl⟩
  ·exact z2.from e
 ·exact q.elim
def qz{l:List iD}{b:Bool}{f:iD->Bool}(h:z6 l b f=true):(l= []/\b=true)\/∃y,l= [y]/\f y=true:=by
 unfold z6 at h;simp only [Wl,UQ,List.isEmpty_iff,Ze] at h;rcases h with h|⟨c,g⟩
 ·exact .inl h
 ·obtain⟨y,rfl⟩:=eD c;exact .inr ⟨y,rfl,g⟩
def xu{o:Option iD}{b:Bool}{f:iD->Bool}(h:qI o b f=true):(o=none/\b=true)\/∃y,o=some y/\f y=true:=by
 unfold qI at h;induction o with
 |none=>simp at h;exact .inl ⟨rfl,h⟩
 |some y=>simp at h;exact .inr ⟨y,rfl,h⟩
def pZ{b:List (Option Str)}{c:List Str}{g:List Nat}(h:Ap b c g=true):∀i y,i∈g->b[i]? =some (some y)->c.contains y=true:=λi y j k=>by
 have:=List.all_eq_true.mp h i j;rw [k] at this;exact this
def I.thaw'{pr:PH}{j:H}{h h':UT}{a:iS}{o:Obj}{ao:AO}(x:I c pr j h)(hp:pr a=some o)(k:c.K.lookup a=none)(m:OR a h h')(e:Enc c h' a a ao)(p:ao.isInst=false):I c (pr.del a) (j.put a ao) h':=by
 have:pr=(pr.del a).set a o:=by
  funext b;by_cases g:b=a
  ·subst g;rw [hp,PH.set_same]
  ·rw [PH.set_ne _ _ g,PH.del_ne _ g]
 have x:=this▸x;refine x.thaw (PH.del_same ..) (λb ob q=>?_) m e p;by_cases g:b=a
 ·subst g;rw [k] at q;exact nN q
 ·refine(PH.del_ne _ g).trans ?_;have:=x.kin b ob q
  rwa [PH.set_ne _ _ g,PH.del_ne _ g] at this
def sM{pr g:PH}{j A:H}{m h h':UT}{D C:iS}{items:Array Value}{k:Nat}{G:Obj}(x:I c pr j m)(X:I c g A h)(J:g D=some (eh items k))(M:g C=some G)(y:C≠D)(p:pr C=none)(r:pr D=none)
  (s:∀b,b≠D->b≠C->g b=pr b) (O:OR C h h'):I c pr (A.put D (.list (items.toList.map er))) h':=by
 have B:=X.lose M (cj x p) O.extBut;have u:=(PH.del_ne _ (NS y)).trans J;refine(B.thaw' (ao:=.list (items.toList.map er)) u (cj x r) (Yy _ _) ⟨items,k,B.fz _ _ u,rfl⟩ rfl).weaken (λb o e=>?_) x.kin;have v:b≠D:=λz=>by rw [z] at e;have e:=r▸e;exact nN e
 have w:b≠C:=λz=>by rw [z] at e;have e:=p▸e;exact nN e
 rw [PH.del_ne _ v,PH.del_ne _ w,s b v w];exact e
def wW{A:Bs}{pr:PH}{env:Env}{e:iD}{W:(Bool->H->Prop)->H->Prop}(h:bq c A pr (isTrue e env (eval e env)) id W):bq c A pr (fO [e] env) id W:=by
 intro Q g s q X;refine aA (aA (aJ (h Q g s q X) (λb j z=>?_) λJ J z=>z));refine aF ?_;exact aF z
def sj{A:Bs}{pr:PH}{env:Env}:bq c A pr (fO [] env) id (λQ b=>Q true b):=by
 intro Q b s q X;exact aF ⟨.refl s,b,q,X⟩
abbrev cK(c:bo)(x:Cx)(e:E):Prop:=∀ ⦃n:Nat⦄ ⦃A:Bs⦄ ⦃g:PH⦄ ⦃b:Env⦄ ⦃h:List (Option Str)⦄ ⦃m:Fs⦄,bR c x n A g b h m->∀(j:iD),mE c b.scope h e j=true->bq c A g (eval j b) er (xE x n m e)
abbrev ot(c:bo)(x:Cx)(e:E):Prop:=∀ ⦃n:Nat⦄ ⦃A:Bs⦄ ⦃h:PH⦄ ⦃b:Env⦄ ⦃j:List (Option Str)⦄ ⦃m:Fs⦄,bR c x n A h b j m->∀(g:iD),mE c b.scope j e g=true->bq c A h (isTrue g b (eval g b)) id (xT x n m e)
abbrev we(c:bo)(x:Cx)(h:Es):Prop:=∀ ⦃n:Nat⦄ ⦃A:Bs⦄ ⦃j:PH⦄ ⦃b:Env⦄ ⦃k:List (Option Str)⦄ ⦃m:Fs⦄,bR c x n A j b k m->∀(g:List iD) (pos:Pos),w6 c b.scope k h g=true->bq c A j (Yk (WL pos (VQ g b))) (Wz er) (lf x n m h)
def tF(e:E)(h:∀n m Q b,¬xT x n m e Q b):ot c x e:=λn A j g k m J J J Q b J q J=>(h _ _ Q b q).elim
def a_k{v:V}:cK c x (.k v):=λn A k j r m S s h=>by
 refine cS (nO (eq_of_beq (bl h))) λa b p g=>?_
 subst g;exact Cy (eq_of_beq (br h))
def a_g{v:V}:cK c x (.g v):=λn A j g k m S r h=>by
 refine eT (jC (eq_of_beq (bl (bl (bl h))))) λy p b=>?_
 subst b;exact nu S.top (eq_of_beq (br (bl (bl h)))) (eq_of_beq (br (bl h))) (br h)
set_option tactic.hygienic true in
def SO{i:Nat}:cK c x (.v i):=λn A r g u m S w h=>by
 refine eT (jC (eq_of_beq (bl (bl (bl h))))) λy p b=>?_
 subst b;intro Q j s q X;dsimp only [xE] at q;split at q
 ·rename_i v k;exact xX S.fr k (eq_of_beq (br (bl (bl h)))) (by simpa using (br h)) (br (bl h)) Q j s q X
 ·exact q.elim
def Pt{j:VP}{l r:E}(k:cK c x l)(s:cK c x r):cK c x (.bin j l r):=λn A z u B m S C h=>by
 refine iy (Bf (eq_of_beq (bl (bl (bl h))))) λD v G p g=>?_
 subst g;have w:=eq_of_beq (br (bl (bl h)));subst w;exact(k S _ (br (bl h))).bind λa=>(bq.holding (s S _ (br h))).bind (W2:=λb Q y=>qG _ (er a) b Q y) λb=>.standAt (.operate (.leaf (Fd _ a b)))
def Rh{e:E}(g:cK c x e):cK c x (.neg e):=λn A s j v m S w h=>by
 refine cS (kG (eq_of_beq (bl (bl h)))) λu y p b=>?_
 subst b;have k:=eq_of_beq (br (bl h));subst k;exact(g S _ (br h)).bind (W2:=λ(a:V) (Q:V->H->Prop) (r:H)=>(match a with|V.int i=>Q (V.int (-i)) r|_=>False)) λa=>.standAt (.holding (.leaf (Hx a)))
def Pq{e:E}(k:cK c x e):cK c x (.not e):=λn A w r z m S B h=>by
 refine cS (kG (eq_of_beq (bl (bl h)))) λu y p g=>?_
 subst g;have s:=eq_of_beq (br (bl h));subst s;refine(k S _ (br h)).bind (W2:=λ(v:V) (Q:V->H->Prop) (j:H)=>bH v (λb j=>Q (V.bool (!b)) j) j) λv=>.standAt (.holding (.holding ?_))
 exact(bq.leaf (iT v)).bind (W2:=λ(b:Bool) (Q:V->H->Prop) (j:H)=>Q (V.bool (!b)) j) λb=>bq.pure
def SD{e:E}(j:ot c x e):ot c x (.not e):=λn A v k w m S z h=>by
 refine cS (kG (eq_of_beq (bl (bl h)))) λu y p g=>?_
 subst g;have r:=eq_of_beq (br (bl h));subst r;exact(j S _ (br h)).bind (W2:=λ(b:Bool) (Q:Bool->H->Prop) (s:H)=>Q (!b) s) λb=>bq.pure
end
end
section
section
variable{c:bo}{x:Cx}
def gX{m:OS}{vs:List (Option Str)}{o:BoolOp}{l r:E}{k:iD}(h:((view k).tag==5&&(view k).bop==o&&(view k).es.length==2&&mE c m vs l ((view k).es.getD 0 default)&&mE c m vs r ((view k).es.getD 1 default))=true):
  ∃a b p,k=.BoolOp o [a,b] p/\mE c m vs l a=true/\mE c m vs r b=true:=by
 refine cS (sW (eq_of_beq (bl (bl (bl (bl h)))))) λu v p g=>?_
 subst g;have s:=eq_of_beq (br (bl (bl (bl h))));subst s;refine eT (nE (eq_of_beq (br (bl (bl h))))) λa b j=>?_
 subst j;exact⟨a,b,p,rfl,(br (bl h)),(br h)⟩
set_option tactic.hygienic true in
def HH{l r:E}(u:cK c x l)(v:cK c x r):cK c x (.and2 l r):=λn A B w C m S D h=>by
 refine uh (gX h) λa b p g y z=>?_
 subst g;refine(u S _ y).bind (W2:=λ(a:V) (Q:V->H->Prop) (j:H)=>match a with|V.bool true=>xE x _ _ r Q j|V.bool false=>Q (V.bool false) j|_=>False) λa=>.standAt ?_
 intro Q j s q X;split at q
 ·rename_i k;have:=ju k;subst this;exact aA (aK (.of (Vm (v S _ z Q j s q X))))
 ·rename_i k;have:=ju k;subst this;exact aA (aK (.of (Vm (aF ⟨.refl s,j,q,X⟩))))
 ·exact q.elim
set_option tactic.hygienic true in
def J4{l r:E}(u:cK c x l)(v:cK c x r):cK c x (.or2 l r):=λn A B w C m S D h=>by
 refine uh (gX h) λa b p g y z=>?_
 subst g;refine(u S _ y).bind (W2:=λ(a:V) (Q:V->H->Prop) (j:H)=>match a with|V.bool false=>xE x _ _ r Q j|V.bool true=>Q (V.bool true) j|_=>False) λa=>.standAt ?_
 intro Q j s q X;split at q
 ·rename_i k;have:=ju k;subst this;exact aA (aK (.of (Vm (v S _ z Q j s q X))))
 ·rename_i k;have:=ju k;subst this;exact aA (aK (.of (Vm (aF ⟨.refl s,j,q,X⟩))))
 ·exact q.elim
def g5{n:Nat}{A:Bs}{pr:PH}{env:Env}{o:BoolOp}{r:E}{g:iD}{m:Fs}(h:bq c A pr (isTrue g env (eval g env)) id (xT x n m r)):bq c A pr (allTrue o [g] env) id (xT x n m r):=by
 intro Q j s q X;refine aA (aJ (h Q j s q X) (λb k z=>?_) λJ J z=>z);induction o<;>induction b<;>exact aF z
def Hb{l r:E}(k:ot c x l)(s:ot c x r):ot c x (.and2 l r):=λn A y u z m S B h=>by
 refine uh (gX h) λa b p g v w=>?_
 subst g;refine(k S _ v).bind (W2:=λ(b:Bool) (Q:Bool->H->Prop) (j:H)=>if b then xT x _ _ r Q j else Q false j) λb=>?_
 induction b
 ·exact bq.pure
 ·exact g5 (s S _ w)
def Le{l r:E}(k:ot c x l)(s:ot c x r):ot c x (.or2 l r):=λn A y u z m S B h=>by
 refine uh (gX h) λa b p g v w=>?_
 subst g;refine(k S _ v).bind (W2:=λ(b:Bool) (Q:Bool->H->Prop) (j:H)=>if b then Q true j else xT x _ _ r Q j) λb=>?_
 induction b
 ·exact g5 (s S _ w)
 ·exact bq.pure
def NF{l k r:E}(u:ot c x l)(v:ot c x k)(w:ot c x r):ot c x (.or3 l k r):=λn A B y C m S D h=>by
 refine cS (sW (eq_of_beq (bl (bl (bl (bl (bl h))))))) λG J p j=>?_
 subst j;have z:=eq_of_beq (br (bl (bl (bl (bl h)))));subst z;refine cS (BG (eq_of_beq (br (bl (bl (bl h)))))) λa b d s=>?_
 subst s;refine(u S _ (br (bl (bl h)))).bind (W2:=λ(b:Bool) (Q:Bool->H->Prop) (g:H)=>if b then Q true g else xT x _ _ k (λb g=>if b then Q true g else xT x _ _ r Q g) g) λb=>?_
 induction b
 ·refine((v S _ (br (bl h))).bind (W2:=λ(b:Bool) (Q:Bool->H->Prop) (g:H)=>if b then Q true g else xT x _ _ r Q g) λb=>?_:bq c _ _ (allTrue .Or [_,_] _) _ _);induction b
  ·exact g5 (w S _ (br h))
  ·exact bq.pure
 ·exact bq.pure
def mk0{b:VY}{e:iD}{z:Sem Value}(h:W8 b e=false):abY b e z=z:=by
 unfold abY;rw [h]
def mk1{b:VY}{e:iD}{env:Env}(h:W8 b e=false):markedEach [b] [e] (evalEach [e] env)= [eval e env]:=congrArg (λz=> [z]) (mk0 h)
def mk2{o b:VY}{d e:iD}{env:Env}(h:W8 b e=false):markedEach [o,b] [d,e] (evalEach [d,e] env)= [eval d env,eval e env]:=congrArg (λz=> [eval d env,z]) (mk0 h)
def sC{j:OS}{vs:List (Option Str)}{k:VY}{l r:E}{m:iD}(h:mE c j vs (.cmp k l r) m=true):∃a b p,m=.Compare a [k] [b] p/\W8 k b=false/\mE c j vs l a=true/\mE c j vs r b=true:=by
 refine iy (qT (eq_of_beq (bl (bl (bl (bl (bl h))))))) λa s v p g=>?_
 subst g;have u:=eq_of_beq (br (bl (bl (bl (bl h)))));subst u;obtain⟨b,rfl⟩:=eD (eq_of_beq (br (bl (bl (bl h)))));exact⟨a,b,p,rfl,((ID _).mp (br (bl (bl h)))),(br (bl h)),(br h)⟩
def qR{m:OS}{vs:List (Option Str)}{s o2:VY}{l k r:E}{u:iD}(h:mE c m vs (.cmp2 s o2 l k r) u=true):∃a b d p,u=.Compare a [s,o2] [b,d] p/\W8 o2 d=false/\mE c m vs l a=true/\mE c m vs k b=true/\mE c m vs r d=true:=by
 refine iy (qT (eq_of_beq (bl (bl (bl (bl (bl (bl h)))))))) λa v x p g=>?_
 subst g;have w:=eq_of_beq (br (bl (bl (bl (bl (bl h))))));subst w;refine eT (nE (eq_of_beq (br (bl (bl (bl (bl h))))))) λb d j=>?_
 subst j;exact⟨a,b,d,p,rfl,((ID _).mp (br (bl (bl (bl h))))),(br (bl (bl h))),(br (bl h)),(br h)⟩
def Kd{k:VY}{l r:E}(G:Good3 c x)(s:cK c x l)(u:cK c x r):cK c x (.cmp k l r):=λn A B v C m S D h=>by
 refine qo (sC h) λa b p g w y z=>?_
 subst g;refine(s S _ y).bind (W2:=λa Q j=>xE x _ _ r (λb j=>cr k a b Q j) j) λa=>?_
 exact mk1 w▸(bq.holding (u S _ z)).bind (W2:=λb Q j=>cr k (er a) b Q j) λb=>.standAt (.operate (.leaf (jv G.toGood S.adm k a b)))
def Oo{k:VY}{l r:E}(G:Good3 c x)(s:cK c x l)(u:cK c x r):ot c x (.cmp k l r):=λn A C w D m S J h=>by
 refine qo (sC h) λa b p j y z B=>?_
 subst j;refine(s S _ z).bind (W2:=λ(a:V) (Q:Bool->H->Prop) (g:H)=>xE x _ _ r (λb g=>cr k a b (λv g=>bH v Q g) g) g) λa=>?_
 refine mk1 y▸ ?_;refine(bq.holding (u S _ B)).bind (W2:=λ(b:V) (Q:Bool->H->Prop) (g:H)=>cr k (er a) b (λv g=>bH v Q g) g) λb=>.standAt ?_
 exact(bq.operate (.leaf (jv G.toGood S.adm k a b))).bind (W2:=λ(v:V) (Q:Bool->H->Prop) (g:H)=>bH v Q g) λv=>.holding (.leaf (iT v))
set_option tactic.hygienic true in
def Hj{u o2:VY}{l k r:E}(G:Good3 c x)(y:cK c x l)(z:cK c x k)(B:cK c x r):cK c x (.cmp2 u o2 l k r):=λn A pr C vs m S e' h=>by
 refine A9 (qR h) λa b d D p M O U Y=>?_
 subst p;refine(y S _ O).bind (W2:=λ(a:V) (Q:V->H->Prop) (j:H)=>xE x n m k (λb j=>cr u a b (λv j=>bH v (λt j=>if t then xE x n m r (λd j=>cr o2 b d Q j) j else Q (.bool false) j) j) j) j) λa=>?_
 refine mk2 M▸ ?_;refine(bq.holding (z S _ U)).bind (W2:=λ(b:V) (Q:V->H->Prop) (j:H)=>cr u (er a) b (λv j=>bH v (λt j=>if t then xE x n m r (λd j=>cr o2 b d Q j) j else Q (.bool false) j) j) j) λb=>.standAt ?_
 refine(bq.holding (.leaf (jv G.toGood S.adm u a b))).bind (W2:=λ(v:V) (Q:V->H->Prop) (j:H)=>bH v (λt j=>if t then xE x n m r (λd j=>cr o2 (er b) d Q j) j else Q (.bool false) j) j) λv=>?_
 intro Q j s q X;refine aD (Wu ?_);refine Gz q λbb q=>?_
 ·
  refine aA (aK (.of (Vm ?_)));induction bb
  ·exact aF ⟨.refl s,j,q,X⟩
  ·exact((bq.holding (B S _ Y)).bind (t:=holding [b] _) (k:=λw=>standAt D>>=λJ=>operate [b,w] (Vv o2 b w)) (g:=er) (W2:=λ(d:V) (Q:V->H->Prop) (j:H)=>cr o2 (er b) d Q j) λd=>.standAt (.operate (.leaf (jv G.toGood S.adm o2 b d)))) Q j s q X
def G7{w o2:VY}{l k r:E}(G:Good3 c x)(D:cK c x l)(M:cK c x k)(O:cK c x r):ot c x (.cmp2 w o2 l k r):=λn A pr U vs m S e' h=>by
 refine A9 (qR h) λa b d Y p h0 h1 h2 h3=>?_
 subst p;refine(D S _ h1).bind (W2:=λ(a:V) (Q:Bool->H->Prop) (j:H)=>xE x n m k (λb j=>cr w a b (λv j=>bH v (λt j=>if t then xE x n m r (λd j=>cr o2 b d (λv j=>bH v Q j) j) j else Q false j) j) j) j) λa=>?_
 refine mk2 h0▸ ?_;refine(bq.holding (M S _ h2)).bind (W2:=λ(b:V) (Q:Bool->H->Prop) (j:H)=>cr w (er a) b (λv j=>bH v (λt j=>if t then xE x n m r (λd j=>cr o2 b d (λv j=>bH v Q j) j) j else Q false j) j) j) λb=>.standAt ?_
 refine(bq.holding (.leaf (jv G.toGood S.adm w a b))).bind (W2:=λ(v:V) (Q:Bool->H->Prop) (j:H)=>bH v (λt j=>if t then xE x n m r (λd j=>cr o2 (er b) d (λv j=>bH v Q j) j) j else Q false j) j) λv=>?_
 intro Q j s q X;refine aD (Wu ?_);refine aA (aJ (aK (.of (iT v _ j s q X))) (λtt s' z=>?_) λJ J z=>z);obtain⟨e,u,y,B⟩:=z;induction tt
 ·exact aF ⟨e,u,y,B⟩
 ·refine aJ (((bq.holding (O S _ h3)).bind (t:=holding [b] _) (k:=λC=>standAt Y>>=λJ=>operate [b,C] (Vv o2 b C)>>=λc=>holding [c] (truthy c)) (g:=id) (W2:=λ(d:V) (Q:Bool->H->Prop) (j:H)=>cr o2 (er b) d (λv j=>bH v Q j) j) λd=>.standAt
    ((bq.operate (.leaf (jv G.toGood S.adm o2 b d))).bind (W2:=λ(v:V) (Q:Bool->H->Prop) (j:H)=>bH v Q j) λv=>.holding (.leaf (iT v)))) Q u s' y B) (λv s2 z2=>?_) λJ J z=>z
  exact z2.from e
def QA{t a b:E}(k:ot c x t)(r:cK c x a)(s:cK c x b):cK c x (.ife t a b):=λn A z u B m S C h=>by
 refine iy (Bu (eq_of_beq (bl (bl (bl h))))) λv w y p g=>?_
 subst g;refine(k S v (br (bl (bl h)))).bind (W2:=λ(d:Bool) (Q:V->H->Prop) (j:H)=>if d then xE x _ _ a Q j else xE x _ _ b Q j) λd=>?_
 induction d
 ·exact s S y (br h)
 ·exact r S w (br (bl h))
def MW{j:Es}(k:we c x j):cK c x (.lst j):=λn A v r g m S w h=>by
 refine eT (DK (eq_of_beq (bl h))) λs p b=>?_
 subst b;exact .standAt ((k S _ _ (br h)).bind (W2:=λg Q u=>g.length<=1000/\fresh (.list g) Q u) λg=>.leaf (xr g))
def KO{j:Es}(r:we c x j):cK c x (.tup j):=λn A w s g m S y h=>by
 refine cS (ek (eq_of_beq (bl h))) λu k p b=>?_
 subst b;exact .standAt ((r S _ _ (br h)).bind (W2:=λg Q v=>g.length<=1000/\fresh (.tuple g) Q v) λg=>.leaf (vF g))
def HZ:cK c x .dct0:=λn A u g v m S w h=>by
 refine cS (zg (eq_of_beq (bl (bl h)))) λy z p b=>?_
 subst b;have j:=List.isEmpty_iff.mp (br (bl h));have k:=List.isEmpty_iff.mp (br h);subst j k;refine .leaf λQ B s q X=>?_
 have r:Enc c (s.heap.push {cls:=.type "dict",data:=.dict #[]}) s.heap.objs.size s.heap.objs.size (.idict λJ=>none):=⟨[],YV s.heap,λJ=>rfl⟩
 exact wpAny_Dict_empty ⟨.mkH s _,_,c8 X q,X.new r rfl⟩
def Hv{v w:Str}{u e2:E}(y:cK c x u)(z:cK c x e2):cK c x (.dct2 v w u e2):=λn A G B J m S M h=>by
 refine cS (zg (eq_of_beq (bl (bl (bl (bl (bl (bl (bl h))))))))) λO Q p g=>?_
 subst g;refine eT (nE (eq_of_beq (br (bl (bl (bl (bl (bl (bl h))))))))) λU Y j=>?_
 subst j;refine eT (nE (eq_of_beq (br (bl (bl (bl (bl (bl h)))))))) λa b k=>?_
 subst k;refine eT (ti (eq_of_beq (br (bl (bl (bl (bl h))))))) λi1 p1 C=>?_
 refine eT (ti (eq_of_beq (br (bl (bl (bl h)))))) λi2 p2 D=>?_
 subst C D;exact Fv (bne_iff_ne.mp (br (bl (bl h)))) (λr s=>y (S.grow s) _ (br (bl h))) λr s=>z (S.grow s) _ (br h)
def CG{e:E}{i:Nat}(G:Good3 c x)(j:cK c x e):cK c x (.attr e i):=λn A u k w m S z h=>by
 refine cS (da (eq_of_beq (bl (bl (bl h))))) λy a p b=>?_
 subst b;have r:=eq_of_beq (br (bl (bl h)));subst r;rw [arm_eval_Attribute,yE ((br (bl h)):wV y=true)];refine(j S _ (br h)).bind (W2:=λa Q g=>vv a i Q g) λa=>.standAt ?_
 refine bq.mono ((bq.holding (.leaf (wS G.toGood2 a i))).bind (W2:=λv Q g=>Q v g) λv=>?_) λQ g q=>q
 exact λQ g s q X=>.of (aS (wpAny_letTemporaryGo (fS ⟨.refl s,g,q,X⟩)))
def NK{o i:E}(k:cK c x o)(r:cK c x i):cK c x (.sub o i):=λn A u s v m S w h=>by
 refine cS (hF (eq_of_beq (bl (bl h)))) λy z p g=>?_
 subst g;exact(k S _ (br (bl h))).bind (W2:=λa Q j=>xE x _ _ i (λb j=>g9 a b Q j) j) λa=>(bq.holding (r S _ (br h))).bind (W2:=λb Q j=>g9 (er a) b Q j) λb=>.standAt (.leaf (Fh _ _ a b))
def pP{e:E}{g:Option iD}(j:cK c x e){n:Nat}{A:Bs}{pr:PH}{env:Env}{vs:List (Option Str)}{m:Fs}(S:bR c x n A pr env vs m)(h:qI g e.isNoneK (λy=>mE c env.scope vs e y)=true):
  bq c A pr (valueOrNone (evalOpt g env)) er (xE x n m e):=by
 rcases xu h with⟨rfl,b⟩|⟨y,rfl,b⟩
 ·exact xC b▸bq.pure (f:=er) (v:=Value.none)
 ·exact j S _ b
def s8{j:OS}{vs:List (Option Str)}{o lo k:E}{b:iD}(h:((view b).tag==12&&(view (view b).e1).tag==13&&(view (view b).e1).o2.isNone&&mE c j vs o (view b).e0&&qI (view (view b).e1).o0 lo.isNoneK (λy=>mE c j vs lo y)&&qI (view (view b).e1).o1 k.isNoneK (λy=>mE c j vs k y))=true):
  ∃r l u m p,b=.Subscript r (.Slice l u none m) p/\mE c j vs o r=true/\qI l lo.isNoneK (λy=>mE c j vs lo y)=true/\qI u k.isNoneK (λy=>mE c j vs k y)=true:=by
 refine cS (hF (eq_of_beq (bl (bl (bl (bl (bl h))))))) λy z p g=>?_
 subst g;refine iy (Ct (eq_of_beq (br (bl (bl (bl (bl h))))))) λl u st m s=>?_
 subst s;have v:=Option.isNone_iff_eq_none.mp (br (bl (bl (bl h))));subst v;exact⟨y,l,u,m,p,rfl,(br (bl (bl h))),(br (bl h)),(br h)⟩
def Q2{o lo k:E}(B:cK c x o)(r:cK c x lo)(w:cK c x k):cK c x (.slc o lo k):=λn A pr C vs m S e' h=>by
 refine NJ (s8 h) λo' l' u' p2 p g D G M=>?_
 subst g;refine(B S _ D).bind (W2:=λ(a:V) (Q:V->H->Prop) (j:H)=>xE x n m lo (λb j=>xE x n m k (λd j=>jP a b d Q j) j) j) λa=>?_
 intro Q j s q X;refine aA (aK (aA (aJ ((pP r S G) _ j s q X) (λl O z=>?_) λJ J z=>z)));obtain⟨U,y,Y,X1⟩:=z;refine aA (aJ (aK ((pP w S M) _ y O Y X1)) (λu s2 z=>?_) λJ J z=>z);obtain⟨e2,aa,q2,X2⟩:=z;refine aA (aK (aF (a:=Value.none) ?_));refine .of (VJ (.of ?_));refine aS (wpAny_standAt (UZ (Eg _ _ a l u q2 X2) (λv s3 z=>?_) λJ J z=>z));exact z.from ((U.trans e2))
def Aq{f:E}{as:Es}(G:Good3 c x)(r:cK c x f)(g:we c x as):cK c x (.call f as):=λn A z s k m S B h=>by
 refine iy (jw (eq_of_beq (bl (bl (bl (bl h)))))) λu v C p b=>?_
 subst b;have w:=List.isEmpty_iff.mp (br (bl (bl (bl h))));subst w;rw [pC (bne_iff_ne.mp (br (bl (bl h))):(view u).tag≠11)];refine(r S _ (br (bl h))).bind (W2:=λf Q j=>lf x n m as (λk j=>ki x n f k Q j) j) λy=>?_
 exact EN G S (br h) (g S _ _ (br h)) y
def OZ{o:E}{i:Nat}{as:Es}(G:Good3 c x)(r:cK c x o)(j:we c x as):cK c x (.mc o i as):=λn A C s p m S D h=>by
 refine iy (jw (eq_of_beq (bl (bl (bl (bl (bl (bl (bl (bl h)))))))))) λJ u M pos b=>?_
 subst b;have v:=List.isEmpty_iff.mp (br (bl (bl (bl (bl (bl (bl (bl h))))))));subst v;refine cS (da (eq_of_beq (br (bl (bl (bl (bl (bl (bl h))))))))) λw a O y=>?_
 subst y;have z:=eq_of_beq (br (bl (bl (bl (bl (bl h))))));subst z;rw [xk,yE ((br (bl (bl (bl (bl h))))):wV w=true)];refine(r S _ (br (bl h))).bind (W2:=λ(a:V) (Q:V->H->Prop) (g:H)=>match et x g a i with|some k=>lf x n m as (λp g=>Fm x n a k i p Q g) g|none=>False) λB=>.standAt ?_
 exact BB G S (beq_iff_eq.mpr ((eq_of_beq (br (bl (bl (bl h))))))) (EX (br (bl (bl h)))) (br h) (j S _ _ (br h)) B
def Bi{A:Bs}{pr:PH}{env:Env}{b:iD}{p:Pos}{W:PT V}(j:isTrue b env (eval b env)=(do let v <-eval b env;standAt p;holding [v] (truthy v)))(h:bq c A pr (eval b env) er W):bq c A pr (isTrue b env (eval b env)) id (λQ g=>W (λv g=>bH v Q g) g):=by
 rw [j];exact h.bind (W2:=λ(v:V) (Q:Bool->H->Prop) (g:H)=>bH v Q g) λv=>.standAt (.holding (.leaf (iT v)))
end
end
section
section
variable{c:bo}{x:Cx}
structure Cm(c:bo)(sc:OS)(vs:List (Option Str))(elt:E)(ts:List Nat)(it cc:E)(elt' tgt iter:iD)(ifs:List iD)(sc':OS)(tn:List Str):Prop where
 ok:gc sc' sc tn (kZ vs tn ts)=true
 ns:s9 iter=true
 mb:mB (bA sc' sc) (kZ vs tn ts) ts tgt=true
 tso:Ap (kZ vs tn ts) tn ts=true
 it:mE c sc vs it iter=true
 elt:mE c (bA sc' sc) (kZ vs tn ts) elt elt'=true
 ifs:z6 ifs cc.isTrueK (λy=>mE c (bA sc' sc) (kZ vs tn ts) cc y)=true
def ra{u:OS}{vs:List (Option Str)}{s v w:E}{x:List Nat}{y:iD}(h:mE c u vs (.comp s x v w) y=true):
  ∃b j g k m p,y=.ListComp b [⟨j,g,k,0⟩] m p/\Cm c u vs s x v w b j g k m (l6 j):=by
 refine iy (iP (eq_of_beq (bl (bl h)))) λb z m p r=>?_
 subst r;obtain⟨⟨j,g,k,a⟩,rfl⟩:=eD (eq_of_beq (br (bl h)));obtain rfl:a=0:=eq_of_beq (bl (bl (bl (bl (bl (bl (bl h)))))));exact⟨b,j,g,k,m,p,rfl,br (bl (bl (bl (bl (bl (bl h)))))),br (bl (bl (bl (bl (bl h))))),br (bl (bl (bl (bl h)))),br (bl (bl (bl h))),br (bl (bl h)),br (bl h),br h⟩
def vW{k B p:E}{v:List Nat}{b r g:iD}{h:List iD}{w j:OS}{vs:List (Option Str)}{z:List Str}{n:Nat}{A:Bs}{pr:PH}{env:Env}{m:Fs}(K:Cm c w vs k v B p b r g h j z)(C:ot c x p)
  (S:bR c x n A pr env (kZ vs z v) m) (D:env.scope=bA j w):bq c A pr (fO h env) id (xT x n m p):=by
 rcases qz K.ifs with⟨s,u⟩|⟨y,s,u⟩
 ·rw [s,qe u];exact sj
 ·exact s▸wW (C S y (by refine D▸ ?_;exact u))
def HA{b z B:E}{ts:List Nat}(he:cK c x b)(hi:cK c x z)(ht:ot c x B):cK c x (.comp b ts z B):=λn A pr aa vs m S e' h=>by
 obtain⟨j,ab,r,ac,ae,p,rfl,K⟩:=ra h;intro Q σ s q X;exact vc (WI:=xE x n m z) (T:=λu=>xT x n u B) (EA:=λu=>xE x n u b) S K.ok K.ns K.mb (pZ K.tso) q.1 (hi S r K.it) (λv w u G g=>vW K ht G g) (λv w u G g=>he G j (by exact g▸K.elt)) q.2 X
  λD C af s' v J k oC mC e hf X' hD hC hn M O U y=>⟨mC,hn,λh' Y=>⟨e.trans (.mkH s' h'),_,hf D (X'.sNone hD),sM X X' hD hC M O U y Y⟩⟩
def CH:we c x .nil:=λn A j b k m S g pos h=>by
 exact y9 h▸bq.pure
def yP{e:E}{k:Es}(p:cK c x e)(s:we c x k):we c x (.cons e k):=λn A u w j m S z pos h=>by
 refine Qj (vT h) λy r b B C D=>?_
 subst b;rw [zn B];refine(p S y C).bind (W2:=λv Q g=>lf x n m k (λj g=>Q (v::j) g) g) λv=>?_
 exact(bq.holding (s S r pos D)).bind (W2:=λj Q g=>Q (er v::j) g) λl=>by
  exact(bq.pure (c:=c) (A:=A) (pr:=u) (f:=Wz er) (v:= [v]++l))
structure Jd(c:bo)(sc:OS)(vs:List (Option Str))(i:Nat)(it cc:E)(elt' tgt arg:iD)(y:Str)(ifs:List iD)(sc':OS)(tn:List Str):Prop where
 ok:gc sc' sc tn (kZ vs tn [i])=true
 mb:mB (bA sc' sc) (kZ vs tn [i]) [i] tgt=true
 tso:Ap (kZ vs tn [i]) tn [i]=true
 star:cN arg=false
 f1:sc.names.lookup y=some .globalImplicit
 f2:DR c.K y=some (.ty "set")
 f3:(y !=("__debug__" :Str))=true
 it:mE c sc vs it arg=true
 elt:mE c (bA sc' sc) (kZ vs tn [i]) (.v i) elt'=true
 ifs:z6 ifs cc.isTrueK (λy=>mE c (bA sc' sc) (kZ vs tn [i]) cc y)=true
def oM{z:OS}{vs:List (Option Str)}{i:Nat}{A B:E}{C:iD}(h:mE c z vs (.compS i A B) C=true):
  ∃b g y v arg x j k p,C=.ListComp b [⟨g,.Call (.Name y v) [arg] [] x,j,0⟩] k p/\Jd c z vs i A B b g arg y j k (l6 g):=by
 refine iy (iP (eq_of_beq (bl (bl h)))) λb D k p r=>?_
 subst r;obtain⟨⟨g,u,j,a⟩,rfl⟩:=eD (eq_of_beq (br (bl h)));obtain rfl:a=0:=eq_of_beq (bl (bl (bl (bl (bl (bl (bl (br h))))))));refine iy (jw (e:=u) (eq_of_beq (bl (bl (bl (bl (bl (bl (bl (br (bl (bl (bl (bl (bl (br h)))))))))))))))) λf G J x s=>?_
 subst s;obtain rfl:J= []:=List.isEmpty_iff.mp (br (bl (bl (bl (bl (bl (bl (br (bl (bl (bl (bl (bl (br h))))))))))))));obtain⟨arg,rfl⟩:=eD (l:=G) (eq_of_beq (br (bl (bl (bl (bl (bl (br (bl (bl (bl (bl (bl (br h))))))))))))));refine eT (jC (e:=f) (eq_of_beq (br (bl (bl (bl (br (bl (bl (bl (bl (bl (br h))))))))))))) λy v m=>?_
 subst m;have w:=(br (bl (bl (bl (bl (bl (br h)))))))
 exact⟨b,g,y,v,arg,x,j,k,p,rfl,(br (bl (bl (bl (bl (bl (bl h))))))),(br (bl (bl (bl (bl h))))),(br (bl (bl (bl h)))),(ID _).mp (br (bl (bl (bl (bl w))))),eq_of_beq (br (bl (bl w))),eq_of_beq (br (bl w)),br w,(br (bl (bl h))),(br (bl h)),br h⟩
def u6{i:Nat}{w cc:E}{B C arg:iD}{y:Str}{G:List iD}{M:OS}{tn:List Str}{n:Nat}{A:Bs}{pr:PH}{env:Env}{vs:List (Option Str)}{m:Fs}{p1 p2:Pos}{bind:H->V->Option Fs}{T:Fs->PT Bool}{EA:Fs->PT V}{Q:V->H->Prop}{g:H}{s:bS}
  (S:bR c x n A pr env vs m) (K:Jd c env.scope vs i w cc B C arg y G M tn) (hi:cK c x w) (X:I c pr g s.heap)
  (q:xE x n m w (λv g=>match v with
   | .ref a=>(match g a with
    |some (.list xs)=>xs.all V.isInt=true/\xs.length<=1000/\(∀z,V.int z∈xs->0<=z/\z<64)/\(∃a b:Int,∀z,V.int z∈xs->z=a\/z=b)/\∀ys:List Int,ys.Nodup->(∀z,z∈ys↔V.int z∈xs)->iO (.set ys) bind T EA Q g
    |_=>False)
   |_=>False) g):
  bD (pR c.prog c.w) A (eval (.Call (.Name y p1) [arg] [] p2) env) (λxv O=>tL (pR c.prog c.w) A (W7 xv) (λU s2=>∃w o σ1 Y k It,S9 c A pr C s bind T EA Q U s2 w o σ1 Y k It) No O) No s:=by
 refine aA (aJ (nu (A:=A) (pr:=pr) S.top K.f1 K.f2 K.f3 (λv p=>v=.ty "set" /\p=g) g s ⟨rfl,rfl⟩ X) (λfv O z=>?_) λJ J z=>z);obtain⟨e1,p,⟨hv,rfl⟩,X1⟩:=z;obtain rfl:=C6 hv;have D:w6 c env.scope vs (.cons w .nil) [arg]=true:=by
  unfold w6;simp only [UQ,ID];exact⟨⟨⟨rfl,K.star⟩,K.it⟩,rfl⟩
 refine gW (P:=λh=>∃k,(k=Xs\/k=Xa\/k=WA)/\Y6 (pR c.prog c.w) h (aar (.type "set")) k) (fQ D) (λh z=>z) ?_
 refine aJ (yP hi CH S [arg] p2 D (λvs g=>match vs with
   | [v]=>(match v with
    | .ref a=>(match g a with
     |some (.list xs)=>xs.all V.isInt=true/\xs.length<=1000/\(∀z,V.int z∈xs->0<=z/\z<64)/\(∃a b:Int,∀z,V.int z∈xs->z=a\/z=b)/\∀ys:List Int,ys.Nodup->(∀z,z∈ys↔V.int z∈xs)->iO (.set ys) bind T EA Q g
     |_=>False)
    |_=>False)
   |_=>False) p O q X1) (λcu s2 z=>⟨⟨.machine,.inr (.inl rfl),Vy rfl⟩,?_⟩) λJ J z=>z
 obtain⟨e2,aa,z,X2⟩:=z;rcases cu with _|⟨pv,r⟩
 ·exact z.elim
 ·induction r with
  |cons _ _=>exact z.elim
  |nil=>
   dsimp only [Wz] at z;generalize ha:er pv=zz;induction zz with
   |ref a=>
    rw [ha] at z;dsimp only at z;obtain rfl:=bK ha;generalize hx:aa a=zz;induction zz with
    |none=>rw [hx] at z;exact z.elim
    |some o=>
     have z:=hx▸z;induction o with
     |list xs=>
      refine nj z λh1 J h3 j h5=>?_
      refine eT j λu v h4=>?_
      exact DW S.adm.hd (e1.trans e2) X2 hx h1 h3 h4 h5
     |_=>exact z.elim
   |_=>rw [ha] at z;exact z.elim
def sx{i:Nat}{v j:E}{b k arg:iD}{y:Str}{g:List iD}{s h:OS}{vs:List (Option Str)}{u:List Str}{n:Nat}{A:Bs}{pr:PH}{env:Env}{m:Fs}(K:Jd c s vs i v j b k arg y g h u)(w:ot c x j)
  (S:bR c x n A pr env (kZ vs u [i]) m) (z:env.scope=bA h s):bq c A pr (fO g env) id (xT x n m j):=by
 rcases qz K.ifs with⟨p,r⟩|⟨y,p,r⟩
 ·rw [p,qe r];exact sj
 ·exact p▸wW (w S y (by refine z▸ ?_;exact r))
def Fq{i:Nat}{Y w:E}(hi:cK c x Y)(ht:ot c x w):cK c x (.compS i Y w):=λn A pr aa vs m S e' h=>by
 obtain⟨g,ab,y,p1,arg,p2,ac,ae,p,rfl,K⟩:=oM h;intro Q σ s q X;exact mK (T:=λj=>xT x n j w) (EA:=λj=>xE x n j (.v i)) S K.ok (λJ=>rfl) K.mb (pZ K.tso) q.1 (u6 S K hi X q.2) (λr u j z b=>sx K ht z b) (λr u j z b=>SO z g (by exact b▸K.elt))
  λD C af s' r B k oC mC e hf X' hD hC hn G M O v=>⟨mC,hn,λh' U=>⟨e.trans (.mkH s' h'),_,hf D (X'.sNone hD),sM X X' hD hC G M O v U⟩⟩
def HU:cK c x .dead:=λn A g b h m J J J Q j s q X=>q.elim
def OJ{l k r:E}:cK c x (.or3 l k r):=λn A g b h m J J J Q j s q X=>q.elim
def t_k{v:V}:ot c x (.k v):=λn A s j u m S k h=>by
 have r:=a_k S k h;refine cS (nO (eq_of_beq (bl h))) λa b p g=>?_
 subst g;exact Bi rfl r
def t_v{i:Nat}:ot c x (.v i):=λn A r g s m S j h=>by
 have k:=SO S j h;refine eT (jC (eq_of_beq (bl (bl (bl h))))) λy p b=>?_
 subst b;refine bq.mono (Bi rfl k) λQ u q=>?_
 exact q
def H0{e:E}{i:Nat}(g:cK c x (.attr e i)):ot c x (.attr e i):=λn A r j s m S k h=>by
 have g:=g S k h;refine cS (da (eq_of_beq (bl (bl (bl h))))) λy a p b=>?_
 subst b;exact Bi rfl g
def Iz{f:E}{as:Es}(j:cK c x (.call f as)):ot c x (.call f as):=λn A s k u m S r h=>by
 have j:=j S r h;refine iy (jw (eq_of_beq (bl (bl (bl (bl h)))))) λa b d p g=>?_
 subst g;exact Bi rfl j
def To{o:E}{i:Nat}{as:Es}(j:cK c x (.mc o i as)):ot c x (.mc o i as):=λn A s k u m S r h=>by
 have j:=j S r h;refine iy (jw (eq_of_beq (bl (bl (bl (bl (bl (bl (bl (bl h)))))))))) λa b d p g=>?_
 subst g;exact Bi rfl j
mutual
theorem dq(G:Good3 c x):∀e:E,cK c x e/\ot c x e
 | .k v=>⟨a_k,t_k⟩
 | .v i=>⟨SO,t_v⟩
 | .g v=>⟨a_g,tF (x:=x) (.g v) λJ J J J q=>q⟩
 | .bin s l r=>⟨Pt (dq G l).1 (dq G r).1,tF (x:=x) (.bin s l r) λJ J J J q=>q⟩
 | .neg e=>⟨Rh (dq G e).1,tF (x:=x) (.neg e) λJ J J J q=>q⟩
 | .not e=>⟨Pq (dq G e).1,SD (dq G e).2⟩
 | .and2 l r=>⟨HH (dq G l).1 (dq G r).1,Hb (dq G l).2 (dq G r).2⟩
 | .or2 l r=>⟨J4 (dq G l).1 (dq G r).1,Le (dq G l).2 (dq G r).2⟩
 | .or3 l k r=>⟨OJ,NF (dq G l).2 (dq G k).2 (dq G r).2⟩
 | .cmp s l r=>⟨Kd G (dq G l).1 (dq G r).1,Oo G (dq G l).1 (dq G r).1⟩
 | .cmp2 C D l k r=>⟨Hj G (dq G l).1 (dq G k).1 (dq G r).1,G7 G (dq G l).1 (dq G k).1 (dq G r).1⟩
 | .ife t a b=>⟨QA (dq G t).2 (dq G a).1 (dq G b).1,tF (x:=x) (.ife t a b) λJ J J J q=>q⟩
 | .lst g=>⟨MW (yx G g),tF (x:=x) (.lst g) λJ J J J q=>q⟩
 | .tup g=>⟨KO (yx G g),tF (x:=x) (.tup g) λJ J J J q=>q⟩
 | .dct0=>⟨HZ,tF (x:=x) (.dct0) λJ J J J q=>q⟩
 | .dct2 z A u w=>⟨Hv (dq G u).1 (dq G w).1,tF (x:=x) (.dct2 z A u w) λJ J J J q=>q⟩
 | .attr e i=>⟨CG G (dq G e).1,H0 (CG G (dq G e).1)⟩
 | .sub o i=>⟨NK (dq G o).1 (dq G i).1,tF (x:=x) (.sub o i) λJ J J J q=>q⟩
 | .slc o lo y=>⟨Q2 (dq G o).1 (dq G lo).1 (dq G y).1,tF (x:=x) (.slc o lo y) λJ J J J q=>q⟩
 | .call f h=>⟨Aq G (dq G f).1 (yx G h),Iz (Aq G (dq G f).1 (yx G h))⟩
 | .mc o i h=>⟨OZ G (dq G o).1 (yx G h),To (OZ G (dq G o).1 (yx G h))⟩
 | .comp j B m p=>⟨HA (dq G j).1 (dq G m).1 (dq G p).2,tF (x:=x) (.comp j B m p) λJ J J J q=>q⟩
 | .compS i m p=>⟨Fq (dq G m).1 (dq G p).2,tF (x:=x) (.compS i m p) λJ J J J q=>q⟩
 | .dead=>⟨HU,tF (x:=x) (.dead) λJ J J J q=>q⟩
theorem yx(G:Good3 c x):∀b:Es,we c x b
 | .nil=>CH
 | .cons e b=>yP (dq G e).1 (yx G b)
end
def dZ(G:Good3 c x){n:Nat}{A:Bs}{pr:PH}{env:Env}{vs:List (Option Str)}{m:Fs}(S:bR c x n A pr env vs m)(e:E)(b:iD)(h:mE c env.scope vs e b=true):bq c A pr (eval b env) er (xE x n m e):=(dq G e).1 S b h
def Gf(G:Good3 c x){n:Nat}{A:Bs}{pr:PH}{env:Env}{vs:List (Option Str)}{m:Fs}(S:bR c x n A pr env vs m)(e:E)(b:iD)(h:mE c env.scope vs e b=true):bq c A pr (isTrue b env (eval b env)) id (xT x n m e):=(dq G e).2 S b h
end
end
section
noncomputable def dC(e:iD):Bool:=(view e).tag==15||(view e).tag==0
noncomputable def Ec(e:iD):Bool:=(view e).tag==2
noncomputable def gf:List Nat->Bool
 | []=>true
 |i::r=> !r.contains i&&gf r
noncomputable def tz(vs:List iD):Bool:=vs.any (λ| .Starred .. =>true|_=>false)
noncomputable def yh(b:OS)(l:Nat):iD->Option Str
 | .Name id pos=>if b.names.lookup id==some .local&&pos.line==l then some id else none
 |_=>none
noncomputable def fM(c:OS)(b:List iD):List Str:=b.filterMap (yh c ((b.head?.map (·.pos.line)).getD 0))
noncomputable def HS(sc:OS)(ts vs:List iD):Option (List Str):=
 if !(ts.length==2||ts.length==3)||vs.length !=ts.length||sc.kind !=.function then none
 else if tz vs=true then none
 else if ((fM sc ts).length !=ts.length||(fM sc ts).eraseDups.length !=(fM sc ts).length)=true then none
 else if vs.all (foldedForSure 8) then none
 else some (fM sc ts)
noncomputable def BV(vs:List iD):Bool:=vs.all (foldedForSure 8)|| !vs.all (abZ 8)
set_option tactic.hygienic true in
def qn{env:Env}{c vs:List iD}{a b:Nat}{p q:Pos}(k:env.blockKind=env.scope.kind)(h:BV vs=true):V7 [.Tuple c a p] (.Tuple vs b q) env=pure (HS env.scope c vs):=by
 delta V7 HS;dsimp only;refine k▸ ?_;split
 ·rfl
 ·split
  ·rename_i g;have g:tz vs=true:=g;rw [eX g]
  ·rename_i g;have g:¬tz vs=true:=g;split
   ·rename_i j;have j:((fM env.scope c).length !=c.length||(fM env.scope c).eraseDups.length !=(fM env.scope c).length)=true:=j;rw [eX j]
   ·rename_i j;refine if_neg j▸ ?_;split
    ·rfl
    ·rename_i m;have:vs.all (abZ 8)=false:=by
      rcases Bool.or_eq_true_iff.mp h with h|h
      ·exact absurd h m
      ·simpa using h
     rw [this];rfl
structure Sw where
 tag:Nat
 p:Pos:=default
 e0:Expr:=default
 e1:Expr:=default
 o:Option Expr:=none
 ts:List Expr:= []
 op:Operator:=.Add
 b:List Stmt:= []
 c:List Stmt:= []
 d:List Stmt:= []
 hs:List ExceptHandler:= []
noncomputable def aR:WE->Sw
 | .Return o p=>{tag:=1,o:=o,p:=p}
 | .Assign j g p=>{tag:=2,ts:=j,e0:=g,p:=p}
 | .AugAssign g k h p=>{tag:=3,e0:=g,op:=k,e1:=h,p:=p}
 | .For g h b c p=>{tag:=4,e0:=g,e1:=h,b:=b,c:=c,p:=p}
 | .While g b c p=>{tag:=5,e0:=g,b:=b,c:=c,p:=p}
 | .If g b c p=>{tag:=6,e0:=g,b:=b,c:=c,p:=p}
 | .Try b m c d p=>{tag:=7,b:=b,hs:=m,c:=c,d:=d,p:=p}
 | .Expr g p=>{tag:=8,e0:=g,p:=p}
 | .Break p=>{tag:=9,p:=p}
 |_=>{tag:=0}
noncomputable def FH(n:Nat)(v:Sw):Stmt:=match n with
 |1=>.Return v.o v.p
 |2=>.Assign v.ts v.e0 v.p
 |3=>.AugAssign v.e0 v.op v.e1 v.p
 |4=>.For v.e0 v.e1 v.b v.c v.p
 |5=>.While v.e0 v.b v.c v.p
 |6=>.If v.e0 v.b v.c v.p
 |7=>.Try v.b v.hs v.c v.d v.p
 |8=>.Expr v.e0 v.p
 |9=>.Break v.p
 |_=>default
def xG(e:WE)(h:(aR e).tag≠0):e=FH (aR e).tag (aR e):=by rcases e with⟨⟩<;>first|rfl|exact absurd rfl h
def cZ{e:WE}{n:Nat}(h:(aR e).tag=n+1):e=FH (n+1) (aR e):=h▸xG e (h▸VN n)
def qE{e:WE}(h:(aR e).tag=1):∃b c,e=.Return b c:=⟨_,_,cZ h⟩
def k9{e:WE}(h:(aR e).tag=2):∃b c g,e=.Assign b c g:=⟨_,_,_,cZ h⟩
def rN{e:WE}(h:(aR e).tag=3):∃b c g j,e=.AugAssign b c g j:=⟨_,_,_,_,cZ h⟩
def uI{e:WE}(h:(aR e).tag=4):∃b c g j k,e=.For b c g j k:=⟨_,_,_,_,_,cZ h⟩
def zJ{e:WE}(h:(aR e).tag=5):∃b c g j,e=.While b c g j:=⟨_,_,_,_,cZ h⟩
def Jg{e:WE}(h:(aR e).tag=6):∃b c g j,e=.If b c g j:=⟨_,_,_,_,cZ h⟩
def ET{e:WE}(h:(aR e).tag=7):∃b c g j k,e=.Try b c g j k:=⟨_,_,_,_,_,cZ h⟩
def Dh{e:WE}(h:(aR e).tag=8):∃b c,e=.Expr b c:=⟨_,_,cZ h⟩
def zP{e:WE}(h:(aR e).tag=9):∃b,e=.Break b:=⟨_,cZ h⟩
noncomputable def mT(k:bo)(b:OS)(vs:List (Option Str)):T->Expr->Bool
 | .v i,e=>NP b vs i e
 | .attr o i,e=>(view e).tag==11&&k.nm i==(view e).s&&mE k b vs o (view e).e0
 | .sub o i,e=>(view e).tag==12&&mE k b vs o (view e).e0&&mE k b vs i (view e).e1
 | .slc o lo c,e=>(view e).tag==12&&(view (view e).e1).tag==13&&(view (view e).e1).o2.isNone&&mE k b vs o (view e).e0&&qI (view (view e).e1).o0 lo.isNoneK (λy=>mE k b vs lo y)&&qI (view (view e).e1).o1 c.isNoneK (λy=>mE k b vs c y)
noncomputable def gy(e:Expr):Bool:=(view e).tag==9
noncomputable def mSw(v:Expr):Bool:= !gy v||BV (view v).es
noncomputable def El(b:OS)(c:List Expr)(v:Expr):Bool:= !gy v||(BV (view v).es&&(HS b c (view v).es).isNone)
noncomputable def S8(k:bo)(b:OS)(e:Expr):Bool:=(view e).tag==14&&(view e).kws.isEmpty&&(view e).es.length==1&&(view (view e).e0).tag==2&&b.names.lookup (view (view e).e0).s==some .globalImplicit&&DR k.K (view (view e).e0).s==some (.ty "enumerate")&&(view (view e).e0).s !=("__debug__" :Str)&& !cN ((view e).es.headD default)
mutual
noncomputable def mS(k:bo)(c:OS)(vs:List (Option Str)):S->WE->Bool
 | .ex e,st=>(aR st).tag==8&& !dC (aR st).e0&&mE k c vs e (aR st).e0
 | .asg t e,st=>(aR st).tag==2&&(aR st).ts.length==1&& !gy ((aR st).ts.headD default)&&mT k c vs t ((aR st).ts.headD default)&&mE k c vs e (aR st).e0
 | .asgN h e,st=>(aR st).tag==2&&(aR st).ts.length==1&&gy ((aR st).ts.headD default)&&gf h&&mB c vs h ((aR st).ts.headD default)&& !dC (aR st).e0&&mSw (aR st).e0&&mE k c vs e (aR st).e0
 | .asgT t u e,st=>(aR st).tag==2&&(aR st).ts.length==1&&gy ((aR st).ts.headD default)&&(let l:=(view ((aR st).ts.headD default)).es
   l.length==2&& !cN (l.getD 0 default)&& !cN (l.getD 1 default)&&mT k c vs t (l.getD 0 default)&&mT k c vs u (l.getD 1 default)&& !dC (aR st).e0&&El c l (aR st).e0&&mE k c vs e (aR st).e0)
 | .augA o i j e,st=>(aR st).tag==3&&(view (aR st).e0).tag==11&&k.nm i==(view (aR st).e0).s&&j==(aR st).op&&mE k c vs o (view (aR st).e0).e0&&mE k c vs e (aR st).e1
 | .ite t a b,st=>(aR st).tag==6&&mE k c vs t (aR st).e0&&Al k c vs a (aR st).b&&Al k c vs b (aR st).c
 | .whl t b,st=>(aR st).tag==5&&(aR st).c.isEmpty&&mE k c vs t (aR st).e0&&Al k c vs b (aR st).b
 | .forIn h g b,st=>(aR st).tag==4&&(aR st).c.isEmpty&&s9 (aR st).e1&&mB c vs h (aR st).e0&&mE k c vs g (aR st).e1&&Al k c vs b (aR st).b
 | .forEn p q g b,st=>(aR st).tag==4&&(aR st).c.isEmpty&&gy (aR st).e0&&yR c vs [p,q] (view (aR st).e0).es&&S8 k c (aR st).e1&&mE k c vs g ((view (aR st).e1).es.headD default)&&Al k c vs b (aR st).b
 | .forEn0 g,st=>(aR st).tag==4&&(aR st).c.isEmpty&&S8 k c (aR st).e1&&mE k c vs g ((view (aR st).e1).es.headD default)
 | .ret e,st=>(aR st).tag==1&&(aR st).o.isSome&&mE k c vs e ((aR st).o.getD default)
 | .ret0,st=>(aR st).tag==1&&(aR st).o.isNone
 | .brk,st=>(aR st).tag==9
 | .tr b,st=>(aR st).tag==7&&(aR st).c.isEmpty&&(aR st).d.isEmpty&&Al k c vs b (aR st).b
 | .dead,_=>true
noncomputable def Al(k:bo)(c:OS)(vs:List (Option Str)):Ss->List WE->Bool
 | .nil,b=>b.isEmpty
 | .cons s g,b=> !b.isEmpty&&mS k c vs s (b.headD default)&&Al k c vs g b.tail
end
inductive SS:Flow->Fl->Prop
 |next:SS .next .next
 |brk:SS .brk .brk
 |ret (v:Value):SS (.ret v) (.ret (er v))
inductive gF(c:bo)(env:Env)(vs:List (Option Str))(pr:PH)(Q:Fl->Fs->H->Prop)(s:bS)(f:Flow)(s':bS):Prop
 |mk (fl:Fl) (pr':PH) (m':Fs) (σ':H) (e:aU s s') (r:SS f fl) (q:Q fl m' σ') (X:I c pr' σ' s'.heap) (F:fg c env vs pr' m') (h:∀b,¬Fa env b->pr' b=pr b):gF c env vs pr Q s f s'
section
variable{c:bo}{A:Bs}{env:Env}{vs:List (Option Str)}{x:Cx}{n:Nat}
def gF.from{pr g:PH}{Q:Fl->Fs->H->Prop}{s m p:bS}{f:Flow}(h:gF c env vs g Q m f p)(e:aU s m)(hp:∀b,¬Fa env b->g b=pr b):gF c env vs pr Q s f p:=by
 obtain⟨u,j,v,k,w,x,y,z,A,B⟩:=h;exact⟨u,j,v,k,e.trans w,x,y,z,A,λb r=>(B b r).trans (hp b r)⟩
def ma{M:VX}{E:Value->bS->Prop}{s:bS}{b:YM}{Q:Flow->bS->Prop}(g:dec b=false)(h:co M A b (λr c=>match r with| .ok f=>Q f c| .error _=>False) s):bD M A (aaV b env) Q E s:=by
 refine bI (yL g (eF h λr c z=>?_));induction r with
 |ok f=>exact z
 |error e=>exact z.elim
def iR{v:iD}(h:dC v=false)(t:Option iD)(l:Nat):swapsWith v t l env=pure false:=by
 rcases v with⟨⟩<;>first|(exact xF h;done)|rfl
noncomputable abbrev LW(c:bo)(env:Env)(vs:List (Option Str))(pr:PH)(Q:Unit->Fs->H->Prop)(s:bS):Unit->bS->Prop:=λJ j=>∃g k h,aU s j/\Q () k h/\I c g h j.heap/\fg c env vs g k/\∀b,¬Fa env b->g b=pr b
abbrev Av(c:bo)(x:Cx)(t:T):Prop:=∀ {n:Nat} {A:Bs} {env:Env} {vs:List (Option Str)} {b:PH} {m:Fs},bR c x n A b env vs m->∀(g:iD),mT c env.scope vs t g=true->∀(v:Value) (Q:Unit->Fs->H->Prop) (h:H) (s:bS),Dx x n t (er v) Q m h->I c b h s.heap->
  bD (pR c.prog c.w) A (Xm g env v) (LW c env vs b Q s) No s
def UM{i:Nat}:Av c x (.v i):=λS B h v Q k s q X=>by
 refine lC (nx h) λy p g m r=>?_
 subst g;exact .of (js S.top S.fr m r X λC j e u w hp=>⟨j,_,k,e,q,u,w,λb A=>hp b λz=>A z.fa⟩)
def Ft(G:Good3 c x){o:E}{i:Nat}:Av c x (.attr o i):=λ{n A env vs k m} S Y h v Q r s q X=>by
 refine cS (da (eq_of_beq (bl (bl h)))) λo' a p b=>?_
 subst b;have u:=eq_of_beq (br (bl h));subst u;refine aA (aK (aJ (dZ G S o _ (br h) _ r s q X) (λw y z=>?_) λJ J z=>z));obtain⟨B,g,C,D⟩:=z;refine aA (aL (aD (LO (UZ (nI G.toGood2 w i v _ g y C D) (λJ s2 z=>bD.of (Wu ?_)) λJ J z=>z))));obtain⟨M,j,O,U⟩:=z;exact⟨k,m,j,B.trans M,O,U,S.fr,λJ J=>rfl⟩
def G6(G:Good3 c x){o i:E}:Av c x (.sub o i):=λ{n A env vs r m} S t' h v Q u s q X=>by
 refine cS (hF (eq_of_beq (bl (bl h)))) λo' i' p b=>?_
 subst b;refine aA (aK (aJ (dZ G S o _ (br (bl h)) _ u s q X) (λw y z=>?_) λJ J z=>z));obtain⟨B,g,C,D⟩:=z;refine aA (aK (aJ (dZ G S i _ (br h) _ g y C D) (λM O z=>?_) λJ J z=>z));obtain⟨U,j,Y,X2⟩:=z;refine aA (aL (aA (aK (aJ (xm S.adm w M v _ j O Y X2) (λJ s3 z=>bD.of (Wu ?_)) λJ J z=>z))));obtain⟨e3,k,q3,X3⟩:=z;exact⟨r,m,k,(B.trans U).trans e3,q3,X3,S.fr,λJ J=>rfl⟩
def Io(G:Good3 c x){o lo r:E}:Av c x (.slc o lo r):=λ{n A env vs w m} S t' h v Q y s q X=>by
 refine NJ (s8 h) λo' l' u' p2 p b B C D=>?_
 subst b;refine aA (aK (aJ (dZ G S o _ B _ y s q X) (λM O z=>?_) λJ J z=>z));obtain⟨U,g,Y,X1⟩:=z;refine aA (aK (aA (aJ ((pP (dq G lo).1 S C) _ g O Y X1) (λl s2 z=>?_) λJ J z=>z)));obtain⟨e2,j,q2,X2⟩:=z;refine aA (aJ (aK ((pP (dq G r).1 S D) _ j s2 q2 X2)) (λu s3 z=>?_) λJ J z=>z);obtain⟨e3,aa,q3,X3⟩:=z;refine aA (aK (aF (a:=Value.none) ?_));refine .of (VJ (aA (aL ?_)));refine aA (aK (aJ (xf S.adm M l u v q3 X3) (λJ s4 z=>bD.of (Wu ?_)) λJ J z=>z));obtain⟨e4,k,q4,X4⟩:=z;exact⟨w,m,k,(U.trans e2).trans (e3.trans e4),q4,X4,S.fr,λJ J=>rfl⟩
def xy(G:Good3 c x)(t:T):Av c x t:=by
 induction t with
 |v i=>exact UM
 |attr o i=>exact Ft G
 |sub o i=>exact G6 G
 |slc o lo b=>exact Io G
end
end
section
section
variable{c:bo}{A:Bs}{env:Env}{vs:List (Option Str)}{x:Cx}{n:Nat}
def bR.at{pr b:PH}{m g:Fs}(S:bR c x n A pr env vs m)(F:fg c env vs b g):bR c x n A b env vs g:=⟨S.adm,S.top,F,S.calls,S.keep⟩
def I.forget{pr:PH}{j:H}{h:UT}{a:iS}(X:I c pr j h)(k:c.K.lookup a=none):I c (pr.del a) j h:=
 X.weaken (λb o e=>by
  by_cases g:b=a
  ·subst g;rw [PH.del_same] at e;exact nN e
  ·rw [PH.del_ne _ g] at e;exact e) λb o e=>by
  by_cases g:b=a
  ·subst g;have e:=k▸e;exact nN e
  ·rw [PH.del_ne _ g];exact X.kin b o e
abbrev Runs(c:bo)(A:Bs)(env:Env)(vs:List (Option Str))(x:Cx)(n:Nat)(t:Sem Flow)(W:PS Fl):Prop:=
 ∀(b:PH) (m:Fs),bR c x n A b env vs m->∀(Q:Fl->Fs->H->Prop) (g:H) (s:bS),W Q m g->I c b g s.heap->bD (pR c.prog c.w) A t (gF c env vs b Q s) No s
def Dp{y:iD}{M:List WE}{WT:Fs->PT Bool}{WB:PS Fl}(ht:∀pr m,bR c x n A pr env vs m->bq c A pr (isTrue y env (eval y env)) id (WT m))(B:Runs c A env vs x n (aaw M env) WB):
  Runs c A env vs x n (aaV (.whileLoop y M [] env) env) (λQ m g=>∀I:Fs->H->Prop,
   (∀m g,WT m (λc g=>if c then WB (λf m g=>match f with| .next=>I m g| .brk=>Q .next m g| .ret v=>Q (.ret v) m g) m g else Q .next m g) g->I m g)->I m g):=by
 intro pr m S Q g s q X;refine ma rfl ?_
 refine q (λm g=>∀(p:bS) (h:PH),aU s p->I c h g p.heap->fg c env vs h m->(∀b,¬Fa env b->h b=pr b)->∀R:V1->bS->Prop,(∀f s',gF c env vs pr Q s f s'->R (.ok f) s')->
  co (pR c.prog c.w) A (.whileLoop y M [] env) R p) ?_ s pr (.refl s) X S.fr (λJ J=>rfl) _ λJ J z=>z
 intro m g q p j C X1 O r R D;refine bz ?_;refine bI (aJ (E:=No) ?_ (λJ J z=>z) λJ J z=>z.elim);refine aA (aJ (ht j m (S.at O) _ g p q X1) (λb s2 z=>?_) λJ J z=>z);obtain⟨G,u,q2,X2⟩:=z;induction b with
 |false=>
  exact aA (aF (a:=XU) (aF (D _ _ ⟨.next,j,m,u,C.trans G,.next,q2,X2,O,r⟩)))
 |true=>
  refine aA (aJ (B j m (S.at O) _ u s2 q2 X2) (λf s3 z=>?_) λJ J z=>z);obtain⟨fl,k,m3,w,U,r3,Y,X3,F3,aa⟩:=z;have hp:=λb B=>(aa b B).trans (r b B)
  induction r3 with
  |next=>exact aF ⟨rfl,rfl,Y s3 k ((C.trans G).trans U) X3 F3 hp R D⟩
  |brk=>exact aF (D _ _ ⟨.next,k,m3,w,(C.trans G).trans U,.next,Y,X3,F3,hp⟩)
  |ret v=>exact aF (D _ _ ⟨.ret (er v),k,m3,w,(C.trans G).trans U,.ret v,Y,X3,F3,hp⟩)
def mO{R:V1->bS->Prop}{s:bS}{M:VX}(b:M.den (.block [] env)=(do return .done (<-(aaw [] env).onRaise (λx=>do noteFrame x env;theTreesLotGoes x))))(h:R (.ok .next) s):co M A (.block [] env) R s:=by
 refine bz ?_;rw [YK rfl,b];exact aA (bI (aF (a:=XU) (aF h)))
set_option tactic.hygienic true in
def He{B:iD}{b':List WE}{is:List Nat}{k:wR}{WB:PS Fl}(hm:mB env.scope vs is B=true)(j:Runs c A env vs x n (aaw b' env) WB){pr:PH}{m:Fs}(S:bR c x n A pr env vs m){Q:Fl->Fs->H->Prop}{p:H}{s₀ s:bS}{g:iS}{o:Obj}
  (q:qr k (λp u m=>c9 p is u m) WB Q m p) (e0:aU s₀ s) (X:I c (pr.set g o) p s.heap) (C:pr g=none) (D:c.K.lookup g=none) (O:nv k 0 o):
  bD (pR c.prog c.w) A (aaV (.forLoop B (.ref g) b' [] env) env) (gF c env vs pr Q s₀) No s:=by
 have h:¬Fa env g:=λhf=>by
  obtain⟨o,O⟩:=S.fr.fa hf;have O:=C▸O;exact nN O
 refine ma rfl ?_
 refine q (λi m p=>∀(s1:bS) (y:PH) (o:Obj),aU s₀ s1->I c y p s1.heap->y g=some o->nv k i o->fg c env vs y m->(∀b,¬Fa env b->b≠g->y b=pr b)->∀R:V1->bS->Prop,(∀f s',gF c env vs pr Q s₀ f s'->R (.ok f) s')->
  co (pR c.prog c.w) A (.forLoop B (.ref g) b' [] env) R s1) ?_ s _ o e0 X (PH.set_same ..) O (S.fr.same λb j=>PH.set_ne _ _ λz=>h (z▸j)) (λb J j=>PH.set_ne _ _ j) _ λJ J z=>z
 intro i m p q s1 U o1 e1 X1 ah ai F1 Y R hR;refine bz ?_;refine bI (aJ (E:=No) ?_ (λJ J z=>z) λJ J z=>z.elim);refine aA (aL ?_);generalize hk:cG k p i=zz;induction zz with
 |none=>rw [hk] at q;exact q.elim
 |some r=>
  rw [hk] at q;refine aA (bI (.of (zj S.adm.hd X1 ah D ai hk (λu pv s2 o2 hr hu e2 X2 aa=>?_) λs2 hr e2 X2=>?_)))
  ·subst hr;dsimp only at q⊢;split at q
   ·rename_i m' aj;refine aD (Bq X2 (PH.set_same ..) aa hk hu ?_);have F2:fg c env vs (U.set g o2) m:=F1.same λb j=>PH.set_ne _ _ λz=>h (z▸j)
    refine aD (ut S.adm.hd S.top F2 hm (by exact hu▸aj) X2 λs3 ak e3 X3 F3 ab=>?_);refine aA (aJ (j ak m' (S.at F3) _ p s3 q X3) (λf s4 z=>?_) λJ J z=>z);obtain⟨fl,G,m4,ac,e4,r4,q4,X4,F4,ae⟩:=z;have al:=(ab g λz=>h z.fa).trans (PH.set_same ..);have af:=λb M w=>(ae b M).trans ((ab b λz=>M z.fa).trans ((PH.set_ne _ _ w).trans (Y b M w)))
    have ee:=(e1.trans e2).trans (e3.trans e4);have ag:∀b,¬Fa env b->(G.del g) b=pr b:=λb M=>by
     by_cases w:b=g
     ·subst w;rw [PH.del_same,C]
     ·exact(PH.del_ne _ w).trans (af b M w)
    have F5:fg c env vs (G.del g) m4:=F4.same λb j=>PH.del_ne _ λz=>h (z▸j)
    induction r4 with
    |next=>exact aF ⟨rfl,rfl,q4 s4 G o2 ee X4 ((ae g h).trans al) aa F4 af R hR⟩
    |brk=>exact aF (hR _ _ ⟨.next,_,m4,ac,ee,.next,q4,X4.forget D,F5,ag⟩)
    |ret v=>exact aF (hR _ _ ⟨.ret (er v),_,m4,ac,ee,.ret v,q4,X4.forget D,F5,ag⟩)
   ·exact q.elim
  ·subst hr;dsimp only at q⊢;refine aF ⟨rfl,rfl,mO rfl (hR _ _ ⟨.next,U.del g,m,p,e1.trans e2,.next,q,X2,F1.same λb j=>PH.del_ne _ λz=>h (z▸j),λb M=>?_⟩)⟩;by_cases w:b=g
   ·subst w;rw [PH.del_same,C]
   ·exact(PH.del_ne _ w).trans (Y b M w)
end
end
section
section
variable{c:bo}{A:Bs}{env:Env}{vs:List (Option Str)}{x:Cx}{n:Nat}
def I.retouch2{pr:PH}{s:H}{h h':UT}{a b:iS}{G r ob ob':Obj}(X:I c pr s h)(u:pr a=some G)(v:pr b=some ob)(w:c.K.lookup a=none)(x:c.K.lookup b=none)
  (A:∀d o,d≠a->d≠b->h.get? d=some o->h'.get? d=some o) (J:h'.get? a=some r) (M:h'.get? b=some ob'):I c ((pr.set a r).set b ob') s h':=by
 refine du X.lay λD L=>?_
 have p:∀d o,pr d=some o->(∀y B,s y=some B->y≠d)/\∀y C j,s y=some (.inst C j)->D y≠d:=λd o e=>
  ⟨λy B q z=>(by have:=L.off y B q;have this:=z▸this;rw [e] at this;exact sN this),λy C j q z=>(by have:=(L.priv y C j q).1;rw [z,e] at this;exact sN this)⟩
 have same:∀d,d≠a->d≠b->((pr.set a r).set b ob') d=pr d:=λd k g=>by exact(PH.set_ne _ _ g).trans ((PH.set_ne _ _ k))
 refine⟨λd o q=>?_,λd o q=>?_,D,λd o q=>?_,λd o q=>?_,λd C j q=>?_⟩
 ·by_cases g:d=b
  ·subst g;rw [PH.set_same] at q;obtain rfl:=eQ q;exact M
  ·by_cases k:d=a
   ·subst k;have q:=PH.set_ne _ _ g▸q;rw [PH.set_same] at q;obtain rfl:=eQ q;exact J
   ·rw [same d k g] at q;exact A d o k g (X.fz d o q)
 ·have k:d≠a:=λz=>by have q:=z▸q;have q:=w▸q;cases q
  have g:d≠b:=λz=>by rw [z] at q;have q:=x▸q;cases q
  exact(same d k g).trans (X.kin d o q)
 ·have e:=L.enc d o q;obtain⟨O,k⟩:=e.at;refine e.local ((A d O ((p a _ u).1 d o q) ((p b _ v).1 d o q) k).trans k.symm) λz=>?_
  induction o with
  |inst C j=>
   obtain⟨_,_,Q,U,m,g,_⟩:=e;exact(A _ _ ((p a _ u).2 d C j q) ((p b _ v).2 d C j q) g).trans g.symm
  |_=>exact fT z
 ·exact same d ((p a _ u).1 d o q) ((p b _ v).1 d o q)▸L.off d o q
 ·refine same _ ((p a _ u).2 d C j q) ((p b _ v).2 d C j q)▸ ?_;exact L.priv d C j q
def I.addF{pr g:PH}{k:H}{h h':UT}(X:I c pr k h)(p:∀b o,h.get? b=some o->h'.get? b=some o)(r:∀b o,g b=some o->pr b=some o\/(h.objs.size<=b/\h'.get? b=some o))(u:∀b o,c.K.lookup b=some o->g b=some o):I c g k h':=by
 have back:∀b,b<h.objs.size->pr b=none->g b=none:=λb v e=>by
  generalize q:g b=w;induction w with
  |none=>rfl
  |some o=>
   rcases r b o q with j|⟨j,_⟩
   ·have j:=e▸j;exact nN j
   ·exact absurd v (Nat.not_lt.mpr j)
 obtain⟨x,L⟩:=X.lay;refine⟨λb o q=>?_,u,x,λb o q=>(L.enc b o q).keeps p,λb o q=>back b (X.lt q) (L.off b o q),λb C s q=>⟨back _ ?_ (L.priv b C s q).1,(L.priv b C s q).2⟩⟩
 ·rcases r b o q with j|⟨_,j⟩
  ·exact p b o (X.fz b o j)
  ·exact j
 ·obtain⟨_,_,z,A,m,y,_⟩:=L.enc b _ q;exact Nm y
noncomputable abbrev w9(c:iS)(i:Int)(b:Value):Obj:={cls:=.type "enumerate",dict:=none,data:=.fields #[.none,.bool false,.ref c,Xw i,.none,b],slots:= #[]}
def nQ{s:bS}{e h:iS}{i:Int}{b:Value}{E:Value->bS->Prop}{Q:Value->bS->Prop}(j:IsEnum s.heap e h i b)(q:Q (.ref e) s):tL (pR c.prog c.w) A (W7 (.ref e)) Q E s:=by
 have g:s.TypeIs (.ref e) "enumerate" :=⟨_,j,rfl⟩
 refine Ym g XV (UY XV g PySem.F.entry_enumerate_iter ?_ (PySem.F.args_enumerate_iter_1 _));exact fS ⟨_,rfl, "enumerate",_,g,PySem.F.slot_enumerate_next.lookup,q⟩
def vn(T:Top env){pr:PH}{w:Str}{D pos:Pos}{m:iD}(G:env.scope.names.lookup w=some .globalImplicit)(hg:DR c.K w=some (.ty "enumerate"))(hd:(w !=("__debug__" :Str))=true)(hs:cN m=false)
  {W:(V->H->Prop)->H->Prop} (h:bq c A pr (eval m env) er W) {Q:Value->bS->Prop} {Q':V->H->Prop} {p:H} {s:bS} (q:W Q' p) (X:I c pr p s.heap)
  (fin:∀(a e x:iS) (xs:List V) (B:Obj) (j:H) (C:bS),nv (.list a) 0 B->aU s C->Q' (.ref a) j->j a=some (.list xs)->pr e=none->pr x=none->c.K.lookup e=none->c.K.lookup x=none->e≠x->I c ((pr.set x B).set e (w9 x 0 .none)) j C.heap->Q (.ref e) C)
  (hQ:∀v j,Q' v j->∃a xs,v=.ref a/\j a=some (.list xs)):
  bD (pR c.prog c.w) A (eval (.Call (.Name w D) [m] [] pos) env) Q No s:=by
 have g:bq c A pr (eval (.Name w D) env) (λv=>v) (λQ p=>Q (.type "enumerate") p):=λQ p s q X=>aJ (nu (pos:=D) T G hg hd (λv p=>v=.ty "enumerate" /\Q (.type "enumerate") p) p s ⟨rfl,q⟩ X) (λv C z=>by
  obtain⟨e,j,⟨M,q'⟩,X'⟩:=z;have:=C6 M;subst this
  exact⟨e,j,q',X'⟩) λJ J z=>z
 refine aA (aJ (g (λv j=>v=.type "enumerate" /\W Q' j) p s ⟨rfl,q⟩ X) (λfv s1 z=>?_) λJ J z=>z);obtain⟨e1,O,⟨rfl,q1⟩,X1⟩:=z;have tr:WL pos (VQ [m] env)= [(false,eval m env)]:=by rcases m with⟨⟩<;>first|rfl|exact xF hs
 refine tr▸ ?_;refine gW (P:=λJ=>True) rfl (λh J=>⟨.machine,.inr (.inl rfl),Vy rfl⟩) ?_;refine(aA (aJ (h Q' O s1 q1 X1) (λv y z=>?_) λJ J z=>z):bD _ _ (eval m env>>=λv=>holding [v] (Yk [])>>=λl=>pure ([v]++l)) _ _ _);refine aA (aK (aF (a:=([]:List Value)) (aF ⟨trivial,?_⟩)));obtain⟨e2,ab,q2,u⟩:=z;refine bW (hQ _ _ q2) λa xs M hx=>?_
 have:=bK M;subst this;refine bW (u.list hx) λU k hl r=>?_
 subst r;refine .of (call_enumerate_list (l:=a) hl.isList λh' he hi hz G=>?_);refine dQ hi λB Y hc aa=>?_
 have f0:=u.prFresh (oP y.heap.objs.size);have f1:=u.prFresh (WH y.heap.objs.size);refine fin a _ _ _ B _ _ ⟨hc,aa⟩ ((e1.trans e2).trans (.mkH y h')) q2 hx f1 f0 (cj u f1) (cj u f0) (Nat.succ_ne_self _) (u.addF G (λb o q=>?_) λb o q=>?_)
 ·by_cases h1:b=y.heap.objs.size+1
  ·subst h1;rw [PH.set_same] at q;obtain rfl:=eQ q;exact .inr ⟨WH _,he⟩
  ·rw [PH.set_ne _ _ h1] at q;by_cases h2:b=y.heap.objs.size
   ·subst h2;rw [PH.set_same] at q;obtain rfl:=eQ q;exact .inr ⟨oP _,Y⟩
   ·have q:=PH.set_ne _ _ h2▸q;exact .inl q
 ·have:=u.kin b o q;rw [PH.set_ne _ _ (λz=>by rw [z] at this;have this:=f1▸this;cases this),PH.set_ne _ _ (λz=>by rw [z] at this;have this:=f0▸this;cases this)];exact this
def zI{pr:PH}{g:H}{h:UT}{a:iS}{i:Nat}{P:V->Prop}{R G:Prop}(X:I c pr g h)(q:match cG (.list a) g i with|some (some u)=>P u|some none=>R|none=>False)
  (w:∀(items:Array Value) k v,IsL h a items k->items[i]? =some v->P (er v)->G) (x:∀(items:Array Value) k,IsL h a items k->items[i]? =none->R->G):G:=by
 unfold cG at q;dsimp only at q;generalize j:g a=m;induction m with
 |none=>rw [j] at q;exact q.elim
 |some ob=>
  have q:=j▸q;induction ob with
  |list y=>
   dsimp only at q;by_cases r:y.length<=1000000
   ·rw [eX r] at q;refine bW (X.list j) λitems k s p=>?_;subst p
    rw [PR] at q;have q:=We▸q;generalize b:items[i]? =m;induction m with
    |none=>have q:=b▸q;exact x items k s b q
    |some v=>rw [b] at q;exact w items k v s b q
   ·rw [if_neg r] at q;exact q.elim
  |_=>exact q.elim
def Ls{M:VX}{A:Bs}{b:Type}{Q:b->bS->Prop}{E:Value->bS->Prop}{s:bS}{t c:iD}(f:iD->Sem b)(h:t=c)(k:tL M A (f c) Q E s):tL M A (f t) Q E s:=h▸k
def DU{t:iD}{xp yp tp:Pos}{tk:Nat}{xn yn:Str}{b':List WE}{i0 j0:Nat}{WB:PS Fl}(ht:t=.Tuple [.Name xn xp,.Name yn yp] tk tp)(hm:yR env.scope vs [i0,j0] [.Name xn xp,.Name yn yp]=true)(p:Runs c A env vs x n (aaw b' env) WB){pr:PH}{m:Fs}(S:bR c x n A pr env vs m)
  {Q:Fl->Fs->H->Prop} {G:H} {s₀ s:bS} {a e g:iS} {oi:Obj}
  (q:sL a i0 j0 WB Q m G) (e0:aU s₀ s) (X:I c ((pr.set g oi).set e (w9 g 0 .none)) G s.heap) (an:pr g=none) (ao:pr e=none) (M:c.K.lookup g=none) (O:c.K.lookup e=none) (B:e≠g) (ho:nv (.list a) 0 oi):
  bD (pR c.prog c.w) A (aaV (.forLoop t (.ref e) b' [] env) env) (gF c env vs pr Q s₀) No s:=by
 have nF:∀b,pr b=none->¬Fa env b:=λb h hf=>by
  obtain⟨o,ho⟩:=S.fr.fa hf;have ho:=h▸ho;exact nN ho
 have U:=nF e ao;have Y:∀b,Fa env b->b≠e:=λb p z=>U (z▸p)
 have aa:=nF g an;have ab:∀b,Fa env b->b≠g:=λb p z=>aa (z▸p)
 refine ma rfl ?_
 refine q (λi m G=>∀(y:bS) (u:PH) (oi:Obj) (ap:Value),aU s₀ y->I c u G y.heap->u g=some oi->nv (.list a) i oi->u e=some (w9 g i ap)->fg c env vs u m->(∀b,¬Fa env b->b≠g->b≠e->u b=pr b)->∀R:V1->bS->Prop,(∀f s',gF c env vs pr Q s₀ f s'->R (.ok f) s')->
  co (pR c.prog c.w) A (.forLoop t (.ref e) b' [] env) R y) ?_ s _ oi .none e0 X
   (by rw [PH.set_ne _ _ (NS B),PH.set_same]) ho (PH.set_same ..) (S.fr.same λb p=>by exact(PH.set_ne _ _ (Y b p)).trans ((PH.set_ne _ _ (ab b p)))) (λb J C r=>by exact(PH.set_ne _ _ r).trans ((PH.set_ne _ _ C))) _ λJ J z=>z
 intro i m G q y aq o1 ap e1 X1 ac ar as F1 au R hR;have av:=X1.fz _ _ ac;have ae:=X1.fz _ _ as;have af:∀j:PH,(∀b,¬Fa env b->b≠g->b≠e->j b=pr b)->∀b,¬Fa env b->((j.del g).del e) b=pr b:=λj w b C=>by
  by_cases D:b=e
  ·subst D;rw [PH.del_same,ao]
  ·refine(PH.del_ne _ D).trans ?_;by_cases r:b=g
   ·subst r;rw [PH.del_same,an]
   ·exact(PH.del_ne _ r).trans (w b C r D)
 have FD:∀(j:PH) (m4:Fs),fg c env vs j m4->fg c env vs ((j.del g).del e) m4:=λj m4 F=>F.same λb p=>by exact(PH.del_ne _ (Y b p)).trans ((PH.del_ne _ (ab b p)))
 refine bz ?_;refine bI (aJ (E:=No) ?_ (λJ J z=>z) λJ J z=>z.elim);refine aA (aL ?_);refine zI X1 q (λag k v hl hv q=>?_) λag k hl hv q=>?_
 ·refine aA (bI (.of (wpAny_pyNext_enum_item ae ⟨o1,av,ar⟩ hl.isList hv B λr az aw a0 a9 ah=>?_)));refine aD (Ls (VC · _ _) ht<|wpAny_letOwnedTupleGo_enum az λD ax ai=>?_);refine bp aw λo2 a1 a2=>?_
  have a3:=XJ (Nm ae);have aj:((i:Int)+1)=((i+1:Nat):Int):=by push_cast;rfl
  rw [aj] at ax;have X3:I c ((aq.set g o2).set e (w9 g ((i+1:Nat):Int) v)) G D:=
   X1.retouch2 ac as M O (λd o C r q=>(ai.2 d r).trans (ah d o r C q)) ((ai.2 _ (NS B)).trans a1) ax
  have a4:D.get? y.heap.objs.size=some {cls:=.type "tuple",data:=.seq #[.int i y.toks,v]}:=(ai.2 _ a3).trans a0;refine aD (Ls (Xm · env _) ht<|wpAny_assign_Tuple (t:=y.heap.objs.size) S.adm.hd (items:= #[.int i y.toks,v]) ⟨_,a4,rfl,_,rfl⟩ rfl rfl λh4 a5=>?_);refine wZ S.top [i0,j0] _ [.int i y.toks,v] _ m _ _ (F1.same λb p=>by exact(PH.set_ne _ _ (Y b p)).trans ((PH.set_ne _ _ (ab b p)))) hm rfl (X3.keeps λb o q=>a5 b o (TS (Nm q)) q) λs5 a6 e5 X5 F5 ak=>?_
  have a7:=(ak g λz=>aa z.fa).trans (by rw [PH.set_ne _ _ (NS B),PH.set_same]);have a8:=(ak e λz=>U z.fa).trans (PH.set_same ..);refine aA (aJ (p a6 _ (S.at F5) _ G s5 q X5) (λf s6 z=>?_) λJ J z=>z);obtain⟨fl,al,m6,ay,e6,r6,q6,X6,F6,am⟩:=z;have w:=λb C r D=>by
   exact(am b C).trans ((ak b λz=>C z.fa).trans ((PH.set_ne _ _ D).trans ((PH.set_ne _ _ r).trans ((au b C r D)))))
  have ee:=(e1.trans (aU.trans ⟨_,_,rfl⟩ e5)).trans e6;have XD:=(X6.forget M).forget O;induction r6 with
  |next=>exact aF ⟨rfl,rfl,q6 s6 al o2 v ee X6 ((am g aa).trans a7) a2 ((am e U).trans a8) F6 w R hR⟩
  |brk=>exact aF (hR _ _ ⟨.next,_,m6,ay,ee,.next,q6,XD,FD _ _ F6,af al w⟩)
  |ret v=>exact aF (hR _ _ ⟨.ret (er v),_,m6,ay,ee,.ret v,q6,XD,FD _ _ F6,af al w⟩)
 ·refine aA (bI (.of (aap S.adm.hd ae ⟨o1,av,ar⟩ hl.isList hv λr ah=>?_)));exact aF ⟨rfl,rfl,mO rfl (hR _ _ ⟨.next,_,m,G,e1.trans (.mkH y r),.next,q,((X1.lose ac M ah).forget O),FD _ _ F1,af aq au⟩)⟩
end
end
section
section
variable{c:bo}{A:Bs}{env:Env}{vs:List (Option Str)}{x:Cx}{n:Nat}
def xo{pr b:PH}{g u:H}{j h h':UT}{D C:iS}{items:Array Value}{k:Nat}{x:Obj}(v:I c pr g j)(X:I c b u h)(y:b D=some (eh items k))(z:b C=some x)(p:C≠D)(r:pr C=none)(s:pr D=none)
  (A:OR C h h'):I c ((b.del C).del D) (u.put D (.list (items.toList.map er))) h':=by
 have w:=X.lose z (cj v r) A.extBut;have m:=(PH.del_ne _ (NS p)).trans y;exact w.thaw' (ao:=.list (items.toList.map er)) m (cj v s) (Yy _ _) ⟨items,k,w.fz _ _ m,rfl⟩ rfl
theorem uV:∀(l:List (Nat×V)) (m:Fs) (i:Nat) (v:V),gf (l.map (·.1))=true->(i,v)∈l->aC (l.foldl (λm p=>bB m p.1 p.2) m) i=some v
 | [],_,_,_,_,h=>nM h
 |p::r,m,i,v,b,h=>by
  rw [IS,gf,UQ,ID,Xf,decide_eq_false_iff_not] at b;rw [VV];rcases List.mem_cons.mp h with e|h
  ·subst e;rw [cJ r _ λq c e=>b.1 (by exact e▸List.mem_map.mpr ⟨q,c,rfl⟩),bN,eX rfl]
  ·exact uV r _ i v b.2 h
theorem kU:∀ {l:List Nat},gf l=true↔l.Nodup
 | []=>by decide
 |i::r=>by simp [gf,kU (l:=r)]
def CQ(l:List (Nat×V))(m:Fs)(b:gf (l.map (·.1))=true)(i:Nat):aC (l.foldl (λm p=>bB m p.1 p.2) m) i=aC (l.reverse.foldl (λm p=>bB m p.1 p.2) m) i:=by
 by_cases h:∃v,(i,v)∈l
 ·obtain⟨v,c⟩:=h;rw [uV l m i v b c,uV l.reverse m i v (by rw [kU,WN];exact List.pairwise_reverse.mpr ((kU.mp b).imp NS)) (by simpa using c)]
 ·have g:∀p∈l,p.1≠i:=λp hp e=>h ⟨p.2,by exact e▸hp⟩
  rw [cJ l m g,cJ l.reverse m λp hp=>g p (by simpa using hp)]
def AI(T:Top env){B:H}{E:Value->bS->Prop}(ps:List (Nat×Str)):∀(items:List Value) (pr:PH) (m:Fs) (s:bS) (Q:Unit->bS->Prop),fg c env vs pr m->
  (∀p∈ps,vs[p.1]? =some (some p.2)/\stN env.scope p.2=true)->items.length=ps.length->I c pr B s.heap->
  (∀j g,aU s j->I c g B j.heap->fg c env vs g (((ps.map (·.1)).zip (items.map er)).foldl (λm p=>bB m p.1 p.2) m)->(∀b,¬Fa env b->g b=pr b)->Q () j)->
  tL (pR c.prog c.w) A (assignInOrder (ps.map λp=>bindName env p.2) items) Q E s:=by
 induction ps with
 |nil=>
  intro items pr m s Q F k r X h;exact fS (h s pr (.refl s) X F λJ J=>rfl)
 |cons p ps D=>
  intro items pr m s Q F k r X h;induction items with
  |nil=>simp at r
  |cons v items=>
   obtain⟨G,M⟩:=k p FS;obtain⟨wr,hw⟩:=Bw T M;refine aS (LO (wpAny_bindName (sr F G hw X λO u U Y F1 w=>?_)));refine D items u _ O Q F1 (λq hq=>k q (ES _ hq)) (by exact Vf r) Y λs2 x e2 X2 F2 y=>h s2 x (U.trans e2) X2 F2 λb C=>?_
   rw [y b C,w b λz=>C ?_];subst z;rcases hw with hw|hw
   ·exact .inl hw.2
   ·exact .inr ⟨_,hw.2⟩
theorem tu:∀ {g:List Nat} {c:List iD},yR env.scope vs g c=true->∃ps:List (Nat×Str),ps.map (·.1)=g/\(∀p∈ps,vs[p.1]? =some (some p.2)/\stN env.scope p.2=true)/\
  ∃q:List Pos,q.length=ps.length/\c=(ps.zip q).map λz=>Zb z.1.2 z.2
 | [],c,h=>by
  have:=pY h;subst this;exact⟨[],rfl,by simp,[],rfl,rfl⟩
 |i::g,c,h=>by
  refine qo (i9 h) λy p r b j k m=>?_
  subst b;obtain⟨ps,s,u,q,e3,v⟩:=tu m;refine⟨(i,y)::ps,by rw [IS,s],λz hz=>?_,p::q,by simp [e3],by rw [v];rfl⟩;rcases List.mem_cons.mp hz with rfl|hz
  ·exact⟨j,k⟩
  ·exact u z hz
set_option tactic.hygienic true in
def wl(k:OS)(g:List ((Nat×Str)×Pos))(l:Nat):∀(b:List Str),(g.map λz=>Zb z.1.2 z.2).filterMap (yh k l)=b->b.length=g.length->b=g.map λz=>z.1.2:=by
 induction g with
 |nil=>intro b h _;simp at h;exact h
 |cons z r m=>
  intro b h j;rw [IS,VO] at h;split at h
  ·rename_i p;exfalso;exact Pg j (by exact h▸gD (List.length_filterMap_le _ _) (by simp):b.length<=r.length)
  ·rename_i y c;unfold yh at c;dsimp only at c;split at c
   ·obtain rfl:=eQ c;subst h;rw [IS,<-m _ rfl (by exact Vf j)]
   ·exact nN c
set_option tactic.hygienic true in
def zu{c cu:List iD}{g:List Nat}{j:List Str}(r:yR env.scope vs g c=true)(h:HS env.scope c cu=some j):
  ∃ps:List (Nat×Str),ps.map (·.1)=g/\(∀p∈ps,vs[p.1]? =some (some p.2)/\stN env.scope p.2=true)/\j=ps.map (·.2):=by
 obtain⟨ps,s,u,q,v,k⟩:=tu r;refine⟨ps,s,u,?_⟩;unfold HS at h;split at h
 ·exact nN h
 ·split at h
  ·exact nN h
  ·split at h
   ·exact nN h
   ·rename_i m;split at h
    ·exact nN h
    ·obtain rfl:=eQ h;have b:=by
      rw [Wl,adi,ne_eq,not_or,Decidable.not_not] at m;exact m.1
     refine(wl env.scope (ps.zip q) ((c.head?.map (·.pos.line)).getD 0) (fM env.scope c) (by exact congrArg _ (k).symm) (by rw [b,k];exact eS ..)).trans ?_;have w:(ps.zip q).map (λz=>z.1.2)=((ps.zip q).map Prod.fst).map (·.2):=by rw [VK];rfl
     rw [w,XW (by exact Rk v)]
def mM{v b:iD}(c:dC v=false)(l:Nat):swapsWithSole [b] v l env=pure false:=iR c _ _
def z4(g:iD)(c:List XS)(k:OS)(pos:Pos)(j:iD)(l:Nat):∃b,swapsWithSole [j] (.ListComp g c k pos) l env=pure b/\(b=true->Ec j=true):=by
 rcases j with⟨⟩<;>exact⟨_,rfl,λh=>by first|rfl|cases h⟩
def kw{b v:iD}(h:gy v=false):V7 [b] v env=pure none:=by
 cases b with
 |Tuple _ _ _=>rcases v with⟨⟩<;>first|rfl|exact xF h
 |List _ _=>rcases v with⟨⟩<;>first|rfl|exact xF h
 |_=>rfl
def wf{b v:iD}(h:gy b=false)(c:(view b).tag≠8):V7 [b] v env=pure none:=by
 rcases b with⟨⟩<;>first|rfl|exact absurd rfl c|exact xF h
def jZ{b:iD}{v:Value}(h:cN b=false):assignAll v ((Vk [b] env).map (·.2))=Xm b env v:=by
 rcases b with⟨⟩<;>first|(exact xF h;done)|rfl
def iv{b:iD}{r:List iD}(h:cN b=false):Vk (b::r) env=(false,Xm b env)::Vk r env:=by
 rcases b with⟨⟩<;>first|(exact xF h;done)|rfl
def CW{k:bo}{g:OS}{t:T}{c:iD}(h:mT k g vs t c=true):(view c).tag=2/\(∃i,t=.v i)\/(view c).tag=11\/(view c).tag=12:=by
 induction t with
 |v i=>
  refine bW (nx h) λy p b J=>?_
  subst b;exact .inl ⟨rfl,i,rfl⟩
 |attr o i=>exact .inr (.inl (eq_of_beq (bl (bl h))))
 |sub o i=>exact .inr (.inr (eq_of_beq (bl (bl h))))
 |slc o lo j=>exact .inr (.inr (eq_of_beq (bl (bl (bl (bl (bl h)))))))
end
end
section
section
variable{c:bo}{A:Bs}{env:Env}{vs:List (Option Str)}{x:Cx}{n:Nat}
def Fb{e:iD}{pos:Pos}{v:Value}(h:(er v).noRef=true):Zv e pos v=pure .next:=by
 have R:Zv (.Constant .none 0 pos) pos v=pure .next:=by induction v<;>first|rfl|exact fT h
 cases e with
 |Name=>rfl
 |_=>exact(by kernel_rfl:_=Zv (.Constant .none 0 pos) pos v).trans R
def Fu{M:VX}{E:Value->bS->Prop}{s:bS}{e:iD}{pos:Pos}{v:Value}{Q:Flow->bS->Prop}(h:(er v).noRef=true)(q:Q .next s):bD M A (Zv e pos v) Q E s:=by
 exact Fb h▸aF q
def pc(h:env.scope.kind=.function):interactive env=false:=by
 unfold interactive;exact h▸rfl
def lj(h:env.scope.kind=.function):env.blockKind=env.scope.kind:=by
 unfold Env.blockKind;rw [h];rfl
theorem yU{c g:Type}:∀ {l:List c} {k:List g},l.length=k.length->l.reverse.zip k.reverse=(l.zip k).reverse
 | [],[],_=>rfl
 |a::l,b::k,h=>by
  have h:l.length=k.length:=by exact Vf h
  rw [aah,aah,List.zip_append (by simpa using h),yU h];simp
 | [],_::_,h=>by cases h
 |_::_,[],h=>by exact absurd h (VN _)
set_option tactic.hygienic true in
def Fr{pr:PH}{m:Fs}(S:bR c x n A pr env vs m){is:List Nat}{M v':iD}{m':Fs}{v:Value}{O:H}{s:bS}{Q:Fl->Fs->H->Prop}(ht:gy M=true)(hn:gf is=true)(hm:mB env.scope vs is M=true)(B:mSw v'=true)
  (hb:c9 O is (er v) m=some m') (q:Q .next m' O) (X:I c pr O s.heap):
  bD (pR c.prog c.w) A (V7 [M] v' env>>=λsw=>WF env v sw ((Vk [M] env).map (·.2))) (gF c env vs pr Q s) No s:=by
 have plain:∀ {s0:bS},tL (pR c.prog c.w) A (Xm M env v) (λJ s'=>gF c env vs pr Q s .next s') No s:=λ{s0}=>
  ut S.adm.hd S.top S.fr hm hb X λs' C e X' F' hp=>⟨.next,C,m',O,e,.next,q,X',F',λb hb=>hp b λz=>hb z.fa⟩
 refine cS (ek (beq_iff_eq.mp ht)) λts a p D=>?_
 subst D;have g:bD (pR c.prog c.w) A ((pure none:Sem (Option (List Str)))>>=λsw=>WF env v sw ((Vk [.Tuple ts a p] env).map (·.2))) (gF c env vs pr Q s) No s:=by
  refine aA (aF ?_);exact aD (UZ (plain (s0:=s)) (λJ s' z=>aF z) λJ J z=>z)
 cases hv:gy v' with
 |false=>rw [kw hv];exact g
 |true=>
  refine cS (ek (beq_iff_eq.mp hv)) λcu b p2 j=>?_
  subst j;have B:BV cu=true:=B;refine qn (lj S.top.f) B▸ ?_;cases hs:HS env.scope ts cu with
  |none=>exact g
  |some ns=>
   refine aA (aF ?_);rcases u8 hm with⟨i,rfl,h1⟩|⟨h1,es,k,p3,he,ab⟩
   ·refine bW (nx h1) λy p4 h4 J=>?_
    cases h4
   ·cases he;refine dQ (zu ab hs) λU e1 e2 r=>?_
    subst r;refine aD (Vj ?_);rcases iz hb with⟨i,rfl,_⟩|⟨aa,xs,ha,hx,hl,rfl⟩
    ·simp at h1
    ·have:=bK ha;subst this;refine bW (X.tuple hx) λh k ac u=>?_
     subst u;have G:(U.map (·.2)).length=h.size:=by rw [eS,<-eS (f:=(·.1)),e1,<-hl];simp
     refine G▸ ?_;refine aD (Zw S.adm.hd ⟨_,ac,rfl,_,rfl⟩ λh' ae=>?_);have Y:(U.map (·.2)).reverse.map (λn=>bindName env n)=U.reverse.map λp=>bindName env p.2:=by rw [<-WN,VK];rfl
     refine Y▸ ?_;refine aD (AI S.top U.reverse h.toList.reverse pr m _ _ S.fr (λp hp=>e2 p (by simpa using hp)) (by simp at G⊢;exact Lg G) (X.keeps λb o e=>ae b o (TS (Nm e)) e) λs' C e X' F' hp=>?_);refine aF ⟨.next,C,_,O,(aU.mkH s h').trans e,.next,q,X',F'.sub λi w hw=>?_,hp⟩;have hz:(U.reverse.map (·.1)).zip (h.toList.reverse.map er)=(is.zip (h.toList.map er)).reverse:=by
      rw [WN,WN,e1];exact yU hl.symm
     rw [hz,<-CQ _ m (by rw [XW (W5 hl.symm)];exact hn)];exact hw
end
end
section
section
variable{c:bo}{A:Bs}{env:Env}{vs:List (Option Str)}{x:Cx}{n:Nat}
def ff{P:Prop}(h:false=true):P:=fT h
def nz{n k:Nat}(h:(n==k+1)=true):n≠0:=λe=>by have h:=e▸h;exact fT h
def Fj{pr:PH}(g:VP)(a b:Value):eW c A pr (abt g a b) er (LY g (er a) (er b)):=by
 intro Q h s q X;induction g with
 |Add=>exact im (G:=λa b=>tL _ A (abt .Add a b) _ _ s) (q) λx y t u q=>aaF ⟨.mkT s _,h,q,X⟩
 |Sub=>exact im (G:=λa b=>tL _ A (abt .Sub a b) _ _ s) (q) λx y t u q=>aaG ⟨.mkT s _,h,q,X⟩
 |_=>exact q.elim
def ql{pr:PH}{m:Fs}(S:bR c x n A pr env vs m){i:Nat}{y:Str}{p1:Pos}(hi:vs[i]? =some (some y))(aa:stN env.scope y=true){Q:Fl->Fs->H->Prop}{ab:H}{s:bS}(X:I c pr ab s.heap)
  {D C:iS} {G:H} {Y:bS} {j:PH} {items:Array Value} {k:Nat} {oC:Obj} {mC:Str->Option Value} (e:aU s Y) (hf:fresh (.list (items.toList.map er)) (λv σ=>Q .next (bB m i v) σ) G) (X':I c j G Y.heap) (hD:j D=some (eh items k))
  (hC:j C=some oC) (hn:Y.heap.Ns C mC) (ac:C≠D) (p:pr C=none) (r:pr D=none) (u:∀b,b≠D->b≠C->j b=pr b):
  bD (pR c.prog c.w) A (Xm (.Name y p1) env (.ref D)) (λJ w=>∃m,w.heap.Ns C m/\∀h',OR C w.heap h'->gF c env vs pr Q s .next {w with heap:=h'}) No Y:=by
 have nF:∀b,pr b=none->¬Fa env b:=λb h hf=>by
  obtain⟨o,ho⟩:=S.fr.fa hf;have ho:=h▸ho;exact nN ho
 have M:∀b,Fa env b->b≠D:=λb g z=>nF D r (z▸g)
 have O:∀b,Fa env b->b≠C:=λb g z=>nF C p (z▸g)
 refine .of (js S.top (S.fr.same λb g=>u b (M b g) (O b g)) hi aa X' λs2 ag e2 X2 F2 B=>?_);have U:=(B C λz=>nF C p z.fa).trans hC;refine qo hn λae es ep w1 w2 w3 w4=>?_
 have:=eQ (w1.symm.trans (X'.fz _ _ hC));subst this;refine⟨mC,⟨ae,es,ep,X2.fz _ _ U,w2,w3,w4⟩,λh' af=>⟨.next,_,_,_,(e.trans e2).trans (.mkH s2 h'),.next,hf D (X'.sNone hD),xo X X2 ((B D λz=>nF D r z.fa).trans hD) U ac p r af,?_,λb g=>?_⟩⟩
 ·exact F2.same λb g=>by exact(PH.del_ne _ (M b g)).trans ((PH.del_ne _ (O b g)))
 ·by_cases b1:b=D
  ·subst b1;rw [PH.del_same,r]
  ·refine(PH.del_ne _ b1).trans ?_;by_cases b2:b=C
   ·subst b2;rw [PH.del_same,p]
   ·exact(PH.del_ne _ b2).trans ((B b λz=>g z.fa).trans ((u b b1 b2)))
def yz(G:Good3 c x){pr:PH}{m:Fs}(S:bR c x n A pr env vs m){i:Nat}{e:E}{U:iD}{j:List XS}{sc:OS}{pos p1:Pos}{y:Str}(hi:vs[i]? =some (some y))(ah:stN env.scope y=true)
  (h:mE c env.scope vs e (.ListComp U j sc pos)=true) {Q:Fl->Fs->H->Prop} {σ:H} {s:bS} (q:xE x n m e (λv σ=>Q .next (bB m i v) σ) σ) (X:I c pr σ s.heap):
  bD (pR c.prog c.w) A (evalThenUse (.ListComp U j sc pos) env (λv=>assignAll v ((Vk [.Name y p1] env).map (·.2)))>>=λJ=>pure XU) (gF c env vs pr Q s) No s:=by
 have ai:∀ {e:E},mE c env.scope vs e (.ListComp U j sc pos)=true->(∃a b d f,e=.comp a b d f)\/(∃a b d,e=.compS a b d)\/e=.dead:=by
  intro e h;rcases e with⟨⟩<;>first|exact .inl ⟨_,_,_,_,rfl⟩|exact .inr (.inl ⟨_,_,_,rfl⟩)|exact .inr (.inr rfl)|exact ff h
 rcases ai h with⟨O,ts,it,cc,rfl⟩|⟨i2,it,cc,rfl⟩|rfl
 ·obtain⟨aj,al,ak,am,an,p,he,K⟩:=ra h;cases he;obtain⟨hs,q⟩:=q;refine aA (aA ?_);refine vc (WI:=xE x n m it) (T:=λr=>xT x n r cc) (EA:=λr=>xE x n r O) (Qv:=λJ M=>bD (pR c.prog c.w) A (pure ()) (λJ M=>bD (pR c.prog c.w) A (pure XU) (gF c env vs pr Q s) No M) No M) S K.ok K.ns K.mb (pZ K.tso) hs (dZ G S it ak K.it) (λu w r Y g=>vW K (dq G cc).2 Y g) (λu w r Y g=>dZ G Y O _ (by exact g▸K.elt)) q X
   λD C ao M u aa k oC mC e hf X' hD hC hn ab ac ae B=>?_
  refine aJ (ql S hi ah X e hf X' hD hC hn ab ac ae B) (λJ s2 z=>?_) λJ J z=>z
  refine bp z λm2 af hz=>?_
  exact⟨m2,af,λh' ag=>aF (aF (hz h' ag))⟩
 ·obtain⟨aj,al,y2,p2,arg,p3,am,an,p,he,K⟩:=oM h;cases he;obtain⟨hs,q⟩:=q;refine aA (aA ?_);refine mK (T:=λr=>xT x n r cc) (EA:=λr=>xE x n r (.v i2)) (Qv:=λJ M=>bD (pR c.prog c.w) A (pure ()) (λJ M=>bD (pR c.prog c.w) A (pure XU) (gF c env vs pr Q s) No M) No M) S K.ok (λJ=>rfl) K.mb (pZ K.tso) hs (u6 S K (dq G it).1 X q) (λu w r Y g=>sx K (dq G cc).2 Y g) (λu w r Y g=>SO Y _ (by refine g▸ ?_;exact K.elt))
   λD C ao M u aa k oC mC e hf X' hD hC hn ab ac ae B=>?_
  refine aJ (ql S hi ah X e hf X' hD hC hn ab ac ae B) (λJ s2 z=>?_) λJ J z=>z
  refine bp z λm2 af hz=>?_
  exact⟨m2,af,λh' ag=>aF (aF (hz h' ag))⟩
 ·exact q.elim
def Cg{y:iD}{Y:List WE}{pr:PH}{m:Fs}(S:bR c x n A pr env vs m){Q:Fl->Fs->H->Prop}{v:H}{s₀ s:bS}{a e g:iS}{j:Obj}
  (q:Q .next m v) (e0:aU s₀ s) (X:I c ((pr.set g j).set e (w9 g 0 .none)) v s.heap) (B:pr g=none) (C:pr e=none) (p:c.K.lookup g=none) (r:c.K.lookup e=none) (D:e≠g) (ho:nv (.list a) 0 j) (hx:v a=some (.list [])):
  bD (pR c.prog c.w) A (aaV (.forLoop y (.ref e) Y [] env) env) (gF c env vs pr Q s₀) No s:=by
 have u:((pr.set g j).set e (w9 g 0 .none)) g=some j:=by rw [PH.set_ne _ _ (NS D),PH.set_same]
 have G:=X.fz _ _ u;refine bW (X.list hx) λM k hl U=>?_
 refine ma rfl (bz ?_);refine bI (aJ (E:=No) ?_ (λJ J z=>z) λJ J z=>z.elim);refine aA (aL ?_);refine aA (bI (.of (aap (i:=0) S.adm.hd (X.fz _ _ (PH.set_same _ e (w9 g 0 .none))) ⟨j,G,ho⟩ hl.isList (by simp at U;exact U▸rfl) λh O=>?_)));refine aF ⟨rfl,rfl,mO rfl ⟨.next,pr,m,v,e0.trans (.mkH s h),.next,q,((X.lose u p O).forget r).weaken (λb o q=>?_) λb o q=>?_,S.fr,λJ J=>rfl⟩⟩
 ·have w:b≠e:=λz=>by rw [z] at q;have q:=C▸q;cases q
  have h:b≠g:=λz=>by rw [z] at q;have q:=B▸q;cases q
  rw [PH.del_ne _ w,PH.del_ne _ h,PH.set_ne _ _ w,PH.set_ne _ _ h];exact q
 ·have w:b≠e:=λz=>by rw [z] at q;have q:=r▸q;cases q
  have h:b≠g:=λz=>by rw [z] at q;have q:=p▸q;cases q
  have:=X.kin b o q;rw [PH.set_ne _ _ w,PH.set_ne _ _ h] at this;exact this
end
section
variable{c:bo}{x:Cx}
abbrev vk(c:bo)(x:Cx)(st:S):Prop:=∀ {n:Nat} {A:Bs} {env:Env} {vs:List (Option Str)} (b:WE),mS c env.scope vs st b=true->Runs c A env vs x n (exec b env) (xS x n st)
abbrev qN(c:bo)(x:Cx)(g:Ss):Prop:=∀ {n:Nat} {A:Bs} {env:Env} {vs:List (Option Str)} (b:List WE),Al c env.scope vs g b=true->Runs c A env vs x n (aaw b env) (aZ x n g)
def Tp(G:Good3 c x){e:E}:vk c x (.ex e):=λ{n A env vs} j h k m S Q r s q X=>by
 refine eT (Dh (eq_of_beq (bl (bl h)))) λv p b=>?_
 subst b;refine aA (aL ?_);refine pc S.top.f▸ ?_;rw [iR ((ID _).mp (br (bl h)):dC v=false)];refine aA (aF ?_);refine aA (aJ (dZ G S e _ (br h) _ r s q X) (λv C z=>?_) λJ J z=>z);obtain⟨u,g,⟨w,y⟩,B⟩:=z;exact Fu w ⟨.next,k,m,g,u,.next,y,B,S.fr,λJ J=>rfl⟩
def to(G:Good3 c x){n:Nat}{A:Bs}{env:Env}{vs:List (Option Str)}{pr:PH}{m:Fs}(S:bR c x n A pr env vs m){t:T}{e:E}{b v:iD}(u:gy b=false)(r:mT c env.scope vs t b=true)(w:mE c env.scope vs e v=true){Q:Fl->Fs->H->Prop}{g:H}{s:bS}
  (q:xS x n (.asg t e) Q m g) (X:I c pr g s.heap):bD (pR c.prog c.w) A (eval v env>>=λh=>V7 [b] v env>>=λy=>WF env h y ((Vk [b] env).map (·.2))) (gF c env vs pr Q s) No s:=by
 have B:=CW r;refine aA (aJ (dZ G S e v w _ g s q X) (λh C z=>?_) λJ J z=>z);refine FK (wf u (by lia)) ?_;refine aA (aF ?_);unfold WF;dsimp only;rw [jZ (by unfold cN;lia)];obtain⟨D,j,M,O⟩:=z;refine aA (aJ (xy G t S b r h _ j C M O) (λJ s2 z=>?_) λJ J z=>z);refine HF z λk U p Y q2 X2 F2 hp=>?_
 exact aF ⟨.next,k,U,p,D.trans Y,.next,q2,X2,F2,hp⟩
def SN(G:Good3 c x){t:T}{e:E}:vk c x (.asg t e):=λ{n A env vs} U h pr m S Q σ s q X=>by
 refine cS (k9 (eq_of_beq (bl (bl (bl (bl h)))))) λts v pos w=>?_
 subst w;obtain⟨J,rfl⟩:=eD (eq_of_beq (br (bl (bl (bl h)))));have j:gy J=false:=(ID _).mp (br (bl (bl h)));have B:mT c env.scope vs t J=true:=(br (bl h))
 have p:mE c env.scope vs e v=true:=(br h)
 refine aA (aL ?_);generalize C:dC v=Y;induction Y with
 |false=>
  rw [mM C];refine aA (aF ?_);exact to G S j B p q X
 |true=>
  by_cases O:(view v).tag=15
  ·refine iy (iP O) λM z sc pp r=>?_
   subst r;refine bp (z4 (env:=env) M z sc pp J pos.line) λb hb D=>?_
   refine hb▸ ?_;refine aA (aF ?_);induction b with
   |false=>
    exact to G S j B p q X
   |true=>
    simp only [if_true];have D:=beq_iff_eq.mp (D rfl);rcases CW B with⟨_,i,rfl⟩|hh|hh
    ·refine lC (nx B) λy p1 u w1 w2=>?_
     subst u;exact yz G S w1 w2 p q X
    ·exact absurd (D.symm.trans hh) (by decide)
    ·exact absurd (D.symm.trans hh) (by decide)
  ·exfalso;unfold dC at C;simp only [Wl,Ze] at C;have j:(view v).tag=0:=by exact N9 C O
   have dead:e=.dead:=by
    cases e with
    |k|lst|tup=>exact absurd j (nz (bl p))
    |neg|not|dct0|sub|comp|compS=>exact absurd j (nz (bl (bl p)))
    |v|g|bin|ife|attr=>exact absurd j (nz (bl (bl (bl p))))
    |and2|or2|call=>exact absurd j (nz (bl (bl (bl (bl p)))))
    |or3|cmp|slc=>exact absurd j (nz (bl (bl (bl (bl (bl p))))))
    |cmp2=>exact absurd j (nz (bl (bl (bl (bl (bl (bl p)))))))
    |dct2=>exact absurd j (nz (bl (bl (bl (bl (bl (bl (bl p))))))))
    |mc=>exact absurd j (nz (bl (bl (bl (bl (bl (bl (bl (bl p)))))))))
    |dead=>rfl
   subst dead;exact q.elim
set_option tactic.hygienic true in
def Jf(G:Good3 c x){k:List Nat}{e:E}:vk c x (.asgN k e):=λ{n A env vs} p h B m S Q r s q X=>by
 refine cS (k9 (eq_of_beq (bl (bl (bl (bl (bl (bl (bl h))))))))) λC v pos b=>?_
 subst b;obtain⟨D,rfl⟩:=eD (eq_of_beq (br (bl (bl (bl (bl (bl (bl h))))))));refine aA (aL ?_);rw [mM ((ID _).mp (br (bl (bl h))):dC v=false)];refine aA (aF ?_);refine aA (aJ (dZ G S e v (br h) _ r s q X) (λM O z=>?_) λJ J z=>z);obtain⟨u,w,g,y⟩:=z;split at g
 ·rename_i U j;exact aJ (Fr S (br (bl (bl (bl (bl (bl h)))))) (br (bl (bl (bl (bl h))))) (br (bl (bl (bl h)))) (br (bl h)) j g y) (λf Y z=>z.from u λJ J=>rfl) λJ J z=>z
 ·exact g.elim
def xe{t u:T}{e:E}{r:OS}{vs:List (Option Str)}{st':WE}{G:WE->Prop}(h:mS c r vs (.asgT t u e) st'=true)
  (k:∀j m s p v pos,cN j=false->cN m=false->mT c r vs t j=true->mT c r vs u m=true->dC v=false->El r [j,m] v=true->mE c r vs e v=true->G (.Assign [.Tuple [j,m] s p] v pos)):G st':=by
 have g0:=eq_of_beq (bl (bl (bl h)));have y:=eq_of_beq (br (bl (bl h)));have z:=(br (bl h))
 have A:=eq_of_beq (bl (bl (bl (bl (bl (bl (bl (br h))))))));have B:=(ID _).mp (br (bl (bl (bl (bl (bl (bl (br h))))))));have C:=(ID _).mp (br (bl (bl (bl (bl (bl (br h)))))));have D:=(br (bl (bl (bl (bl (br h))))))
 have J:=(br (bl (bl (bl (br h)))))
 have M:=(ID _).mp (br (bl (bl (br h))));have O:=(br (bl (br h)))
 have w:=(br (br h))
 clear h;refine cS (k9 g0) λQ v pos b=>?_
 subst b;clear g0;obtain⟨U,rfl⟩:=eD y;clear y;refine cS (ek (beq_iff_eq.mp z)) λY s p x=>?_
 clear z;subst x;refine eT (nE A) λj m g=>?_
 subst g;exact k j m s p v pos B C D J M O w
def CN{pr:PH}{v:Value}{m:H}{h:UT}{f:V->V->Prop}{G:Value->Prop}(X:I c pr m h)(q:match er v with| .ref a=>(match m a with|some (.tuple [p,q])=>f p q|_=>False)|_=>False)
  (k:∀a s g j,IsT h a #[g,j] s->f (er g) (er j)->G (.ref a)):G v:=by
 generalize u:er v=w;induction w with
 |ref a=>
  have q:=u▸q;dsimp only at q;rw [bK u];generalize x:m a=w;induction w with
  |none=>rw [x] at q;exact q.elim
  |some ob=>
   have q:=x▸q;induction ob with
   |tuple A=>
    rcases A with _|⟨p,r⟩
    ·exact q.elim
    ·rcases r with _|⟨D,r⟩
     ·exact q.elim
     ·induction r with
      |cons _ _=>exact q.elim
      |nil=>
       refine bW (X.tuple x) λb s y z=>?_
       obtain⟨l⟩:=b;refine lC (IW (as:=l) z) λg j B C e2=>?_
       subst B;exact k a s g j y (C▸e2▸q)
   |_=>exact q.elim
 |_=>rw [u] at q;exact q.elim
def BN{env:Env}{h j v:iD}{k:Nat}{p:Pos}(u:env.scope.kind=.function)(g:El env.scope [h,j] v=true):V7 [.Tuple [h,j] k p] v env=pure none:=by
 generalize m:gy v=w;induction w with
 |false=>exact kw m
 |true=>
  refine cS (ek (beq_iff_eq.mp m)) λcu b x c=>?_
  subst c;unfold El at g;have g:=m▸g;simp only [Bool.not_true,Bool.false_or,UQ,Yo] at g;have r:BV cu=true:=g.1;have s:HS env.scope [h,j] cu=none:=g.2;rw [qn (lj u) r,s]
def Hy(G:Good3 c x){t u:T}{e:E}:vk c x (.asgT t u e):=λ{n A env vs} g h=>by
 refine xe (G:=λg=>Runs c A env vs x n (exec g env) (xS x n (.asgT t u e))) h λt' u' k p v pos h2 h3 h6 h7 h8 h9 r pr m S Q σ s q X=>?_
 refine aA (aL ?_);rw [mM h8];refine aA (aF ?_);refine aA (aJ (dZ G S e v r _ σ s q X) (λj s1 z=>?_) λJ J z=>z);refine FK (BN S.top.f h9) ?_;refine aA (aF ?_);obtain⟨e1,w,y,X1⟩:=z;refine CN (G:=λj=>bD _ A (WF env j none ((Vk [.Tuple [t',u'] k p] env).map (·.2))) (gF c env vs pr Q s) No s1) X1 y λa kk j v2 B y=>?_
 unfold WF;dsimp only;rw [jZ rfl,arm_assign_Tuple,iv h2,iv h3];refine aA (aA (aL ?_));refine aD (LO (Zw (items:= #[j,v2]) S.adm.hd ⟨_,B,rfl,_,rfl⟩ λh' C=>?_));refine aA (aK (aJ (xy G t S t' h6 j _ w _ y (X1.keeps λb o e=>C b o (TS (Nm e)) e)) (λJ s3 z=>?_) λJ J z=>z));refine HF z λaa m3 D e3 q3 X3 F3 M=>?_
 refine aA (aK (aJ (xy G u (S.at F3) u' h7 v2 _ D _ q3 X3) (λJ s4 z=>?_) λJ J z=>z));refine HF z λO m4 U e4 q4 X4 F4 Y=>?_
 exact aF (aF ⟨.next,O,m4,U,(e1.trans (.mkH s1 h')).trans (e3.trans e4),.next,q4,X4,F4,λb hb=>(Y b hb).trans (M b hb)⟩)
def H5(G:Good3 c x){o e:E}{i:Nat}{g:VP}:vk c x (.augA o i g e):=λ{n A env vs} C h D m S Q M s q X=>by
 refine iy (rN (eq_of_beq (bl (bl (bl (bl (bl h))))))) λt' j v pos b=>?_
 subst b;refine cS (da (eq_of_beq (br (bl (bl (bl (bl h))))))) λO a ap U=>?_
 subst U;have Y:=eq_of_beq (br (bl (bl (bl h))));have h1:g=j:=eq_of_beq (br (bl (bl h)));subst Y h1;refine aA (aL ?_);refine aA (aJ (dZ G S o O (br (bl h)) _ M s q X) (λB s1 z=>?_) λJ J z=>z);obtain⟨e1,k,q1,X1⟩:=z;refine aA (aK (aA (aL ?_)));refine aA (aJ (bD.of (wS G.toGood2 B i _ k s1 q1 X1)) (λp s2 z=>?_) λJ J z=>z);obtain⟨e2,r,q2,X2⟩:=z;refine aA (aK (aJ (dZ G S e v (br h) _ r s2 q2 X2) (λv1 s3 z=>?_) λJ J z=>z));obtain⟨e3,u,q3,X3⟩:=z;refine aA (aL (nW (aJ (bD.of (Fj g p v1 _ u s3 q3 X3)) (λnw s4 z=>?_) λJ J z=>z)));obtain⟨e4,w,q4,X4⟩:=z;refine aA (aL (aA (aK (aJ (bD.of (nI G.toGood2 B i nw _ w s4 q4 X4)) (λJ s5 z=>?_) λJ J z=>z))));obtain⟨e5,y,q5,X5⟩:=z;refine aD (Wu (aF ⟨.next,D,m,y,((e1.trans e2).trans (e3.trans e4)).trans e5,.next,q5,X5,S.fr,λJ J=>rfl⟩))
end
end
section
section
variable{c:bo}{x:Cx}
def Q9(G:Good3 c x){t:E}{a b:Ss}(y:qN c x a)(B:qN c x b):vk c x (.ite t a b):=λ{n A C vs} D h k m S Q M s q X=>by
 refine iy (Jg (eq_of_beq (bl (bl (bl h))))) λO U Y p g=>?_
 subst g;refine aA (aL (aA (aJ (Gf G S t O (br (bl (bl h))) _ M s q X) (λb1 r z=>?_) λJ J z=>z)));obtain⟨u,j,v,w⟩:=z;induction b1 with
 |false=>
  exact aJ (B Y (br h) k m S Q j r v w) (λf s2 z=>z.from u λJ J=>rfl) λJ J z=>z
 |true=>
  exact aJ (y U (br (bl h)) k m S Q j r v w) (λf s2 z=>z.from u λJ J=>rfl) λJ J z=>z
def MM(G:Good3 c x){t:E}{b:Ss}(k:qN c x b):vk c x (.whl t b):=λ{n A r B} u h j m S Q v s q X=>by
 refine iy (zJ (eq_of_beq (bl (bl (bl h))))) λw y C p g=>?_
 subst g;have z:=List.isEmpty_iff.mp (br (bl (bl h)));subst z;exact aA (aL (Dp (WT:=λm=>xT x n m t) (WB:=aZ x n b) (λj m S=>Gf G S t w (br (bl h))) (k y (br h)) j m S Q v s q X))
set_option tactic.hygienic true in
def DH(G:Good3 c x){B:List Nat}{y:E}{b:Ss}(C:qN c x b):vk c x (.forIn B y b):=λ{n A D vs} M h pr m S Q O s q X=>by
 refine D7 (uI (eq_of_beq (bl (bl (bl (bl (bl h))))))) λU j Y c' p g=>?_
 subst g;have g1:=List.isEmpty_iff.mp (br (bl (bl (bl (bl h)))));subst g1;refine aA (aL (aA (aJ (dZ G S y j (br (bl h)) _ O s q X) (λv s1 z=>?_) λJ J z=>z)));rw [wo ((br (bl (bl (bl h)))):s9 j=true)];refine aA (aF (aA (aL ?_)));obtain⟨e1,aa,r,X1⟩:=z;split at r
 ·rename_i k hk;refine aD (LO (ze X1 hk λab s2 o u w e2 X2 ho=>?_));exact He (WB:=aZ x n b) (br (bl (bl h))) (C Y (br h)) S r (e1.trans e2) X2 u w ho
 ·exact r.elim
def vf{m:OS}{e:iD}(h:S8 c m e=true):∃j k b p,e=.Call (.Name j k) [b] [] p/\m.names.lookup j=some .globalImplicit/\DR c.K j=some (.ty "enumerate")/\(j !=("__debug__" :Str))=true/\cN b=false:=by
 refine iy (jw (eq_of_beq (bl (bl (bl (bl (bl (bl (bl h))))))))) λf u v p g=>?_
 subst g;have r:=List.isEmpty_iff.mp (br (bl (bl (bl (bl (bl (bl h)))))));subst r;obtain⟨b,rfl⟩:=eD (eq_of_beq (br (bl (bl (bl (bl (bl h)))))));refine eT (jC (eq_of_beq (br (bl (bl (bl (bl h))))))) λj k s=>?_
 subst s;exact⟨j,k,b,p,rfl,(eq_of_beq (br (bl (bl (bl h))))),(eq_of_beq (br (bl (bl h)))),(br (bl h)),((ID _).mp (br h))⟩
set_option tactic.hygienic true in
def Et(G:Good3 c x){p0 q0:Nat}{it:E}{b:Ss}(hb:qN c x b):vk c x (.forEn p0 q0 it b):=λ{n A ab vs} ac h pr m S Q y s q X=>by
 refine D7 (uI (eq_of_beq (bl (bl (bl (bl (bl (bl h)))))))) λae af b' c' p j=>?_
 subst j;have g1:=List.isEmpty_iff.mp (br (bl (bl (bl (bl (bl h))))));subst g1;refine cS (ek (beq_iff_eq.mp (br (bl (bl (bl (bl h))))))) λes k tp ht=>?_
 subst ht;refine qo (i9 (br (bl (bl (bl h))))) λxn xp r B w1 w2 w3=>?_
 subst B;refine qo (i9 w3) λyn yp r B J J w4=>?_
 subst B;have:=pY w4;subst this;refine A9 (vf (br (bl (bl h)))) λen e0 C p2 g h1 h2 h3 u=>?_
 subst g;refine aA (aL (aA ?_));refine vn (Q':=λv y=>match v with| .ref a=>(match y a with|some (.list _)=>sL a p0 q0 (aZ x n b) Q m y|_=>False)|_=>False) S.top h1 h2 h3 u (dZ G S it C (br (bl h))) q X (λa e ag xs oi D s' ho e1 w hx M O U Y aa X1=>?_) λv D q'=>?_
 ·refine aA (aF (aA (aL ?_)));refine aD (LO (nQ (X1.fz _ _ (PH.set_same ..)) ?_));dsimp only at w;have w:=hx▸w;exact DU (WB:=aZ x n b) rfl (br (bl (bl (bl h)))) (hb b' (br h)) S w e1 X1 O M Y U aa ho
 ·exact HC q' λa e q=>(jE (f:=λ_=>_) q).elim λxs z=>⟨_,_,e,z.1⟩
set_option tactic.hygienic true in
def Ca(G:Good3 c x){M:E}:vk c x (.forEn0 M):=λ{n A U vs} Y h pr m S Q w s q X=>by
 refine D7 (uI (eq_of_beq (bl (bl (bl h))))) λaa ab b' c' p b=>?_
 subst b;have g1:=List.isEmpty_iff.mp (br (bl (bl h)));subst g1;refine A9 (vf (br (bl h))) λen e0 y p2 g h1 h2 h3 j=>?_
 subst g;refine aA (aL (aA ?_));refine vn (Q':=λv w=>match v with| .ref a=>(match w a with|some (.list [])=>Q .next m w|_=>False)|_=>False) S.top h1 h2 h3 j (dZ G S M y (br h)) q X (λa e ac xs oi r s' ho e1 u k z B C D J O=>?_) λv r q'=>?_
 ·refine aA (aF (aA (aL ?_)));refine aD (LO (nQ (O.fz _ _ (PH.set_same ..)) ?_));dsimp only at u;rw [k] at u;induction xs with
  |cons _ _=>exact u.elim
  |nil=>exact Cg S u e1 O B z D C J ho k
 ·refine HC q' λa e q=>?_
  generalize k:r a=zz;induction zz with
  |none=>rw [k] at q;exact q.elim
  |some o=>rw [k] at q;induction o<;>first|exact⟨_,_,e,k⟩|exact q.elim
def Ki(G:Good3 c x){e:E}:vk c x (.ret e):=λ{n A j M} k h r m S Q u s q X=>by
 have w:=(br h)
 refine eT (qE (eq_of_beq (bl (bl h)))) λo p b=>?_
 subst b;obtain⟨v,y⟩:=Option.isSome_iff_exists.mp (br (bl h));subst y;refine aA (aL (aA (aJ (dZ G S e v w _ u s q X) (λv O z=>?_) λJ J z=>z)));obtain⟨B,g,C,D⟩:=z;exact aF ⟨.ret (er v),r,m,g,B,.ret v,C,D,S.fr,λJ J=>rfl⟩
def IV:vk c x .ret0:=λ{n A g v} j h k m S Q r s q X=>by
 delta mS at h;rw [UQ,Ze,Yo] at h;refine eT (qE h.1) λo p b=>?_
 subst b;have u:=h.2;subst u;exact aA (aL (aF ⟨.ret .none,k,m,r,.refl s,.ret .none,q,X,S.fr,λJ J=>rfl⟩))
def RZ:vk c x .brk:=λ{n A b r} g h j m S Q k s q X=>by
 obtain⟨p,rfl⟩:=zP (beq_iff_eq.mp h);exact aA (aL (aF ⟨.brk,j,m,k,.refl s,.brk,q,X,S.fr,λJ J=>rfl⟩))
def TO{b:Ss}(j:qN c x b):vk c x (.tr b):=λ{n A k D} r h u m S Q v s q X=>by
 have w:=(br h)
 refine D7 (ET (eq_of_beq (bl (bl (bl h))))) λy G M O p g=>?_
 subst g;have B:=List.isEmpty_iff.mp (br (bl (bl h)));have C:=List.isEmpty_iff.mp (br (bl h));subst B C;refine aA (aL ?_);refine aA (nH (aJ (j y w u m S Q v s q X) (λf U z=>?_) λJ J z=>z.elim));induction f with
 |next=>exact aF z
 |_=>exact aF z
def I0:vk c x .dead:=λJ J J J J J J J q J=>q.elim
def Ha:qN c x .nil:=λ{n A g p} b h j m S Q k s q X=>by
 delta Al at h;have:b= []:=by simpa using h
 subst this;exact aF ⟨.next,j,m,k,.refl s,.next,q,X,S.fr,λJ J=>rfl⟩
def DN{st:S}{D:Ss}(G:vk c x st)(M:qN c x D):qN c x (.cons st D):=λ{n A O vs} k h U m S Q Y s q X=>by
 unfold Al at h;induction k with
 |nil=>exact fT h
 |cons p r=>
  simp only [UQ] at h;refine aA (aJ (G p h.1.2 U m S _ Y s q X) (λf s1 z=>?_) λJ J z=>z);obtain⟨fl,b,u,g,w,r1,y,B,C,j⟩:=z;induction r1 with
  |next=>exact aJ (M r h.2 b u (S.at C) Q g s1 y B) (λf s2 z=>z.from w j) λJ J z=>z
  |brk=>exact aF ⟨.brk,b,u,g,w,.brk,y,B,C,j⟩
  |ret v=>exact aF ⟨.ret (er v),b,u,g,w,.ret v,y,B,C,j⟩
mutual
theorem sOk(G:Good3 c x):∀st:S,vk c x st
 | .ex e=>Tp G
 | .asg t e=>SN G
 | .asgN h e=>Jf G
 | .asgT t u e=>Hy G
 | .augA o i j e=>H5 G
 | .ite t a b=>Q9 G (vM G a) (vM G b)
 | .whl t b=>MM G (vM G b)
 | .forIn h g b=>DH G (vM G b)
 | .forEn p q g b=>Et G (vM G b)
 | .forEn0 g=>Ca G
 | .ret e=>Ki G
 | .ret0=>IV
 | .brk=>RZ
 | .tr b=>TO (vM G b)
 | .dead=>I0
theorem vM(G:Good3 c x):∀b:Ss,qN c x b
 | .nil=>Ha
 | .cons st b=>DN (sOk G st) (vM G b)
end
def Ik(G:Good3 c x)(b:Ss):qN c x b:=vM G b
end
end
section
structure bT where
 vs:List (Option Str)
 np:Nat
 ps:List Str
 dflt:List V
 body:Ss
structure rp where
 df:iS->Option bT
 meth:iS->Nat->Option iS
 cls:iS->Bool
 init:iS->Option iS
noncomputable def rp.ok(T:rp)(a:iS):Bool:=(T.df a).isSome||(T.init a).isSome
noncomputable def dh:Nat->List V->Fs
 |_,[]=> []
 |k,v::r=>(k,v)::dh (k+1) r
noncomputable def rp.cf(T:rp):Nat->iS->List V->PT V
 |0=>λJ J J J=>False
 |n+1=>λf c Q b=>match T.df f with
  |some d=>c.length=d.np/\aZ ⟨T.ok,T.meth,T.cls,T.init,λJ=>rp.cf T n⟩ n d.body (λg J b=>match g with| .ret v=>Q v b| .next=>Q .none b| .brk=>False) (dh 0 (c++d.dflt)) b
  |none=>False
noncomputable def rp.cx(T:rp)(n:Nat):Cx:=⟨T.ok,T.meth,T.cls,T.init,λJ=>T.cf n⟩
theorem wI:∀(vs:List V) (k i:Nat) (v:V),aC (dh k vs) i=some v->k<=i/\vs[i-k]? =some v
 | [],k,i,v,h=>by exact nN h
 |u::r,k,i,v,h=>by
  unfold dh aC at h;by_cases e:k=i
  ·rw [eX e] at h;subst e;simpa using h
  ·rw [if_neg e] at h;obtain⟨b,c⟩:=wI r (k+1) i v h;refine⟨by exact GV b,?_⟩;rw [(by exact JY b:i-k=(i-(k+1))+1)];exact c
inductive G5(c:bo)(f:iS)(d:bT):Prop
 |mk (oc) (od) (fd:Zc) (osl) (body:List WE) (h1:c.K.lookup f=some ⟨oc,od,.func fd,osl⟩) (h2:codeIn c.K fd.code fd.qualname=true) (h3:fd.body=.stmts body) (h4:fd.closure= []) (h5:fd.scope.isCoroutine=false) (h6:fd.scope.isGenerator=false)
  (h7:fd.scope.kind=.function) (h8:fd.globals=UX) (h9:fd.builtins=Xj) (h10:fY d.vs=true) (h11:∀x∈d.ps,stN fd.scope x=true) (h12:Al c fd.scope d.vs d.body body=true)
  (h13:∀(s:bS) (as:List Value),c.K.In s.heap->as.length=d.np->∃binds,aa8 s fd ⟨as,[]⟩ binds/\binds.map (·.1)=d.ps/\binds.map (λb=>er b.2)=as.map er++d.dflt)
  (slots:∀i:Nat,i<d.ps.length->d.vs[i]? =some (d.ps[i]?))
structure Dd(c:bo)(T:rp):Prop where
 good:∀n,Good3 c (T.cx n)
 keep:∀a,T.ok a=true->Y7 c.K (.ref a)=true
 df:∀f d,T.df f=some d->G5 c f d
 init:∀C i,T.init C=some i->makesIn c.K C=true/\V2 c.K (.ref C) "__init__" =some (some (.ref i))/\aaR c.K (.ref i)=some (.type "function")/\c.cls C=true
 lim:∀h,c.K.In h->h.NoLimit
section
variable{prog:Vd}{w:Va}{A:Bs}{R:V1->bS->Prop}{s:bS}
def xh{b:List WE}{env:Env}(h:bD (pR prog w) (A.under (.func b env)) (aaw b env) (λf c=>R (.ok (.ret (match f with| .ret v=>v|_=>.none))) c) No s):co (pR prog w) A (.func b env) R s:=by
 refine bz ?_;refine(aD (wpAny_point (aA (bI (aJ h (λf c z=>?_) λJ J z=>z.elim)))):bD _ _ (point>>=λJ=>(aaw b env).onRaise (leaving env)>>=λf=>match f with| .ret v=>ret v|_=>ret .none) _ _ s);induction f<;>exact aF z
def BL{a:iS}{j:Args}{o:Obj}{fd:Zc}{k:List WE}{b:List (Str×Value)}(p:A.depth<recursionLimit)(M:s.heap.get? a=some o)(x:o.data=.func fd)(y:fd.scope.isCoroutine=false)
  (u:fd.scope.isGenerator=false) (r:fd.body=.stmts k) (B:s.heap.CodeRec fd.code fd.qualname) (O:aa8 s fd j b) (v:fd.closure= [])
  (h:tL (pR prog w) A.in1 (abU fd.scope fd.globals [] b (fd.qualname++ ".<locals>.") (some a) fd.code none fd.builtins)
    (λenv g=>g.heap.NoLimit/\co (pR prog w) A (.func k env) R g) (λe Q=>R (.error e) Q) s):
  co (pR prog w) A (.call (.ref a) j) R s:=by
 refine bz ?_;refine aD (Wq M ?_);refine Km B λc Y vs tq G C D U=>?_
 simp only [x,callFunction,y,u,r,G];rw [G,<-v] at h;refine aD (Wx C D U (aA (aF (aD (O _ _ _ _ (aD (UZ h (λenv g m=>?_) λJ J z=>z)))))));exact aD (wpAny_enterFrame m.1 p (aF ⟨rfl,rfl,m.2⟩))
end
section
variable{c:bo}{A:Bs}{pr:PH}{x:Cx}{n:Nat}
theorem qb{k:Str->Option Wk}:∀ {b:List (Str×Value)} {m:Str->Option Value} {x:Str},x∉b.map (·.1)->bindL k b m x=m x
 | [],m,x,_=>rfl
 |(y,v)::r,m,x,h=>by
  simp only [IS,VT,not_or] at h;refine(qb h.2).trans ?_;split
  ·exact if_neg h.1
  ·rfl
theorem qk{k:Str->Option Wk}:∀ {b:List (Str×Value)} {m:Str->Option Value} {x:Str},x∉b.map (·.1)->bindC k b m x=m x
 | [],m,x,_=>rfl
 |(y,v)::r,m,x,h=>by
  simp only [IS,VT,not_or] at h;refine(qk h.2).trans ?_;split
  ·rfl
  ·exact if_neg h.1
theorem wQ{k:Str->Option Wk}:∀ {b:List (Str×Value)} {m:Str->Option Value} {x:Str} {v:Value},(b.map (·.1)).Nodup->(x,v)∈b->k x=some .local->bindL k b m x=some v
 |(y,u)::r,m,x,v,c,hm,g=>by
  simp only [IS,aax] at c;unfold bindL;rcases List.mem_cons.mp hm with e|hm
  ·cases e;rw [qb c.1,eX g];exact eX rfl
  ·exact wQ c.2 hm g
theorem uY{k:Str->Option Wk}:∀ {c:List (Str×Value)} {m:Str->Option Value} {x:Str} {v:Value},(c.map (·.1)).Nodup->(x,v)∈c->k x≠some .local->bindC k c m x=some v
 | [],m,x,v,g,hm,h=>nM hm
 |b::r,m,x,v,g,hm,h=>by
  have g:=List.nodup_cons.mp g;rcases List.mem_cons.mp hm with e|hm
  ·subst e;refine(qk g.1).trans ?_;rw [if_neg h];exact eX rfl
  ·show bindC k r _ x=_;exact uY g.2 hm h
set_option tactic.hygienic true in
theorem f6:∀(b:List (Str×Wk)) (k:Nat) (c:List (Str×iS)) (y:Str),((y,Wy)∈b\/∃a,(y,a)∈c)->∃a,(y,a)∈Yz k b c
 | [],k,c,y,h=>by
  rcases h with h|h
  ·exact nM h
  ·exact h
 |(z,j)::r,k,c,y,h=>by
  unfold Yz;split
  ·rename_i g;have g:j=.cell:=by simpa using g
   subst g;refine f6 r _ _ y ?_;rcases h with h|⟨a,h⟩
   ·rcases List.mem_cons.mp h with e|h
    ·cases e;exact .inr ⟨k,FS⟩
    ·exact .inl h
   ·exact .inr ⟨a,ES _ h⟩
  ·rename_i g;refine f6 r _ _ y ?_;rcases h with h|h
   ·rcases List.mem_cons.mp h with e|h
    ·cases e;exact absurd rfl g
    ·exact .inl h
   ·exact .inr h
def s7{b:List (Str×Wk)}{k:Nat}{y:Str}(h:b.lookup y=some .cell):∃a,(Yz k b []).lookup y=some a:=by
 obtain⟨a,c⟩:=f6 b k [] y (.inl (mem_of_lookup h));exact gk c
structure xa(n:Nat)(A:Bs):Prop where
 hd:A.handled=none
 depth:A.depth+2*n+3<700
 units:A.units+8*n+12<9000
 gd:A.guards=some []
def sU.toC(h:sU (n+1) A):xa n A:=⟨h.hd,by exact Qh h.depth,by exact LD h.units,h.gd⟩
def sU.make(h:sU (n+1) A){C:iS}{b:List Value}{c:List (Str×Value)}:xa n (A.under (.builtin "type.__call__" ⟨.ref C::b,c⟩)):=by
 have g:=h.units;refine⟨h.hd,?_,?_,?_⟩
 ·exact OK h.depth rfl
 ·exact Jw g rfl
 ·refine(h.gd.trans ?_:pushGuards (Code.builtin "type.__call__" ⟨.ref C::b,c⟩).guards A.guards=some []);rfl
def xa.room(h:xa n A):A.depth<recursionLimit:=Nat.lt_of_lt_of_le (by exact JT h.depth:A.depth<700) (by decide)
theorem xa.func(h:xa n A)(b:List WE)(env:Env):sU n (A.under (.func b env)):=by
 have c:=h.units;refine⟨h.hd,?_,?_,?_⟩
 ·exact Qf h.depth rfl
 ·exact Kv c rfl
 ·refine(h.gd.trans ?_:pushGuards (Code.func b env).guards A.guards=some []);rfl
set_option tactic.hygienic true in
def yV{T:rp}(K:Dd c T)(IH:pV c (T.cx n) n)(hA:xa n A){f:iS}{d:bT}(hf:T.df f=some d){as:List Value}{Q:V->H->Prop}{σ:H}{s:bS}(hl:as.length=d.np)
  (q:aZ (T.cx n) n d.body (λfl J σ=>match fl with| .ret v=>Q v σ| .next=>Q .none σ| .brk=>False) (dh 0 (as.map er++d.dflt)) σ) (X:I c pr σ s.heap):
  co (pR c.prog c.w) A (.call (.ref f) ⟨as,[]⟩) (λr s'=>match r with| .ok (.ret v)=>Ends c pr er Q s v s'|_=>False) s:=by
 obtain⟨oc,od,fd,bb,ag,h1,h2,h3,h4,h5,h6,h7,h8,h9,an,ax,ay,az,ah⟩:=K.df f d hf;refine dQ (az s as X.K hl) λD a0 ac a1=>?_
 refine BL hA.room (X.K _ _ h1) rfl h5 h6 h3 (codeRec_of X.K h2) a0 h4 ?_;have G:∀b∈D,fd.scope.names.lookup b.1=some .local\/(fd.scope.names.lookup b.1=some .cell/\((Yz (s.heap.objs.size+1) fd.scope.names []).lookup b.1).isSome=true):=λb p=>by
  have hs:=ax b.1 (by exact ac▸List.mem_map.mpr ⟨b,p,rfl⟩);unfold stN at hs;split at hs
  ·rename_i e;exact .inl e
  ·rename_i e;obtain⟨a,ha⟩:=s7 (k:=s.heap.objs.size+1) e;exact .inr ⟨e,by rw [ha];rfl⟩
  ·exact absurd hs (by decide)
 refine wpAny_newFunctionEnv_cells h7 G λg u s1 C=>?_
 have B:g.scope=fd.scope:=by rw [u];rfl
 have ao:g.locals=s.heap.objs.size:=by rw [u];rfl
 have ap:g.cells=Yz (s.heap.objs.size+1) fd.scope.names []:=by rw [u];rfl
 have a2:g.globals=mainGlobals:=by exact u▸h8
 have a3:g.builtins=builtinsNs:=by rw [u];exact h9
 obtain⟨⟨⟨hh,tt,ai⟩,a4,M,bc⟩,O,ae,x⟩:=C;refine⟨(K.lim _ X.K).keeps M,xh ?_⟩
 classical
 let U:PH:=λb=>if Fa g b then s1.heap.get? b else pr b
 have aj:∀b,Fa g b->s.heap.objs.size<=b:=λb p=>by
  rcases p with rfl|⟨y,Y⟩
  ·exact ao▸oP _
  ·have:=x y b (mem_of_lookup Y);rw [ao] at this;exact XM this
 have aa:∀b o,pr b=some o->¬Fa g b:=λb o e p=>by
  have e:=X.prFresh (aj b p)▸e;cases e
 have h:∀b,Fa g b->U b=s1.heap.get? b:=λb p=>eX p
 have m:∀b,¬Fa g b->U b=pr b:=λb p=>if_neg p
 have XF:I c U σ s1.heap:=X.addF M (λb o q=>by
  by_cases p:Fa g b
  ·rw [h b p] at q;exact .inr ⟨aj b p,q⟩
  ·rw [m b p] at q;exact .inl q) λb o q=>by exact(m b (aa b o (X.kin b o q))).trans (X.kin b o q)
 have aq:(D.map (·.1)).Nodup:=by
  rw [ac];refine List.pairwise_iff_getElem.mpr λi j hi hj a5 e=>?_
  have e1:=ah i hi;have e2:=ah j hj;rw [yS hi] at e1;rw [yS hj,<-e] at e2;exact absurd (jD an i j _ e1 e2) (OO a5)
 have FF:fg c g d.vs U (dh 0 (as.map er++d.dflt)):=by
  refine qo a4 λoL GJ ar au av aw a6=>?_
  refine⟨by exact B▸h7,jD an,⟨oL,GJ,ar,by rw [h _ (.inl rfl)];exact au,av,aw⟩,λy cc Y=>?_,λy z cc Y hz=>name_of_addr ae (mem_of_lookup Y) (mem_of_lookup hz),λy cc Y=>?_,λb p=>?_,λi y v hi hv bd=>?_⟩
  ·refine bp (O y cc Y) λo ho hd=>?_
   exact⟨o,_,by rw [h _ (.inr ⟨y,Y⟩)];exact ho,hd⟩
  ·have:=x y cc (mem_of_lookup Y);exact XJ this
  ·exact cj X (X.prFresh (aj b p))
  ·obtain⟨_,hv⟩:=wI _ 0 i v hv;rw [Y5,<-a1,PR] at hv;refine bp (Option.map_eq_some_iff.mp hv) λb ak af=>?_
   subst af;have a7:=by
    have a8:i<d.ps.length:=by
     rw [<-ac,eS];exact(List.getElem?_eq_some_iff.mp ak).1
    have:=ah i a8;rw [hi,<-ac,PR,ak] at this;simpa using this
   subst a7;have ab:=VD ak;refine⟨b.2,rfl,?_⟩;rcases G b ab with al|⟨al,a9⟩
   ·have w:g.kindOf b.1=some .local:=by show g.scope.names.lookup b.1=_;exact B▸al
    refine .inl ⟨w,oL,GJ,ar,by rw [h _ (.inl rfl)];exact au,av,aw,?_⟩;rw [a6];exact wQ aq ab w
   ·have w:g.kindOf b.1=some .cell:=by show g.scope.names.lookup b.1=_;exact B▸al
    obtain⟨a,ha⟩:=Option.isSome_iff_exists.mp a9;have ha:=ap▸ha;refine bp (O b.1 a ha) λo ho hd=>?_
    refine .inr ⟨.inl w,a,o,ha,by rw [h _ (.inr ⟨_,ha⟩)];exact ho,?_⟩;rw [hd,uY aq ab (by exact w▸λe=>by exact absurd e (by decide))]
 refine aJ (Ik (K.good n) d.body ag (by refine B▸ ?_;exact ay) U _ ⟨hA.func ag g,⟨a2,a3,by rw [B];exact h7,λy Y=>by rw [B] at Y;exact ap▸s7 Y⟩,FF,IH,K.keep⟩ _ σ s1 q XF) (λfl s2 z=>?_) λJ J z=>z
 obtain⟨be,bf,m2,am,e2,r2,q2,X2,F2,ba⟩:=z
 have back:I c pr am s2.heap:=X2.weaken (λb o e=>by
  have p:=aa b o e
  rw [ba b p,m b p];exact e) X.kin
 have e0:aU s s1:=⟨hh,tt,ai⟩
 cases r2 with
 |next=>exact⟨e0.trans e2,am,q2,back⟩
 |brk=>exact q2.elim
 |ret v=>exact⟨e0.trans e2,am,q2,back⟩
end
end
section
section
variable{prog:Vd}{w:Va}{A:Bs}{s:bS}
def IQ{K:YY}{C x:iS}{as:List Value}{Q:Value->bS->Prop}(X:K.In s.heap)(hm:makesIn K C=true)(hi:V2 K (.ref C) "__init__" =some (some (.ref x)))(hf:aaR K (.ref x)=some (.type "function"))
  (h:co (pR prog w) (A.under (.builtin "type.__call__" ⟨.ref C::as,[]⟩)) (.call (.ref x) ⟨.ref (s.heap.objs.size+1)::as,[]⟩) (λr D=>match r with| .ok (.ret v)=>v=.none/\Q (.ref (s.heap.objs.size+1)) D|_=>False)
   {s with heap:=(s.heap.push W.emptyDict).push (Wg C s.heap.objs.size)}):bD (pR prog w) A (call (.ref C) as) Q No s:=by
 obtain⟨c,g,d,tk,os⟩:=s;have Y:=makes_of (M:=pR prog w) X hm;have Y':=Y;obtain⟨⟨oc,od,cd,sl,G,e1,e2,e4⟩,m,O,p,aa,j,y⟩:=Y;have u:Y6 (pR prog w) c (Vb (.ref C) "__init__") (some (.ref x)):=looks_findIn X hi;refine iL (bz ?_);show bD _ _ (callAny (.ref C) _) _ _ _;unfold callAny;dsimp only;refine aD (Wq G ?_);show bD _ _ (Zk (.ref C) _) _ _ _;unfold Zk;refine aD (j.at ?_);dsimp only;rw [tc_bind];refine aA (aF (aD (fS ?_)));refine aF ⟨rfl,rfl,?_⟩;have cc:(call (.ref C) as:Sem Value)=call (.ref C) as:=rfl;refine bz ?_;show bD _ _ (Vg "type.__call__" ⟨.ref C::as,[]⟩>>=λJ=>again (.builtin "type.__call__" ⟨.ref C::as,[]⟩)) _ _ _;refine aD (check_slot tc_kind tc_split y (tc_args _ _ _) (aF ⟨Zr _ (by decide+kernel),(show Builtin.Bytes.decodersThatHold.contains "type.__call__" =false by decide+kernel),gb F.entry_type_call ?_⟩));unfold Builtin.«type.__call__»;dsimp only;have B:Y6 (pR prog w) c (mroOf (.ref C)) cd.mro:=((ab1 (part:=none) G).andThen .now).andThen .now;rw [if_neg (show ¬((Value.ref C==Value.type "type")=true) from Zq)];refine aD (B.at ?_);rw [e4];simp only [Bool.false_eq_true,if_false];refine aD (m.at ?_);dsimp only;refine aA (aF ?_);refine aD (LO (aaN (new_K Y' u (.inl rfl) ?_)));have k:∀b o,c.get? b=some o->((c.push W.emptyDict).push (Wg C c.objs.size)).get? b=some o:=λb o e=>sT _ (sT _ e)
 have hx:((c.push W.emptyDict).push (Wg C c.objs.size)).get? (c.objs.size+1)=some (Wg C c.objs.size):=by heap_get
 have U:Y6 (pR prog w) ((c.push W.emptyDict).push (Wg C c.objs.size)) (typeOf (.ref (c.objs.size+1))) (.ref C):=(ab1 hx).andThen .now;have s1:=p.keeps k;have i1:=u.keeps k;have b1:=(bind_fn (M:=pR prog w) X (.ref (c.objs.size+1)) hf).keeps k;dsimp only;have inst:Y6 (pR prog w) ((c.push W.emptyDict).push (Wg C c.objs.size)) (aaO (.ref (c.objs.size+1)) (.ref C)) true:=U.andThen s1;refine aD (inst.at ?_);rw [if_neg (by decide)];unfold callSpecial? Yv;refine aA (aK (aD (aS (U.at (i1.at ?_)))));dsimp only;refine aK (aD (b1.at (aA (iL (eF h λr D z=>?_)))));cases r with
 |error e=>exact z
 |ok fl=>
  cases fl with
  |ret v=>
   obtain⟨rfl,z⟩:=z;exact aF (aF z)
  |_=>exact z
end
set_option tactic.hygienic true in
def Db{c:bo}{T:rp}(K:Dd c T):∀n,pV c (T.cx n) n:=by
 intro n;induction n with
 |zero=>
  intro A x f h g Q j s q X;refine CX q (λt q=>Cz (K.good 0).toGood g t h Q j s q X) (λt q=>.of (BF g t h Q j s q X)) λa q=>?_
  obtain⟨_,q⟩:=q;split at q
  ·exact(q _ (X.fresh (oP _))).elim
  ·exact q.elim
 |succ n y=>
  intro A x f h g Q j s q X;refine CX q (λt q=>Cz (K.good 0).toGood g t h Q j s q X) (λt q=>.of (BF g t h Q j s q X)) λa q=>?_
  ·obtain⟨_,q⟩:=q;split at q
   ·rename_i i B;refine q8 (K.init a i B) λC D G M=>?_
    have q:=q _ (X.fresh (WH _));unfold rp.cx rp.cf at q;split at q
    ·rename_i d m;obtain⟨p,q⟩:=q;have k:∀b o,s.heap.get? b=some o->((s.heap.push W.emptyDict).push (Wg a s.heap.objs.size)).get? b=some o:=λb o e=>sT _ (sT _ e)
     have O:I c x (j.put (s.heap.objs.size+1) (.inst a [])) ((s.heap.push W.emptyDict).push (Wg a s.heap.objs.size)):=
      have U:=by
       have:=GD (s.heap.push W.emptyDict) (o:=Wg a s.heap.objs.size) rfl
       rwa [Heap.size_push] at this
      X.allocI k (WH _) (oP _) (TS (Wj _)) ⟨U,M, #[],0,VG #[],(sT _ (GD _ rfl)),(by intro e Y;simp at Y),λJ=>rfl,λi J=>rfl,oP _⟩
     refine IQ X.K C D G (eF (yV K y g.make m (as:=.ref (s.heap.objs.size+1)::h) (eS .. ▸p) q O) λr s' z=>?_);cases r with
     |error e=>exact z
     |ok u=>
      cases u with
      |ret v=>
       obtain⟨e,w,⟨hv,q'⟩,X'⟩:=z;exact⟨jL hv,(aU.mkH s _).trans e,w,q',X'⟩
      |_=>exact z
    ·exact q.elim
   ·unfold rp.cx rp.cf at q;split at q
    ·rename_i d m;obtain⟨p,q⟩:=q;refine iL (eF (yV K y g.toC m (by simpa using p) q X) λr s' z=>?_);cases r with
     |error e=>exact z
     |ok u=>cases u<;>exact z
    ·exact q.elim
end
noncomputable def zM(b:List (Str×Value))(l:List (Str×Value)):List (Str×Value):=l.foldl (λs p=>if (s.lookup p.1).isNone then s++ [p] else s) b
theorem kC(f:Str×Value->List (Str×Value)->Sem (ForInStep (List (Str×Value))))(c:∀p s,f p s=if (s.lookup p.1).isNone then pure (.yield (s++ [p])) else pure (.yield s)):
  ∀(l b:List (Str×Value)),forIn l b f=(pure (zM b l):Sem _)
 | [],b=>by exact(List.forIn_nil)
 |p::r,b=>by
  rw [aau,c];unfold zM;rw [VV];split
  ·exact kC f c r _
  ·exact kC f c r _
theorem kW{c:Type}:∀ {ps:List Str} {as:List c} {y:Str},as.length=ps.length->y∈ps->((ps.zip as).lookup y).isSome=true
 |p::ps,a::as,y,b,hy=>by
  rw [Vt,UR];cases h:y==p with
  |true=>rfl
  |false=>
   rcases List.mem_cons.mp hy with e|hy
   ·subst e;simp at h
   ·exact kW (by exact Vf b) hy
 | [],_,y,_,hy=>by exact nM hy
 |_::_,[],_,b,_=>by cases b
theorem vd{c j:Type}{f g:c->Option j}:∀ {l:List c},(∀a∈l,f a=g a)->l.filterMap f=l.filterMap g
 | [],_=>rfl
 |a::r,h=>by rw [VO,VO,h a FS,vd λb k=>h b (ES _ k)]
def vJ{h:Type}:∀ {ps:List Str} {as:List h},ps.Nodup->as.length=ps.length->ps.filterMap (λn=>((ps.zip as).lookup n).map (n,·))=ps.zip as:=by
 intro ps;induction ps with
 |nil=>intro as _ _;rfl
 |cons p ps j=>
  intro as c g;rcases as with _|⟨a,as⟩
  ·simp at g
  ·
   rw [Vt,VO];rw [(by simp:abu p ((p,a)::ps.zip as)=some a)];simp only [WS]
   congr 1
   refine(vd λy k=>?_).trans (j (List.nodup_cons.mp c).2 (by exact Vf g));have b:(y==p)=false:=by
    rw [beq_eq_false_iff_ne];rintro rfl;exact(List.nodup_cons.mp c).1 k
   rw [UR,b]
def qp{b:Type}:∀ {ps:List Str} {as:List b},as.length=ps.length->(ps.zip as).map (·.1)=ps:=λh=>XW (W5 h.symm)
def wa{b:Type}:∀ {ps:List Str} {as:List b},as.length=ps.length->(ps.zip as).map (·.2)=as:=λh=>List.map_snd_zip (W5 h)
theorem sQ:∀ {l b:List (Str×Value)},(∀p∈l,(b.lookup p.1).isSome=true)->zM b l=b
 | [],_,_=>rfl
 |p::r,b,h=>by
  refine List.foldl_cons.trans ?_;have c:=h p FS;rw [if_neg (by generalize q:b.lookup p.1=g;induction g with|none=>have c:=q▸c;exact fT c|some v=>simp)];exact sQ λq j=>h q (ES _ j)
noncomputable def MR(ps:List Str)(D as:List Value):List (Str×Value):=ps.filterMap λn=>((zM (ps.zip as) ((ps.drop (ps.length-(D.drop (D.length-ps.length)).length)).zip (D.drop (D.length-ps.length)))).lookup n).map (n,·)
def wF{fd:Zc}{ps:List Str}{as:List Value}{dv:Option (Array Value)}{s:bS}(hp:fd.params.posonlyargs= [])(g:fd.params.args.map (·.arg)=ps)(j:fd.params.kwonlyargs= [])(k:fd.params.vararg=none)(m:fd.params.kwarg=none)
  (r:∀(M:VX) (A:Bs) (E:Value->bS->Prop) (Q:Option (Array Value)->bS->Prop),Q dv s->tL M A (seqItems? fd.defaults) Q E s)
  (c:as.length<=ps.length) (b:(ps.take (ps.length-((dv.getD #[]).toList.drop ((dv.getD #[]).toList.length-ps.length)).length)).filter (λn=>((ps.zip as).lookup n).isNone)= []):
  aa8 s fd ⟨as,[]⟩ (MR ps (dv.getD #[]).toList as):=by
 obtain⟨u,v,⟨w,x,y,B,C,D,G⟩,J,O,U,Y,f7,f8⟩:=fd;dsimp only at hp j k m g r;subst hp j k m g;intro M A E Q q;refine aS (fS ?_);refine aS (r _ _ _ _ ?_);refine cX (λh=>absurd (EX (bl h)) (Nat.not_lt.mpr c)) ?_;refine cX (λh=>Vp ((congrArg (λz=> !List.isEmpty z) b).symm.trans h)) ?_;rw [kC _ (λp s=>by obtain⟨n,d⟩:=p;rfl)];exact fS ((congrArg (λz=>Q (List.filterMap _ z) s) (U9 _)).mpr q)
def Ao{ps:List Str}{D as:List Value}(c:ps.Nodup)(b:as.length=ps.length):MR ps D as=ps.zip as:=by
 unfold MR;rw [sQ λp hp=>kW b (Zi (Yg hp).1)];exact vJ c b
def ta{ps:List Str}{as:List Value}(b:as.length=ps.length)(k:Nat):(ps.take k).filter (λn=>((ps.zip as).lookup n).isNone)= []:=by
 rw [List.filter_eq_nil_iff];intro y c;have:=kW (as:=as) b (VE c);generalize q:(ps.zip as).lookup y=g;induction g with
 |none=>have this:=q▸this;exact fT this
 |some v=>simp
theorem ig{b:Type}:∀ {ps:List Str} {as:List b} {y:Str},y∉ps.take as.length->(ps.zip as).lookup y=none
 | [],_,_,_=>rfl
 |_::_,[],_,_=>rfl
 |p::ps,a::as,y,h=>by
  rw [UP,List.take_succ_cons,VT,not_or] at h;exact(UR).trans (beq_eq_false_iff_ne.mpr h.1▸ig h.2)
theorem vw{b:Type}:∀ {ps:List Str} {as:List b} {z:Str} {d:b},as.length=ps.length->(ps++ [z]).zip (as++ [d])=ps.zip as++ [(z,d)]
 | [],[],_,_,_=>rfl
 |p::ps,a::as,z,d,h=>by rw [XX,XX,Vt,vw (by exact Vf h)];rfl
 | [],_::_,_,_,h=>by exact absurd h (VN _)
 |_::_,[],_,_,h=>by simp at h
theorem mV{c:Type}:∀ {ps b:List Str} {as:List c},as.length=ps.length->(ps++b).zip as=ps.zip as
 | [],b,[],_=>by simp
 |p::ps,b,a::as,h=>by rw [XX,Vt,Vt,mV (by exact Vf h)]
 | [],_,_::_,h=>by exact absurd h (VN _)
 |_::_,_,[],h=>by simp at h
def EC{ps:List Str}{z:Str}{d:Value}{as:List Value}(b:(ps++ [z]).Nodup)(c:as.length=ps.length):MR (ps++ [z]) [d] as=(ps++ [z]).zip (as++ [d]):=by
 unfold MR;rw [(by simp:([d]:List Value).drop (([d]:List Value).length-(ps++ [z]).length)= [d])];rw [(by simp:(ps++ [z]).drop ((ps++ [z]).length-([d]:List Value).length)= [z]),mV c];have g:zM (ps.zip as) (([z]:List Str).zip [d])=(ps++ [z]).zip (as++ [d]):=by
  unfold zM;have j:(ps.zip as).lookup z=none:=ig λh=>by
   rw [List.nodup_append] at b;exact b.2.2 z (VE h) z (by exact .head _) rfl
  simp only [Vt,List.zip_nil_left,VV,List.foldl_nil,j,Option.isNone_none,if_true];rw [vw c]
 rw [g];exact vJ b (by simp [c])
def AK{ps:List Str}{z:Str}{as:List Value}(b:as.length=ps.length):((ps++ [z]).take ps.length).filter (λn=>(((ps++ [z]).zip as).lookup n).isNone)= []:=by
 rw [mV b,List.take_left']
 ·have:=ta (as:=as) b ps.length
  rwa [UV] at this
 ·rfl
noncomputable def wL(K:YY):Value->Option (Option (Array Value))
 | .none=>some none
 | .ref T=>(match K.lookup T with
  |some ⟨_,_,.seq b _,_⟩=>some (some b)
  |_=>none)
 |_=>none
set_option tactic.hygienic true in
def vy{K:YY}{v:Value}{dv:Option (Array Value)}{s:bS}(X:K.In s.heap)(h:wL K v=some dv)(M:VX)(A:Bs)(E:Value->bS->Prop)(Q:Option (Array Value)->bS->Prop)(q:Q dv s):tL M A (seqItems? v) Q E s:=by
 unfold wL at h;induction v with
 |none=>obtain rfl:=eQ h;exact aS (fS (fS q))
 |ref T=>
  dsimp only at h;generalize b:K.lookup T=g;induction g with
  |none=>rw [b] at h;exact nN h
  |some o=>
   rw [b] at h;obtain⟨c,d,j,k⟩:=o;induction j with
   |seq m n=>obtain rfl:=eQ h;exact aS (Wq (X _ _ b) (fS q))
   |_=>exact nN h
 |_=>exact nN h
noncomputable def qt:List Str->Bool
 | []=>true
 |x::r=> !r.contains x&&qt r
theorem oT:∀ {l:List Str},qt l=true->l.Nodup
 | [],_=>abv
 |x::r,h=>by
  exact List.nodup_cons.mpr ⟨bm (bl h),oT (br h)⟩
noncomputable def Gi(K:YY)(fd:Zc)(d:bT):Bool:=
 fd.params.posonlyargs.isEmpty&&fd.params.kwonlyargs.isEmpty&&fd.params.vararg.isNone&&fd.params.kwarg.isNone&&(fd.params.args.map (·.arg)==d.ps)&&qt d.ps&&
  (match d.dflt with
  | []=>d.np==d.ps.length&&(wL K fd.defaults).isSome
  | [v]=>d.np+1==d.ps.length&&(match wL K fd.defaults with|some (some b)=>(match b.toList with| [u]=>er u==v|_=>false)|_=>false)
  |_=>false)
set_option tactic.hygienic true in
def Aw{K:YY}{fd:Zc}{d:bT}(h:Gi K fd d=true)(s:bS)(as:List Value)(X:K.In s.heap)(y:as.length=d.np):
  ∃binds,aa8 s fd ⟨as,[]⟩ binds/\binds.map (·.1)=d.ps/\binds.map (λb=>er b.2)=as.map er++d.dflt:=by
 have B:=List.isEmpty_iff.mp (bl (bl (bl (bl (bl (bl h))))));have C:=List.isEmpty_iff.mp (br (bl (bl (bl (bl (bl h))))));have D:=Option.isNone_iff_eq_none.mp (br (bl (bl (bl (bl h)))));have G:=Option.isNone_iff_eq_none.mp (br (bl (bl (bl h))));have J:=eq_of_beq (br (bl (bl h)));have g:=(br h)
 have O:=oT (br (bl h));rcases hd:d.dflt with _|⟨v,r⟩
 ·
  rw [hd] at g;have c:=y.trans (eq_of_beq (bl g));refine⟨d.ps.zip as,?_,qp c,?_⟩;obtain⟨U,w⟩:=Option.isSome_iff_exists.mp (br g)
  ·have:=wF (fd:=fd) (ps:=d.ps) (as:=as) (dv:=U) (s:=s) B J C D G (λM A E Q q=>vy X w M A E Q q) (W5 c) (ta c _)
   rwa [Ao O c] at this
  ·rw [U9];have:=congrArg (Wz er) (wa (ps:=d.ps) (as:=as) c)
   rwa [VK] at this
 ·
  rw [hd] at g;induction r with
  |cons _ _=>exact fT g
  |nil=>
   have k:=br g;have g:=eq_of_beq (bl g);generalize m:wL K fd.defaults=Y;induction Y with
   |none=>rw [m] at k;exact fT k
   |some o=>
    rw [m] at k;induction o with
    |none=>exact fT k
    |some x=>
     have k:(match x.toList with| [u]=>er u==v|_=>false)=true:=k;rcases hu:x.toList with _|⟨u,t⟩
     ·rw [hu] at k;exact fT k
     ·
      rw [hu] at k;induction t with
      |cons _ _=>exact fT k
      |nil=>
       rcases List.eq_nil_or_concat d.ps with e|⟨p,z,j⟩
       ·rw [e] at g;exact absurd g (VN _)
       ·have j:=j.trans List.concat_eq_append;have c:as.length=p.length:=by have g:=j▸g;simp at g;exact Ms y g
        refine⟨(p++ [z]).zip (as++ [u]),?_,by rw [j];exact qp (by simp [c]),?_⟩
        ·have:=wF (fd:=fd) (ps:=p++ [z]) (as:=as) (dv:=some x) (s:=s) B (J.trans j) C D G (λM A E Q q=>vy X m M A E Q q) (by simp [c]) (by
          refine Zx▸ ?_;refine hu▸ ?_
          exact(by simp:(p++ [z]).length-(Xl (([u]:List Value).length-(p++ [z]).length) [u]).length=p.length)▸AK c)
         rw [Zx,hu,EC (by exact j▸O) c] at this;exact this
        ·rw [<-eq_of_beq k];have:=congrArg (Wz er) (wa (ps:=p++ [z]) (as:=as++ [u]) (by simp [c]));rw [VK] at this;rw [Lo] at this;exact this
structure CK where
 defs:List (iS×bT)
 meths:List (iS×Nat×iS)
 classes:List (iS×Option iS)
noncomputable def CK.tab(L:CK):rp:=⟨λa=>L.defs.lookup a,λC i=>(L.meths.find? (λp=>p.1==C&&p.2.1==i)).map (·.2.2),λa=>(L.classes.lookup a).isSome,λa=>(L.classes.lookup a).join⟩
noncomputable def NL(k:bo)(C:iS):Bool:=
 (clsIn k.K C).any (·.hasDict)&&(V2 k.K (.ref C) "__getattribute__" ==some (some (.builtin "object.__getattribute__")))&&(V2 k.K (.ref C) "__getattr__" ==some none)&&
 (V2 k.K (.ref C) "__setattr__" ==some (some (.builtin "object.__setattr__")))&&Zt k.K C&&(oS 100).all (λi=>V2 k.K (.ref C) (k.nm i)==some none)&&
 (V2 k.K (.ref C) "__eq__" ==some (some (.builtin "object.__eq__")))
noncomputable def FL(k:bo)(C:iS)(i:Option iS):Bool:=match i with
 |some i=>makesIn k.K C&&(V2 k.K (.ref C) "__init__" ==some (some (.ref i)))&&(aaR k.K (.ref i)==some (.type "function"))
 |none=>true
noncomputable def H7(d:bT):Bool:=(oS d.ps.length).all λi=>d.vs[i]? ==some (d.ps[i]?)
noncomputable def QS(k:bo)(f:iS)(d:bT):Bool:=(match k.K.lookup f with
 |some ⟨_,_,.func b,_⟩=>codeIn k.K b.code b.qualname&&(match b.body with| .stmts c=>Al k b.scope d.vs d.body c|_=>false)&&b.closure.isEmpty&& !b.scope.isCoroutine&& !b.scope.isGenerator&&(b.scope.kind==.function)&&
   (b.globals==UX)&&(b.builtins==Xj)&&fY d.vs&&d.ps.all (stN b.scope)&&Gi k.K b d
 |_=>false)&&H7 d
noncomputable def Ja(K:YY):Bool:=match K.lookup cStatics with
 |some ⟨_,_,.dict b _,_⟩=>b.toList.all (λe=>match e.key with| .str .. =>true|_=>false)&&(VG b "sys.recursionlimit").isNone
 |_=>false
noncomputable def IR(k:bo)(L:CK):Bool:=
 (k.K.lookup aaL).isSome&&Ja k.K&&
 L.classes.all (λp=>NL k p.1&&FL k p.1 p.2&&Y7 k.K (.ref p.1))&&
 L.meths.all (λp=>(V2 k.K (.ref p.1) (k.nm p.2.1)==some (some (.ref p.2.2)))&&(aaR k.K (.ref p.2.2)==some (.type "function"))&&Y7 k.K (.ref p.2.2)&&(L.defs.lookup p.2.2).isSome&&((L.classes.lookup p.2.2).join).isNone)&&
 L.defs.all (λp=>QS k p.1 p.2&&Y7 k.K (.ref p.1))
structure M4(nm:Nat->Str):Prop where
 inj:∀i j,i<300->j<300->nm i=nm j->i=j
 nAppend:nm g8=("append" :Str)
 nRemove:nm gV=("remove" :Str)
 nExtend:nm jt=("extend" :Str)
 nGet:nm wO=("get" :Str)
def Hw{v:Value}(h:(match v with| .str .. =>true|_=>false)=true):∃a t,v=.str a t:=by
 induction v with
 |str a t=>exact⟨a,t,rfl⟩
 |_=>exact fT h
set_option tactic.hygienic true in
def DS{K:YY}(h:Ja K=true)(hp:UT)(X:K.In hp):hp.NoLimit:=by
 unfold Ja at h;generalize b:K.lookup cStatics=j;induction j with
 |none=>rw [b] at h;exact fT h
 |some o=>
  rw [b] at h;obtain⟨c,d,k,r⟩:=o;induction k with
  |dict g m=>exact⟨VG g,⟨_,g,m,X _ _ b,rfl,λe p=>Hw (List.all_eq_true.mp (bl h) e p.1),λJ=>rfl⟩,Option.isNone_iff_eq_none.mp (br h)⟩
  |_=>exact fT h
set_option tactic.hygienic true in
def Ed{k:bo}{f:iS}{d:bT}(h:QS k f d=true):G5 k f d:=by
 have s:=br h;have h:=bl h;generalize g:k.K.lookup f=j;induction j with
 |none=>rw [g] at h;exact fT h
 |some o=>
  rw [g] at h;obtain⟨u,v,w,m⟩:=o;induction w with
  |func r=>
   have c:=br (bl (bl (bl (bl (bl (bl (bl (bl (bl h)))))))));generalize p:r.body=j;induction j with
   |stmts b=>
    rw [p] at c
    exact⟨u,v,r,m,b,g,bl (bl (bl (bl (bl (bl (bl (bl (bl (bl h))))))))),p,List.isEmpty_iff.mp (br (bl (bl (bl (bl (bl (bl (bl (bl h))))))))),bn (br (bl (bl (bl (bl (bl (bl (bl h)))))))),bn (br (bl (bl (bl (bl (bl (bl h))))))),
     eq_of_beq (br (bl (bl (bl (bl (bl h)))))),eq_of_beq (br (bl (bl (bl (bl h))))),eq_of_beq (br (bl (bl (bl h)))),br (bl (bl h)),List.all_eq_true.mp (br (bl h)),c,Aw (br h),λi x=>eq_of_beq (List.all_eq_true.mp s i (List.mem_range.mpr x))⟩
   |expr e=>rw [p] at c;exact fT c
  |_=>exact fT h
theorem mem_lookup{c:Type}:∀ {l:List (iS×c)} {a:iS} {b:c},l.lookup a=some b->(a,b)∈l
 |(x,y)::r,a,b,h=>by
  rw [UR] at h;cases q:a==x with
  |true=>have h:=q▸h;obtain rfl:=eQ h;exact beq_iff_eq.mp q▸FS
  |false=>have h:=q▸h;exact ES _ (mem_lookup h)
def DE{k:bo}{L:CK}(z:k.cls=L.tab.cls)(N:M4 k.nm)(h:IR k L=true):Dd k L.tab:=by
 have D:=bl (bl (bl (bl h)));have G:=br (bl (bl (bl h)));have w:=List.all_eq_true.mp (br (bl (bl h)));have M:=List.all_eq_true.mp (br (bl h));have A:=List.all_eq_true.mp (br h);have g:=λC i e=>by
  have e:(L.classes.lookup C).join=some i:=e;generalize q:L.classes.lookup C=x;induction x with
  |none=>have e:=q▸e;exact nN e
  |some j=>rw [q] at e;subst e;exact mem_lookup q
 have u:∀C,k.cls C=true->G3 k C/\V2 k.K (.ref C) "__eq__" =some (some (.builtin "object.__eq__")):=λC e=>by
  have r:∀C,k.cls C=true->∃i,(C,i)∈L.classes/\NL k C=true/\FL k C i=true/\Y7 k.K (.ref C)=true/\L.tab.init C=i:=by
   intro C e;rw [z] at e;refine du (Option.isSome_iff_exists.mp e) λi b=>?_
   have m:=mem_lookup b;have:=w _ m;refine⟨i,m,bl (bl this),br (bl this),br this,?_⟩;show(L.classes.lookup C).join=i;exact b▸rfl
  refine dQ (r C e) λi J s J=>?_
  exact⟨⟨bl (bl (bl (bl (bl (bl s))))),eq_of_beq (br (bl (bl (bl (bl (bl s)))))),eq_of_beq (br (bl (bl (bl (bl s))))),eq_of_beq (br (bl (bl (bl s)))),br (bl (bl s)),λi b=>eq_of_beq (List.all_eq_true.mp (br (bl s)) i (List.mem_range.mpr b))⟩,eq_of_beq (br s)⟩
 refine⟨λn=>{sm:=D,cls:=λC e=>(u C e).1,inj:=N.inj,eq:=λC e=>(u C e).2,meth:=λC i f J v=>?_,nAppend:=N.nAppend,nRemove:=N.nRemove,nExtend:=N.nExtend,nGet:=N.nGet},λa y=>?_,λf d v=>?_,λC i b=>?_,λhp X=>DS G hp X⟩
 ·have v:=v;refine bp (Option.map_eq_some_iff.mp v) λp hp c=>?_
  subst c;have m:=WD hp;have B:=aaq hp;obtain rfl:=eq_of_beq (bl B);obtain rfl:=eq_of_beq (br B);have:=M p m;exact⟨eq_of_beq (bl (bl (bl (bl this)))),eq_of_beq (br (bl (bl (bl this)))),br (bl (bl this)),Bool.or_eq_true_iff.mpr (.inl (br (bl this))),Option.isNone_iff_eq_none.mp (br this)⟩
 ·have y:=y;rcases Bool.or_eq_true_iff.mp y with e|e
  ·obtain⟨d,O⟩:=Option.isSome_iff_exists.mp e;exact br (A _ (mem_lookup O))
  ·obtain⟨i,b⟩:=Option.isSome_iff_exists.mp e;exact br (w _ (g a i b))
 ·exact Ed (bl (A _ (mem_lookup v)))
 ·have m:=br (bl (w _ (g C i b)));refine⟨bl (bl m),eq_of_beq (br (bl m)),eq_of_beq (br m),?_⟩;rw [z];show(L.classes.lookup C).isSome=true;have b:(L.classes.lookup C).join=some i:=b;generalize q:L.classes.lookup C=x;induction x with
  |none=>have b:=q▸b;exact nN b
  |some j=>rfl
section
open PySem.Calls
def Ji:lE ⟨.builtin "claim.caller" {},none,none,[],none⟩:=⟨by decide+kernel,λx b=>nomatch b⟩
def HX{prog:Vd}{w:Va}{t:Sem Fin}{s:bS}{R:V1->bS->Prop}(j:s.asleep)
  (h:bD (pR prog w) aa9 t (λfin g=>∃f,fin=.done f/\R (.ok f) g/\abG g.gens=false) (λe g=>R (.error e) g/\abG g.gens=false) s):
  ∃n r g k,schedN (aaT table) prog w n (.single s ⟨t,.builtin "claim.caller" {},default,[]⟩)=.halted (Zy r) g/\runN (aaT table) prog w n s ⟨t,.builtin "claim.caller" {},default,[]⟩=.halted (Zy r) g/\g.forget=k.forget/\R r k:=by
 refine Km (wp_halts_full (M:=pR prog w) (R:=R) j (Sem.wp_mono _ _ t (λfin u g z=>by obtain⟨f,rfl,z⟩:=z;exact z) (λJ J J z=>z) default s (h _ default caller_in Ji))) λn r m p a b c d=>?_
 exact⟨n,r,p,m,a,b,c,d⟩
def HO{c:ClaimW}{tree:List Value->Sem Fin}{w:Va}{s:bS}{u:iS->Prop}{A:Prop}{j:UT->Prop}(hz:s.asleep)(p:s.gens= #[])
  (B:∀g,c.pre g=true->WData.layableAll g=true->∀ord:List Xc->List Xc,(∀l,(ord l).Perm l)->
   ∃vs h,layAllW c.records (classAt s.heap) w.params ord g s=some (vs,h)/\
    bD (pR c.prog w) aa9 (tree vs) (λfin m=>∃f,fin=.done f/\(c.Ends s g vs h (.ok f) m/\m.os=s.os/\j m.heap)/\AllBare m.gens) (λJ J=>False) h):
  c.CallFrom (λvs=>⟨tree vs,.builtin "claim.caller" {},default,[]⟩) w u A j s:=by
 intro g C G ord M;refine bW (B g C G ord M) λvs h O Y=>?_
 have rest:=layAllW_rest _ _ _ O
 refine Uq (HX (prog:=c.prog) (w:=w) (t:=tree vs) (s:=h) (R:=λr m=>c.Ends s g vs h r m/\m.os=s.os/\j m.heap)
  (Shared.asleep_of_life rest.2.2.2 hz) (aJ Y (λfin m z=>by refine dQ z λf a b d=>?_;exact⟨f,a,b,leftWithCleanup_false_of_bare d⟩) λJ J z=>z.elim)) λk r m aa hs hr hf e1 e2 e3=>?_
 refine nj (Shared.forget_eq hf) λQ J J eo J=>?_
 refine⟨vs,h,O,k,_,m,hs,?_,(λJ i x U=>by rw [p] at U;simp at U),by rw [Q];exact e3,by rw [((runN_life _ _ _ hr).trans rest.2.2.2)],Shared.rest_eq (eo.trans e2)⟩;exact(e1.congr Q).imp (Yh λv D=>⟨congrArg Zy D.1,D.2.1,D.2.2.1,D.2.2.2.1,λb o y J=>D.2.2.2.2.1 b o y,D.2.2.2.2.2⟩)
  (Yh λe=>Yh λob=>Yh λab D=>⟨congrArg Zy D.1,D.2.1,D.2.2.1,D.2.2.2.1,D.2.2.2.2.1,λb o y J=>D.2.2.2.2.2 b o y⟩)
def GF(YP:Va->UT->Prop)(r:RowW):Prop:=
 ∀(w:Va) (b c:bS),YP w b.heap->∀(a:iS),b.heap.nsMap UX r.name=some (.ref a)->
  ∀(g:List WData) (cu:List Value) (h:List iS),r.claim.pre g=true->Laid r.records w b c g cu h->
   bD (pR r.prog w) aa9 (abw (.ref a) cu) (λv j=>GoodWG r.claim (classAt b.heap) (ExcName.means b.heap) g c (.ok (.ret v)) j) (λJ J=>False) c
def EK{r:OpenRow}{q:Vd}{loose:List Str}{YP:Va->UT->Prop}{d:DefRec}{kwd:List (Str×Expr)}{N:Nat}
  (left:LeftO r.prog q loose (λs=>recOk r.records s) (λs=>∀w,YP w s.heap) (λJ=>True) N)
  (A:defOf q r.name=some (d,kwd)) (hp:r.prog.theDef r.name=some (d.params,d.body,d.scope)) (hk:kwWritten? d.params.kwonlyargs d.params.kw_defaults=some kwd) (ae:(!r.writes||r.records.isEmpty)=true)
  (k1:r.wellSaid=true) (ok:(chainsOk q&&opensWell r.prog&&(frees r.toRowW&&r.within.isEmpty))=true) (hb:r.prog.bare) (hw:r.toRowW.promised)
  (call:GF YP r.toRowW):r.Holds:=by
 obtain⟨ok,k5⟩:=Bool.and_eq_true_iff.mp ok;obtain⟨O,o1⟩:=Bool.and_eq_true_iff.mp ok;obtain⟨k5,k6⟩:=Bool.and_eq_true_iff.mp k5;refine nj (frees_parts k5) λM hu ha af hm=>?_
 refine⟨k1,hw,⟨hb,o1,by show r.makers.map _= [];rw [hm];rfl⟩,hw.witness,λw=>⟨(left.behind (XP:=λJ J=>True) (λJ J=>trivial) O w).1,λs' ag=>?_⟩⟩;obtain⟨Q,hf,_,s,hT,hz,k,hg,b,y⟩:=(left.behind (XP:=λJ h=>RecFacts r.records h) (λs hs=>recFacts_of hs) O w).2 s' ag;have RF:=b.X;have G0:Ground q loose [] (λJ J=>True) w s (s.heap.nsMap UX) (s.heap.nsMap Xj) s.heap:=⟨b.T,b.B,b.D,b.TE,b.TD,b.W,trivial,b.cls,b.has,b.apart,b.once,b.K⟩
 refine⟨Q,hf,‹_›,s,hT,λn hn=>?_,RF.1,RF.2.1,?_⟩
 ·obtain rfl:n=r.name:=by split at hn<;>simp_all
  exact pinned_of_view hg G0 A hp hk
 have G:=RF.ground G0;have k:=Array.eq_empty_of_size_eq_zero (beq_iff_eq.mp k)
 refine HO (c:=r.claim) (tree:=λU=>do match <-nsGet mainNs r.name with
   |some f=>do ret (<-abw f U)
   |none=>unsupported "claim.caller:no-such-global") hz k λu B Y aa C=>?_
 obtain⟨⟨U,p⟩,j⟩:=Option.isSome_iff_exists.mp (layAllW_isSome (P:=w.params) (ord:=aa) G.has u r.args s (pre_splitW B).1);refine dQ (reads_layAllW C _ _ _ j Y p.heap (λJ J e=>e)) λas ah ai ab=>?_
 have ac:=layAllW_rest _ _ _ j;have m:=layAllW_keeps _ _ _ j;have L:Laid r.records w s p u U as:=⟨⟨aa,C,j⟩,ah,ai,ab,m,ac.1.trans k,ac.2.2.1⟩
 have D:=G.keeps (λJ J J x J=>x) m;obtain⟨a,o,pm,cd,aj,dV,kV,h1,_⟩:=D.fn A;have h:=call w s p ((of_eq_true y:∀w,YP w s.heap) w) a h1 u U as B L;have hi:=ident_freeW hu ha af;refine⟨U,p,j,aD (wpAny_nsGet D.T.g ?_)⟩;refine h1▸ ?_;refine aA (aJ h (λv s' g=>aF ⟨_,rfl,?_⟩) λJ J z=>z);have z:=g.laid (c:=r.claim) M (List.isEmpty_iff.mp k6) hi L;exact⟨⟨z.1,z.2.1,λq=>⟨namesKept_of hT hg _ m g.2.1.old,noTable ae q⟩⟩,z.2.2⟩
end
local macro_rules | `(tactic|walk_at "hob")=> `(tactic|first|exact hob1 (by kernel_rfl) (fun J=>rfl) (fun J=>rfl)|(intro r h _;cases r<;>first|rfl|exact absurd rfl h))
namespace L04
section
noncomputable abbrev uv(Q:V->H->Prop):Fl->Fs->H->Prop:=λc J b=>match c with| .ret v=>Q v b| .next=>Q .none b| .brk=>False
def aQ{T:rp}{N:Nat}{f:iS}{d:bT}{as:List V}{Q:V->H->Prop}{b:H}(h:T.df f=some d)(c:as.length=d.np)(q:aZ (T.cx N) N d.body (uv Q) (dh 0 (as++d.dflt)) b):T.cf (N+1) f as Q b:=by
 unfold rp.cf;rw [h];exact⟨c,q⟩
namespace A4
noncomputable abbrev x0:E:=.v 0
noncomputable abbrev x1:E:=.v 1
noncomputable abbrev x2:E:=.v 2
noncomputable abbrev x3:E:=.v 3
noncomputable abbrev x4:E:=.v 4
noncomputable abbrev x5:E:=.v 5
noncomputable abbrev x6:E:=.v 6
noncomputable abbrev x7:E:=.v 7
noncomputable abbrev x8:E:=.v 8
noncomputable abbrev x9:E:=.v 9
noncomputable abbrev GR:E:=.v 10
noncomputable abbrev SW:E:=.v 11
noncomputable abbrev x12:E:=.v 12
noncomputable abbrev G(s:String):Str:=Str.ofString s
noncomputable abbrev K(i:Int):E:=.k (.int i)
noncomputable abbrev Q(s:String):E:=.k (.str (Str.ofString s))
noncomputable abbrev L(i:Int):E:=.g (.int i)
noncomputable abbrev R(i:Nat):E:=.g (.ref i)
noncomputable abbrev bi(s:String):E:=.g (.bi s)
noncomputable abbrev Y(s:String):E:=.g (.ty s)
end A4
noncomputable def dD(c:List String)(k g:Nat)(df:List V)(b:Ss):bT:=⟨(c.map λs=>some (Str.ofString s))++oR k none,g,(c.take (g+df.length)).map Str.ofString,df,b⟩
noncomputable def Uu(i:Nat)(l:List String):List (Nat×Str):=l.zipIdx i|>.map λp=>(p.2,Str.ofString p.1)
section
open A4
open Mine.Internal.Es renaming cons->D,nil->d
open Mine.Internal.Ss renaming cons->J,nil->j
open Mine.Internal.E renaming attr->A,bin->B,call->C,mc->M,cmp->c,sub->b,and2->a,or2->o,not->n,lst->l,tup->p,comp->q,slc->s
open Mine.Internal.T renaming v->t,attr->u,sub->w
open Mine.Internal.S renaming asg->m,ex->x,ite->i,ret->r,forIn->f,dead->k,asgN->y,augA->z
open Operator renaming Add->P,Sub->g,Mult->h,FloorDiv->U,BitAnd->v,Mod->W
open CmpOp renaming Lt->X,Eq->e,NotEq->O
def sK:Ss:=J (r (B .BitOr (b x0 x1) (B .LShift (b x0 (B P x1 (K 1))) (K 8)))) j
def sI:bT:=dD ["octets", "at"] 0 2 [] sK
def te:Ss:=J (r (B .BitOr (C (R 116) (D x0 (D x1 d))) (B .LShift (C (R 116) (D x0 (D (B P x1 (K 2)) d))) (K 16)))) j
def sk:bT:=dD ["octets", "at"] 0 2 [] te
def rn:Ss:=J (m (w x0 x1) (B v x2 (K 255))) (J (m (w x0 (B P x1 (K 1))) (B v (B .RShift x2 (K 8)) (K 255))) j)
def qd:bT:=dD ["octets", "at", "value"] 0 3 [] rn
def qi:Ss:=J (x (C (R 130) (D x0 (D x1 (D (B v x2 (K 65535)) d))))) (J (x (C (R 130) (D x0 (D (B P x1 (K 2)) (D (B v (B .RShift x2 (K 16)) (K 65535)) d))))) j)
def qW:bT:=dD ["octets", "at", "value"] 0 3 [] qi
def lX:Ss:=J (r (B U (B g (B P x0 x1) (K 1)) x1)) j
def l8:bT:=dD ["count", "size"] 0 2 [] lX
def lD:Ss:=J (i (.or3 (c X x5 (K 1)) (c X x1 (B P (L 12) (B h (K 4) (B P x5 (K 1))))) (c X x1 (B h (K 4) (L 9)))) (J k j) j) (J (i (c O (B W x1 (L 16)) (K 0)) (J k j) j) (J (i (.or3 (c X x3 (K 2)) (c X x4 (K 2)) (c X x2 (K 1))) (J k j) j) (J (m (u x0 0) x1) (J (m (u x0 1) x2) (J (m (u x0 2) x3) (J (m (u x0 3) x4) (J (m (u x0 4) x5) (J (m (u x0 5) (B P (L 12) (B h (K 4) (B P x5 (K 1))))) (J (m (u x0 6) (B U x1 (A x0 5))) (J (m (u x0 7) (B U x1 (K 4))) (J (m (u x0 8) (L 2)) (J (m (u x0 9) (B P (L 2) x4)) (J (m (u x0 10) (B P (A x0 9) (C (R 144) (D x3 (D (A x0 6) d))))) (J (m (u x0 11) (B P (A x0 10) (C (R 144) (D x2 (D (B h (K 8) x1) d))))) (J (i (c .GtE (A x0 11) x2) (J k j) j) j)))))))))))))))
def l0:bT:=dD ["self", "block", "blocks", "inodes", "log", "direct"] 0 6 [] lD
def d4:Ss:=J (r (B P (A x0 4) (A x0 7))) j
def dT:bT:=dD ["self"] 0 1 [] d4
def fI:Ss:=J (r (B h (A x0 0) (M x0 100 d))) j
def fp:bT:=dD ["self"] 0 1 [] fI
def rI:Ss:=J (m (t 1) (B g (A x0 1) (A x0 11))) (J (r (l (D (L 270544960) (D (A x0 1) (D x1 (D (A x0 2) (D (A x0 3) (D (A x0 8) (D (A x0 9) (D (A x0 10) (D (A x0 4) d))))))))))) j)
def r5:bT:=dD ["self", "data"] 0 1 [] rI
def q7:Ss:=J (m (t 1) (C (Y "bytearray") (D (A x0 0) d))) (J (.forEn 2 3 (M x0 101 d) (J (x (C (R 137) (D x1 (D (B h (K 4) x2) (D x3 d))))) j)) (J (r (C (Y "bytes") (D x1 d))) j))
def rj:bT:=dD ["self", "found", "at", "value"] 0 1 [] q7
def iY:Ss:=J (r (p (D (B P (A x0 9) (B U x1 (A x0 6))) (D (B h (B W x1 (A x0 6)) (A x0 5)) d)))) j
def iJ:bT:=dD ["self", "number"] 0 2 [] iY
def je:Ss:=J (m (t 2) (B .RShift x1 (K 3))) (J (r (p (D (B P (A x0 10) (B U x2 (A x0 0))) (D (B W x2 (A x0 0)) (D (B .LShift (K 1) (B v x1 (K 7))) d))))) j)
def iQ:bT:=dD ["self", "number", "octet"] 0 2 [] je
def nZ:Ss:=J (m (u x0 12) x1) (J (m (u x0 13) x2) (J (m (u x0 14) (K 1)) (J (m (u x0 15) (L 0)) (J (m (u x0 16) (K 0)) (J (m (u x0 17) (K 0)) (J (m (u x0 18) (K 0)) (J (m (u x0 19) (K 0)) (J (m (u x0 20) (l d)) j))))))))
def on:bT:=dD ["self", "nodes", "number"] 0 3 [] nZ
def hJ:Ss:=J (m (u x0 15) (C (R 116) (D x1 (D x2 d)))) (J (m (u x0 16) (C (R 116) (D x1 (D (B P x2 (K 2)) d)))) (J (m (u x0 17) (C (R 116) (D x1 (D (B P x2 (K 4)) d)))) (J (m (u x0 18) (C (R 116) (D x1 (D (B P x2 (K 6)) d)))) (J (m (u x0 19) (C (R 123) (D x1 (D (B P x2 (K 8)) d)))) (J (m (u x0 20) (q (C (R 123) (D x1 (D (B P (B P x2 (L 12)) (B h (K 4) x4)) d))) [4] (C (Y "range") (D (B P x3 (K 1)) d)) (.k (.bool true)))) j)))))
def hY:bT:=dD ["self", "octets", "at", "direct"] 1 4 [] hJ
def iH:Ss:=J (x (C (R 130) (D x1 (D x2 (D (A x0 15) d))))) (J (x (C (R 130) (D x1 (D (B P x2 (K 2)) (D (A x0 16) d))))) (J (x (C (R 130) (D x1 (D (B P x2 (K 4)) (D (A x0 17) d))))) (J (x (C (R 130) (D x1 (D (B P x2 (K 6)) (D (A x0 18) d))))) (J (x (C (R 137) (D x1 (D (B P x2 (K 8)) (D (A x0 19) d))))) (J (.forEn 3 4 (A x0 20) (J (x (C (R 137) (D x1 (D (B P (B P x2 (L 12)) (B h (K 4) x3)) (D x4 d))))) j)) j)))))
def jp:bT:=dD ["self", "octets", "at", "place", "number"] 0 3 [] iH
def oo:Ss:=J (r (M (A x0 12) 102 (D x0 (D x1 (D x2 d))))) j
def oD:bT:=dD ["self", "offset", "count"] 0 3 [] oo
def lz:Ss:=J (r (M (A x0 12) 103 (D x0 (D x1 (D x2 d))))) j
def lZ:bT:=dD ["self", "offset", "octets"] 0 3 [] lz
def hX:Ss:=J (x (M (A x0 12) 104 (D x0 d))) j
def hV:bT:=dD ["self"] 0 1 [] hX
def rY:Ss:=J (x (M (A x0 12) 105 (D x0 d))) j
def rX:bT:=dD ["self"] 0 1 [] rY
def wd:Ss:=J (m (u x0 14) (B P (A x0 14) (K 1))) (J (r x0) j)
def vP:bT:=dD ["self"] 0 1 [] wd
def lv:Ss:=J (m (u x0 21) x1) (J (m (u x0 22) (A x1 22)) (J (m (u x0 23) x2) (J (m (u x0 24) (B P (L 4) (C (Y "int") (D (c .Gt (B g (A x2 11) (A x2 10)) (K 1)) d)))) (J (m (u x0 25) .dct0) j))))
def lw:bT:=dD ["self", "journal", "super_block"] 0 3 [] lv
def d2:Ss:=J (i (n (.cmp2 .LtE X (K 1) x1 (A (A x0 23) 2))) (J k j) j) j
def dW:bT:=dD ["self", "number"] 0 2 [] d2
def fR:Ss:=J (i (c e (A (A x0 21) 26) (K 0)) (J k j) j) (J (m (t 2) (.compS 3 x1 (c .NotIn x3 (A (A x0 21) 27)))) (J (i (c .Gt (C (bi "len") (D x2 d)) (M (A x0 21) 106 d)) (J k j) j) j))
def fu:bT:=dD ["self", "blocks", "fresh"] 1 2 [] fR
def oz:Ss:=J (x (M x0 107 (D x1 d))) (J (i (c .In x1 (A x0 25)) (J (r (M (b (A x0 25) x1) 108 d)) j) j) (J (y [2,3] (M (A x0 23) 109 (D x1 d))) (J (m (t 4) (C (R 293) (D x0 (D x1 d)))) (J (m (t 5) (M (A x0 22) 203 (D x2 d))) (J (x (M x4 110 (D (A x5 28) (D x3 (D (A (A x0 23) 4) d))))) (J (x (M (A x0 22) 111 (D x5 d))) (J (i (c e (A x4 15) (L 0)) (J k j) j) (J (i (o (c .Gt (A x4 15) (L 3)) (c .Gt (A x4 19) (M (A x0 23) 112 d))) (J k j) j) (J (m (w (A x0 25) x1) x4) (J (r x4) j))))))))))
def oB:bT:=dD ["self", "number", "block", "at", "node", "buffer"] 0 2 [] oz
def iG:Ss:=J (y [2,3] (M (A x0 23) 109 (D (A x1 13) d))) (J (x (M x0 113 (D (l (D x2 d)) d))) (J (m (t 4) (M (A x0 22) 203 (D x2 d))) (J (x (M x1 114 (D (A x4 28) (D x3 d)))) (J (x (M (A x0 21) 103 (D x4 d))) (J (x (M (A x0 22) 111 (D x4 d))) j)))))
def iC:bT:=dD ["self", "node", "block", "at", "buffer"] 0 2 [] iG
def eR:Ss:=J (m (t 1) (A (A x0 23) 11)) (J (.whl (c X x1 (A (A x0 23) 1)) (J (m (t 2) (b (M (A x0 23) 115 (D x1 d)) (K 0))) (J (m (t 3) (M (A x0 22) 203 (D x2 d))) (J (m (t 1) (M x0 116 (D (A x3 28) (D x2 (D x1 d))))) (J (x (M (A x0 22) 111 (D x3 d))) (J (i (a (c X x1 (A (A x0 23) 1)) (c e (b (M (A x0 23) 115 (D x1 d)) (K 0)) x2)) (J (x (M x0 113 (D (l (D x2 (D x1 d))) d))) (J (x (M x0 117 (D x1 d))) (J (x (M x0 118 (D x1 d))) (J (r x1) j)))) j) j)))))) (J k j))
def eY:bT:=dD ["self", "number", "place", "buffer"] 0 1 [] eR
def gu:Ss:=J (y [2,3,4] (M (A x0 23) 115 (D x1 d))) (J (m (t 5) (M (A x0 22) 203 (D x2 d))) (J (m (w (A x5 28) x3) (B .BitXor (b (A x5 28) x3) x4)) (J (x (M (A x0 21) 103 (D x5 d))) (J (x (M (A x0 22) 111 (D x5 d))) j))))
def gn:bT:=dD ["self", "number", "place", "at", "bit", "buffer"] 0 2 [] gu
def gt:Ss:=J (.whl (c X x3 (A (A x0 23) 1)) (J (y [4,5,6] (M (A x0 23) 115 (D x3 d))) (J (i (o (c O x4 x2) (c e (B v (b x1 x5) x6) (K 0))) (J (r x3) j) j) (J (m (t 3) (B P x3 (K 1))) j)))) (J (r x3) j)
def gH:bT:=dD ["self", "data", "place", "number", "block", "at", "bit"] 0 4 [] gt
def dX:Ss:=J (m (t 2) (M (A x0 22) 203 (D x1 d))) (J (x (M x2 119 d)) (J (x (M (A x0 21) 103 (D x2 d))) (J (x (M (A x0 22) 111 (D x2 d))) j)))
def dY:bT:=dD ["self", "number", "buffer"] 0 2 [] dX
def eN:Ss:=J (i (n (.cmp2 .LtE X (A (A x0 23) 11) x1 (A (A x0 23) 1))) (J k j) j) (J (y [2,3,4] (M (A x0 23) 115 (D x1 d))) (J (m (t 5) (M (A x0 22) 203 (D x2 d))) (J (m (t 6) (c O (B v (b (A x5 28) x3) x4) (K 0))) (J (x (M (A x0 22) 111 (D x5 d))) (J (i (n x6) (J k j) j) (J (x (M x0 113 (D (l (D x2 d)) d))) (J (x (M x0 117 (D x1 d))) j)))))))
def eG:bT:=dD ["self", "number", "place", "at", "bit", "buffer", "was_taken"] 0 2 [] eN
def d3:Ss:=J (m (t 1) (K 0)) (J (f [2] (C (Y "range") (D (A (A x0 23) 11) (D (A (A x0 23) 1) d))) (J (y [3,4,5] (M (A x0 23) 115 (D x2 d))) (J (m (t 6) (M (A x0 22) 203 (D x3 d))) (J (i (c e (B v (b (A x6 28) x4) x5) (K 0)) (J (m (t 1) (B P x1 (K 1))) j) j) (J (x (M (A x0 22) 111 (D x6 d))) j))))) (J (r x1) j))
def d6:bT:=dD ["self", "found", "number", "place", "at", "bit", "buffer"] 0 1 [] d3
def gE:Ss:=J (m (t 4) (A (A x0 23) 4)) (J (i (c X x2 x4) (J (i (a (c e (b (A x1 20) x2) (K 0)) x3) (J (m (w (A x1 20) x2) (M x0 120 d)) j) j) (J (r (b (A x1 20) x2)) j)) j) (J (i (c .GtE x2 (M (A x0 23) 100 d)) (J k j) j) (J (i (c e (b (A x1 20) x4) (K 0)) (J (i (n x3) (J (r (K 0)) j) j) (J (m (w (A x1 20) x4) (M x0 120 d)) j)) j) (J (r (M x0 121 (D (b (A x1 20) x4) (D (B g x2 x4) (D x3 d))))) j))))
def gz:bT:=dD ["self", "node", "index", "make", "direct"] 0 4 [] gE
def d7:Ss:=J (m (t 4) (M (A x0 22) 203 (D x1 d))) (J (m (t 5) (C (R 123) (D (A x4 28) (D (B h (K 4) x2) d)))) (J (x (M (A x0 22) 111 (D x4 d))) (J (i (a (c e x5 (K 0)) x3) (J (m (t 5) (M x0 120 d)) (J (m (t 4) (M (A x0 22) 203 (D x1 d))) (J (x (C (R 137) (D (A x4 28) (D (B h (K 4) x2) (D x5 d))))) (J (x (M (A x0 21) 103 (D x4 d))) (J (x (M (A x0 22) 111 (D x4 d))) j))))) j) (J (r x5) j))))
def d8:bT:=dD ["self", "names", "index", "make", "buffer", "found"] 0 4 [] d7
def md:Ss:=J (i (o (c X x2 (K 0)) (c X x3 (K 0))) (J k j) j) (J (m (t 4) (C (bi "min") (D (A x1 19) (D (B P x2 x3) d)))) (J (m (t 5) (C (Y "bytearray") d)) (J (.whl (c X x2 x4) (J (m (t 6) (B W x2 (A (A x0 23) 0))) (J (m (t 7) (C (bi "min") (D (B g (A (A x0 23) 0) x6) (D (B g x4 x2) d)))) (J (m (t 8) (M x0 122 (D x1 (D (B U x2 (A (A x0 23) 0)) (D (.k (.bool false)) d))))) (J (i (c e x8 (K 0)) (J (x (M x5 202 (D (C (Y "bytes") (D x7 d)) d))) j) (J (m (t 9) (M (A x0 22) 203 (D x8 d))) (J (x (M x5 202 (D (s (A x9 28) x6 (B P x6 x7)) d))) (J (x (M (A x0 22) 111 (D x9 d))) j)))) (J (m (t 2) (B P x2 x7)) j)))))) (J (r (C (Y "bytes") (D x5 d))) j))))
def mn:bT:=dD ["self", "node", "offset", "count", "end", "found", "start", "part", "number", "buffer"] 0 4 [] md
def j3:Ss:=J (i (c X x2 (K 0)) (J k j) j) (J (i (c .Gt (B P x2 (C (bi "len") (D x3 d))) (M (A x0 23) 112 d)) (J k j) j) (J (x (M x0 113 (D (l d) d))) (J (y [4,5] (p (D (K 0) (D (.k (.bool false)) d)))) (J (.whl (a (c X x4 (C (bi "len") (D x3 d))) (c .GtE (M (A x0 21) 106 d) (A x0 24))) (J (m (t 5) (.k (.bool true))) (J (m (t 6) (M x0 123 (D x1 (D (B P x2 x4) (D x3 (D x4 d)))))) (J (i (c e x6 (K 0)) (J .brk j) j) (J (m (t 4) (B P x4 x6)) j))))) (J (i (a (c .Gt x4 (K 0)) (c .Gt (B P x2 x4) (A x1 19))) (J (m (u x1 19) (B P x2 x4)) j) j) (J (i (o x5 (c .Gt (M (A x0 21) 106 d) (K 0))) (J (x (M x0 105 (D x1 d))) j) j) (J (r x4) j)))))))
def kr:bT:=dD ["self", "node", "offset", "octets", "done", "is_begun", "part"] 0 4 [] j3
def e8:Ss:=J (.tr (J (m (t 5) (M x0 122 (D x1 (D (B U x2 (A (A x0 23) 0)) (D (.k (.bool true)) d))))) j)) (J (m (t 6) (B W x2 (A (A x0 23) 0))) (J (m (t 7) (C (bi "min") (D (B g (A (A x0 23) 0) x6) (D (B g (C (bi "len") (D x3 d)) x4) d)))) (J (m (t 8) (M (A x0 22) 203 (D x5 d))) (J (m (.slc (A x8 28) x6 (B P x6 x7)) (s x3 x4 (B P x4 x7))) (J (x (M (A x0 21) 103 (D x8 d))) (J (x (M (A x0 22) 111 (D x8 d))) (J (r x7) j)))))))
def eA:bT:=dD ["self", "node", "offset", "octets", "done", "number", "start", "part", "buffer"] 0 5 [] e8
def gI:Ss:=J (m (t 2) (A (A x0 23) 4)) (J (m (t 3) (q x5 [5] (A x1 20) (c O x5 (K 0)))) (J (i (c O (b (A x1 20) x2) (K 0)) (J (m (t 3) (B P (B P (s x3 (.k .none) (.neg (K 1))) (M x0 124 (D (b (A x1 20) x2) d))) (s x3 (.neg (K 1)) (.k .none)))) j) j) (J (x (M x0 113 (D (B P (l (D (b (M (A x0 23) 109 (D (A x1 13) d)) (K 0)) d)) (q (b (M (A x0 23) 115 (D x6 d)) (K 0)) [6] x3 (.k (.bool true)))) d))) (J (f [4] x3 (J (x (M x0 125 (D x4 d))) j)) (J (m (u x1 20) (B h (l (D (K 0) d)) (B P x2 (K 1)))) (J (m (u x1 19) (K 0)) (J (x (M x0 105 (D x1 d))) j)))))))
def gC:bT:=dD ["self", "node", "direct", "blocks", "number"] 2 2 [] gI
def gv:Ss:=J (m (t 2) (M (A x0 22) 203 (D x1 d))) (J (m (t 3) (q (C (R 123) (D (A x2 28) (D (B h (K 4) x4) d))) [4] (C (Y "range") (D (A (A x0 23) 7) d)) (.k (.bool true)))) (J (x (M (A x0 22) 111 (D x2 d))) (J (r (q x5 [5] x3 (c O x5 (K 0)))) j)))
def gJ:bT:=dD ["self", "number", "buffer", "found"] 2 2 [] gv
def kh:Ss:=J (m (u x0 13) x1) (J (m (u x0 28) (C (Y "bytearray") (D x2 d))) (J (m (u x0 14) (K 0)) (J (m (u x0 29) (K 0)) j)))
def kj:bT:=dD ["self", "number", "octets"] 0 3 [] kh
def mQ:Ss:=J (r (a (c e (A x0 14) (K 0)) (c e (A x0 29) (K 0)))) j
def mZ:bT:=dD ["self"] 0 1 [] mQ
def hW:Ss:=J (r (C (Y "bytes") (D (A x0 28) d))) j
def ic:bT:=dD ["self"] 0 1 [] hW
def kF:Ss:=J (i (.or3 (c X x1 (K 0)) (c X x2 (K 0)) (c .Gt (B P x1 x2) (C (bi "len") (D (A x0 28) d)))) (J k j) j) j
def lc:bT:=dD ["self", "place", "count"] 0 3 [] kF
def rJ:Ss:=J (x (M x0 126 (D x1 (D x2 d)))) (J (r (C (Y "bytes") (D (s (A x0 28) x1 (B P x1 x2)) d))) j)
def rO:bT:=dD ["self", "place", "count"] 0 3 [] rJ
def j1:Ss:=J (i (c O (C (bi "len") (D x1 d)) (C (bi "len") (D (A x0 28) d))) (J k j) j) (J (m (.slc (A x0 28) (.k .none) (.k .none)) x1) j)
def j9:bT:=dD ["self", "octets"] 0 2 [] j1
def iA:Ss:=J (m (.slc (A x0 28) (.k .none) (.k .none)) (C (Y "bytes") (D (C (bi "len") (D (A x0 28) d)) d))) j
def jh:bT:=dD ["self"] 0 1 [] iA
def tH:Ss:=J (x (M x0 126 (D (B .RShift x1 (K 3)) (D (K 1) d)))) (J (r (B v (B .RShift (b (A x0 28) (B .RShift x1 (K 3))) (B v x1 (K 7))) (K 1))) j)
def uB:bT:=dD ["self", "place"] 0 2 [] tH
def lq:Ss:=J (i (c X x2 (K 1)) (J k j) j) (J (m (u x0 30) x1) (J (m (u x0 31) x2) (J (m (u x0 19) (A x1 19)) (J (m (u x0 5) (l d)) (J (m (u x0 32) .dct0) (J (m (u x0 33) (K 0)) (J (m (u x0 34) (K 0)) (J (m (u x0 35) (K 0)) j))))))))
def mv:bT:=dD ["self", "disk", "most"] 0 3 [] lq
def eg:Ss:=J (i (o (n (C (bi "isinstance") (D x1 (D (Y "int") d)))) (n (.cmp2 .LtE X (K 0) x1 (A (A x0 30) 1)))) (J k j) j) j
def eI:bT:=dD ["self", "number"] 0 2 [] eg
def ft:Ss:=J (i (o (c .IsNot (M (A x0 32) 203 (D (A x1 13) d)) x1) (c e (A x1 14) (K 0))) (J k j) j) j
def fE:bT:=dD ["self", "buffer"] 0 2 [] ft
def oU:Ss:=J (x (M x0 127 (D x1 d))) (J (m (t 2) (M (A x0 32) 203 (D x1 d))) (J (i (c .Is x2 (.k .none)) (J (x (M x0 128 d)) (J (m (t 2) (C (R 561) (D x1 (D (M (A x0 30) 102 (D x1 d)) d)))) (J (z x0 34 P (K 1)) (J (m (w (A x0 32) x1) x2) (J (x (M (A x0 5) 200 (D x2 d))) j))))) (J (z x0 33 P (K 1)) j)) (J (z x2 14 P (K 1)) (J (r x2) j))))
def og:bT:=dD ["self", "number", "found"] 0 2 [] oU
def fq:Ss:=J (i (c X (C (bi "len") (D (A x0 5) d)) (A x0 31)) (J .ret0 j) j) (J k (J k j))
def fx:bT:=dD ["self", "place", "buffer"] 0 1 [] fq
def io:Ss:=J (x (M x0 129 (D x1 d))) (J (z x1 14 g (K 1)) (J (i (c e (A x1 14) (K 0)) (J (x (M (A x0 5) 201 (D x1 d))) (J (x (M (A x0 5) 200 (D x1 d))) j)) j) j))
def ij:bT:=dD ["self", "buffer"] 0 2 [] io
def oE:Ss:=J (x (M x0 129 (D x1 d))) (J (z x1 29 P (K 1)) j)
def nK:bT:=dD ["self", "buffer"] 0 2 [] oE
def j5:Ss:=J (m (t 2) (M (A x0 32) 203 (D x1 d))) (J (i (o (c .Is x2 (.k .none)) (c e (A x2 29) (K 0))) (J k j) j) (J (z x2 29 g (K 1)) j))
def ks:bT:=dD ["self", "number", "found"] 0 2 [] j5
def ku:Ss:=J (x (M x0 129 (D x1 d))) (J (x (M (A x0 30) 103 (D (A x1 13) (D (M x1 130 d) d)))) (J (z x0 35 P (K 1)) j))
def ka:bT:=dD ["self", "buffer"] 0 2 [] ku
def ko:Ss:=J (x (M (A x0 30) 131 d)) j
def kg:bT:=dD ["self"] 0 1 [] ko
def mr:Ss:=J (m (t 2) (M x0 203 (D x1 d))) (J (m (t 3) (M x2 130 d)) (J (x (M x0 111 (D x2 d))) (J (r x3) j)))
def lI:bT:=dD ["self", "number", "buffer", "octets"] 0 2 [] mr
def lS:Ss:=J (x (M x0 127 (D x1 d))) (J (i (c O (C (bi "len") (D x2 d)) (A x0 19)) (J k j) j) (J (m (t 3) (M x0 203 (D x1 d))) (J (x (M x3 132 (D x2 d))) (J (x (M x0 103 (D x3 d))) (J (x (M x0 111 (D x3 d))) j)))))
def lT:bT:=dD ["self", "number", "octets", "buffer"] 0 3 [] lS
def oV:Ss:=J (i (o (c X x1 (K 1)) (c X x2 (K 1))) (J k j) j) (J (m (u x0 1) x1) (J (m (u x0 19) x2) (J (m (u x0 36) .dct0) (J (m (u x0 37) .dct0) (J (m (u x0 38) (l d)) (J (m (u x0 35) (K 0)) (J (m (u x0 39) (K 0)) (J (m (u x0 40) (.k .none)) (J (m (u x0 41) (.k .none)) (J (m (u x0 42) (.k (.bool false))) j))))))))))
def oZ:bT:=dD ["self", "blocks", "size"] 0 3 [] oV
def fG:Ss:=J (i (A x0 42) (J k j) j) j
def fo:bT:=dD ["self"] 0 1 [] fG
def fN:Ss:=J (i (o (n (C (bi "isinstance") (D x1 (D (Y "int") d)))) (n (.cmp2 .LtE X (K 0) x1 (A x0 1)))) (J k j) j) j
def fP:bT:=dD ["self", "number"] 0 2 [] fN
def oK:Ss:=J (x (M x0 133 d)) (J (x (M x0 127 (D x1 d))) (J (r (M (A x0 37) 203 (D x1 (D (C (Y "bytes") (D (A x0 19) d)) d)))) j))
def ow:bT:=dD ["self", "number"] 0 2 [] oK
def lQ:Ss:=J (x (M x0 133 d)) (J (x (M x0 127 (D x1 d))) (J (m (t 3) (C (R 789) (D x2 d))) (J (i (c O (C (bi "len") (D x3 d)) (A x0 19)) (J k j) j) (J (i (a (c .IsNot (A x0 40) (.k .none)) (c .GtE (A x0 35) (A x0 40))) (J (x (M x0 134 d)) j) j) (J (z x0 35 P (K 1)) (J (m (w (A x0 37) x1) x3) (J (x (M (A x0 38) 200 (D (p (D x1 (D x3 d))) d))) j)))))))
def lg:bT:=dD ["self", "number", "octets", "block"] 0 3 [] lQ
def vL:Ss:=J (m (u x0 42) (.k (.bool true))) (J k j)
def ww:bT:=dD ["self"] 0 1 [] vL
def mu:Ss:=J (x (M x0 133 d)) (J (i (a (c .IsNot (A x0 41) (.k .none)) (c .GtE (A x0 39) (A x0 41))) (J (x (M x0 134 d)) j) j) (J (z x0 39 P (K 1)) (J (f [1,2] (A x0 38) (J (m (w (A x0 36) x1) x2) j)) (J (m (u x0 38) (l d)) j))))
def me:bT:=dD ["self", "number", "octets"] 0 1 [] mu
def lY:Ss:=J (i (c X x1 (K 0)) (J k j) j) (J (m (u x0 40) (B P (A x0 35) x1)) j)
def lH:bT:=dD ["self", "count"] 0 2 [] lY
def iK:Ss:=J (i (c X x1 (K 0)) (J k j) j) (J (m (u x0 41) (B P (A x0 39) x1)) j)
def i3:bT:=dD ["self", "count"] 0 2 [] iK
def lx:Ss:=J (y [2,3] (p (D (C (R 778) (D (A x0 1) (D (A x0 19) d))) (D (C (Y "list") (D x1 d)) d)))) (J (m (u x2 36) (C (Y "dict") (D (A x0 36) d))) (J (f [4] x3 (J (i (n (.cmp2 .LtE X (K 0) x4 (C (bi "len") (D (A x0 38) d)))) (J k j) j) j)) (J (.forEn0 (A x0 38)) (J (m (u x2 37) (C (Y "dict") (D (A x2 36) d))) (J (r x2) j)))))
def lF:bT:=dD ["self", "chosen", "found", "places", "place", "number", "octets"] 0 2 [] lx
def nR:Ss:=J (r (M x0 135 (D (C (Y "list") (D (C (Y "range") (D (C (bi "len") (D (A x0 38) d)) d)) d)) d))) j
def oG:bT:=dD ["self"] 0 1 [] nR
def nT:Ss:=J (i (C (bi "isinstance") (D x0 (D (Y "int") d))) (J k j) j) (J (.tr (J (r (C (Y "bytes") (D x0 d))) j)) j)
def oA:bT:=dD ["value"] 0 1 [] nT
def jX:Ss:=J (i (c .Gt (B h (L 4) (B P (C (bi "len") (D x0 d)) (K 1))) x1) (J k j) j) (J (m (t 2) (C (Y "bytearray") d)) (J (f [3] (B P (l (D (C (bi "len") (D x0 d)) d)) (C (Y "list") (D x0 d))) (J (x (M x2 202 (D (C (Y "bytes") (D (q (B v (B .RShift x3 (B h (K 8) x4)) (K 255)) [4] (C (Y "range") (D (L 4) d)) (.k (.bool true))) d)) d))) j)) (J (r (B P (C (Y "bytes") (D x2 d)) (C (Y "bytes") (D (B g x1 (C (bi "len") (D x2 d))) d)))) j)))
def kt:bT:=dD ["numbers", "size", "found", "value"] 1 2 [] jX
def jj:Ss:=J (i (.or3 (c X x2 (K 0)) (c X x3 (K 2)) (c .Gt (B P x2 x3) (A (A x1 30) 1))) (J k j) j) (J (m (u x0 22) x1) (J (m (u x0 43) x2) (J (m (u x0 19) x3) (J (m (u x0 20) (C (bi "min") (D (B g x3 (K 1)) (D (B g (B U (A x1 19) (L 4)) (K 1)) d)))) (J (m (u x0 31) (C (bi "min") (D (A x0 20) (D (B g (A x1 31) (L 4)) d)))) (J (i (c X (A x0 31) (K 1)) (J k j) j) (J (m (u x0 44) (.ife (c .Is x4 (.k .none)) (C (bi "min") (D (L 10) (D (A x0 31) d))) x4)) (J (i (n (.cmp2 .LtE .LtE (K 1) (A x0 44) (A x0 31))) (J k j) j) (J (m (u x0 45) (l d)) (J (m (u x0 27) .dct0) (J (m (u x0 26) (K 0)) (J (m (u x0 46) (K 0)) j))))))))))))
def jg:bT:=dD ["self", "cache", "start", "size", "each"] 0 4 [.none] jj
def gQ:Ss:=J (r (.cmp2 .LtE X (A x0 43) x1 (B P (A x0 43) (A x0 19)))) j
def gA:bT:=dD ["self", "number"] 0 2 [] gQ
def e9:Ss:=J (r (c .LtE (B P (C (bi "len") (D (A x0 45) d)) (B h (B P (A x0 26) (K 1)) (A x0 44))) (A x0 31))) j
def eC:bT:=dD ["self"] 0 1 [] e9
def jf:Ss:=J (r (B g (A x0 31) (C (bi "len") (D (A x0 45) d)))) j
def iU:bT:=dD ["self"] 0 1 [] jf
def hZ:Ss:=J (i (n (M x0 136 d)) (J k j) j) (J (z x0 26 P (K 1)) j)
def ie:bT:=dD ["self"] 0 1 [] hZ
def ii:Ss:=J (i (c e (A x0 26) (K 0)) (J k j) j) (J (i (M x0 137 (D (A x1 13) d)) (J k j) j) (J (i (c .In (A x1 13) (A x0 27)) (J (x (M (A x0 22) 129 (D x1 d))) (J .ret0 j)) j) (J (i (c .GtE (C (bi "len") (D (A x0 45) d)) (A x0 31)) (J k j) j) (J (x (M (A x0 22) 138 (D x1 d))) (J (m (w (A x0 27) (A x1 13)) (C (bi "len") (D (A x0 45) d))) (J (x (M (A x0 45) 200 (D (A x1 13) d))) j))))))
def il:bT:=dD ["self", "buffer"] 0 2 [] ii
def j4:Ss:=J (i (c e (A x0 26) (K 0)) (J k j) j) (J (z x0 26 g (K 1)) (J (i (a (c e (A x0 26) (K 0)) (c O (A x0 45) (l d))) (J (x (M x0 139 d)) j) j) j))
def j8:bT:=dD ["self"] 0 1 [] j4
def gr:Ss:=J (x (M x0 140 d)) (J (x (M x0 141 (D (A x0 45) d))) (J (x (M x0 142 (D (A x0 45) (D (.k (.bool false)) d)))) (J (x (M x0 141 (D (l d) d))) (J (f [1] (A x0 45) (J (x (M (A x0 22) 143 (D x1 d))) j)) (J (m (u x0 45) (l d)) (J (m (u x0 27) .dct0) (J (z x0 46 P (K 1)) j)))))))
def gO:bT:=dD ["self", "number"] 0 1 [] gr
def eM:Ss:=J (.forEn 1 2 (A x0 45) (J (x (M (A x0 22) 144 (D (B P (B P (A x0 43) (K 1)) x1) (D (M (A x0 22) 145 (D x2 d)) d)))) j)) (J (x (M (A x0 22) 131 d)) j)
def eH:bT:=dD ["self", "place", "number"] 0 1 [] eM
def dJ:Ss:=J (x (M (A x0 22) 144 (D (A x0 43) (D (C (R 794) (D x1 (D (A (A x0 22) 19) d))) d)))) (J (x (M (A x0 22) 131 d)) j)
def dF:bT:=dD ["self", "numbers"] 0 2 [] dJ
def fy:Ss:=J (.forEn 3 4 x1 (J (m (t 5) (M (A x0 22) 145 (D (.ife x2 (B P (B P (A x0 43) (K 1)) x3) x4) d))) (J (x (M (A x0 22) 144 (D x4 (D x5 d)))) j))) (J (x (M (A x0 22) 131 d)) j)
def fK:bT:=dD ["self", "numbers", "from_log", "place", "number", "octets"] 0 3 [] fy
def rm:Ss:=J (y [1,2] (p (D (K 37) (D (K 0) d)))) (J (f [3] (s x0 (.k .none) (K 24)) (J (m (t 1) (B W (B P (B P (B h x1 (K 48271)) (B h x3 (K 69621))) (K 43)) (K 2147483629))) (J (i (a (c e x2 (K 0)) (c .GtE (C (bi "abs") (D x3 d)) (B .Pow (K 10) (K 18)))) (J (m (t 2) (C (bi "abs") (D x3 d))) j) j) j))) (J (r (l (D x2 (D x1 (D (K 0) (D (C (Y "int") (D (o (c .Gt x2 (K 0)) (c .Gt (C (bi "len") (D x0 d)) (K 1))) d)) d)))))) j))
def rk:bT:=dD ["script", "seed", "great", "cell"] 0 1 [] rm
def ou:Ss:=J (i (c .Gt (b x0 (K 0)) (K 0)) (J (m (t 2) (B W (b x0 (K 0)) x1)) (J (m (w x0 (K 0)) (B U (b x0 (K 0)) x1)) (J (r x2) j))) j) (J (m (w x0 (K 2)) (B P (b x0 (K 2)) (K 1))) (J (m (t 3) (B W (B .Pow (B P (B P (b x0 (K 1)) (B h (K 15485863) (b x0 (K 2)))) (K 31)) (K 5)) (K 2147483647))) (J (r (B W (B U (B W (B .Pow (B P (B h x3 (K 48271)) (B h (K 7919) (b x0 (K 2)))) (K 3)) (K 2147483587)) (K 64)) x1)) j)))
def oq:bT:=dD ["box", "many", "digit", "mix"] 0 2 [] ou
def nP:Ss:=J (m (t 1) (C (R 778) (D (A x0 1) (D (K 64) d)))) (J (f [2] (B P (l (D (K 0) d)) (C (Y "list") (D (C (Y "range") (D (K 20) (D (A x0 1) d))) d))) (J (x (M x1 103 (D x2 (D (B h (C (Y "bytes") (D (l (D (B P (K 101) x2) d)) d)) (K 64)) d)))) j)) (J (x (M x1 103 (D (K 18) (D (B P (B P (C (Y "bytes") (D (A x0 5) d)) (C (Y "bytes") (D (l (D (K 2) (D (K 0) (D (K 0) (D (K 0) (D (K 0) (D (K 0) (D (K 1) d)))))))) d))) (C (Y "bytes") (D (B g (K 57) (A x0 5)) d))) d)))) (J (x (M x1 103 (D (K 19) (D (B P (C (Y "bytes") (D (l (D (K 255) (D (K 255) (D (K 15) d)))) d)) (C (Y "bytes") (D (K 61) d))) d)))) (J (x (M x1 131 d)) (J (r x1) j)))))
def om:bT:=dD ["plan", "disk", "number"] 0 1 [] nP
def j2:Ss:=J (m (t 2) (C (R 463) (D (C (R 896) (D (C (R 680) (D x0 (D (K 20) d))) (D (K 2) (D (K 16) d)))) (D x1 d)))) (J (r (p (D x2 (D (M x2 203 (D (K 1) d)) d)))) j)
def ke:bT:=dD ["disk", "plan", "nodes"] 0 2 [] j2
def nU:Ss:=J (r (B U (B P (C (bi "len") (D (b x0 (Q "octets")) d)) (K 63)) (K 64))) j
def oF:bT:=dD ["own"] 0 1 [] nU
def lL:Ss:=J (r (q x1 [1] (C (Y "range") (D (C (R 935) (D x0 d)) d)) (c .NotIn x1 (b x0 (Q "touched"))))) j
def mw:bT:=dD ["own"] 1 1 [] lL
def lN:Ss:=J (y [4,5] (p (D (b x2 (Q "octets")) (D (C (R 935) (D x2 d)) d)))) (J (y [6,7] (p (D (C (R 914) (D x0 (D (B P (C (bi "len") (D x4 d)) (K 10)) d))) (D (C (R 914) (D x0 (D (K 90) d))) d)))) (J (f [8,9] x1 (J (i (.or3 (c O (A x9 19) (C (bi "len") (D x4 d))) (c O (M x9 102 (D (K 0) (D (B P (C (bi "len") (D x4 d)) (K 5)) d))) x4) (c O (M x9 102 (D x6 (D x7 d))) (s x4 x6 (B P x6 x7)))) (J (r (.k (.bool false))) j) j) j)) (J (m (t 10) (q (M SW 146 d) [11,12] x1 (.k (.bool true)))) (J (r (a (c e (b GR (K 1)) (B g (B g (B g (A x3 1) (K 20)) x5) (C (Y "int") (D (c .Gt x5 (A x3 4)) d)))) (c e (b GR (K 0)) (B P (b GR (K 1)) (C (bi "len") (D (C (R 940) (D x2 d)) d)))))) j))))
def mq:bT:=dD ["box", "pair", "own", "plan", "octets", "full", "place", "many", "nodes", "node", "free"] 2 4 [] lN
def iW:Ss:=J (m (t 4) (C (bi "len") (D (b x1 (Q "octets")) d))) (J (m (t 5) (C (Y "bytes") (D (C (bi "max") (D (K 0) (D (B g x2 x4) d))) d))) (J (i (a (c O x5 (.k (.bytes []))) (c O (M (b (b x0 (K 1)) (K 1)) 103 (D x4 (D x5 d))) (C (bi "len") (D x5 d)))) (J (r (.k (.bool false))) j) j) (J (i (c O (q (M x8 103 (D x2 (D x3 d))) [7,8] x0 (.k (.bool true))) (l (D (C (bi "len") (D x3 d)) (D (C (bi "len") (D x3 d)) d)))) (J (r (.k (.bool false))) j) j) (J (m (w x1 (Q "octets")) (B P (B P (s (B P (b x1 (Q "octets")) x5) (.k .none) x2) x3) (s (b x1 (Q "octets")) (B P x2 (C (bi "len") (D x3 d))) (.k .none)))) (J (f [6] (C (Y "range") (D (B U x2 (K 64)) (D (B U (B P (B P x2 (C (bi "len") (D x3 d))) (K 63)) (K 64)) d))) (J (i (c .NotIn x6 (b x1 (Q "touched"))) (J (m (w x1 (Q "touched")) (B P (b x1 (Q "touched")) (l (D x6 d)))) j) j) j)) (J (r (.k (.bool true))) j))))))
def iB:bT:=dD ["pair", "own", "offset", "octets", "size", "gap", "index"] 2 4 [] iW
def oJ:Ss:=J (y [4,5,6] (p (D (C (R 914) (D x0 (D (K 5) d))) (D (B P (K 1) (C (R 914) (D x0 (D (K 60) d)))) (D (C (R 914) (D x0 (D (K 255) d))) d))))) (J (i (a (c e x4 (K 4)) (c O (b x2 (Q "octets")) (.k (.bytes [])))) (J (f [7,8] x1 (J (x (M x8 104 d)) j)) (J (.asgT (w x2 (Q "octets")) (w x2 (Q "touched")) (p (D (.k (.bytes [])) (D (l d) d)))) (J (i (n (C (R 945) (D x0 (D x1 (D x2 (D x3 d)))))) (J (r (.k (.bool false))) j) j) j))) j) (J (y [9,10] (p (D (C (R 940) (D x2 d)) (D (C (bi "len") (D (b x2 (Q "octets")) d)) d)))) (J (i (a (c e x4 (K 1)) (c O x9 (l d))) (J (m (t 11) (B P (B h (K 64) (b x9 (C (R 914) (D x0 (D (C (bi "len") (D x9 d)) d))))) (C (R 914) (D x0 (D (K 64) d))))) j) (J (i (a (c e x4 (K 2)) (c .Gt GR (K 0))) (J (m (t 11) GR) j) (J (i (a (c e x4 (K 3)) (c .Gt GR (K 0))) (J (m (t 11) (C (R 914) (D x0 (D GR d)))) j) (J (m (t 11) (B P (B P GR (B h (K 64) (C (R 914) (D x0 (D (K 4) d))))) (C (R 914) (D x0 (D (K 64) d))))) j)) j)) j)) (J (m (t 11) (C (bi "min") (D SW (D (B g (B h (K 64) (B g (A x3 1) (K 21))) x5) d)))) (J (r (C (R 950) (D x1 (D x2 (D SW (D (C (Y "bytes") (D (q (B P (K 1) (B W (B P x6 (B h (K 7) x12)) (K 255))) [12] (C (Y "range") (D x5 d)) (.k (.bool true))) d)) d)))))) j)))))
def nJ:bT:=dD ["box", "pair", "own", "plan", "way", "count", "first", "nodes", "node", "holes", "size", "offset"] 1 4 [] oJ
def Cj:Ss:=J (m (t 1) (C (R 907) (D x0 d))) (J (m (t 2) (C (R 204) (D (K 64) (D (B P (K 24) (B h (K 2) (b x1 (K 3)))) (D (K 2) (D (K 16) (D (B P (K 1) (C (R 914) (D x1 (D (K 2) d)))) d))))))) (J (y [3,4] (p (D (q (C (R 928) (D (C (R 921) (D x2 d)) (D x2 d))) [10] (C (Y "range") (D (K 2) d)) (.k (.bool true))) (D (.dct2 (G "octets") (G "touched") (.k (.bytes [])) (l d)) d)))) (J (f [5,6] x3 (J (x (M (A x5 21) 147 d)) j)) (J (m (t 7) (C (R 914) (D x1 (D (K 3) d)))) (J (f [8] (C (Y "range") (D (B P (K 1) (B h (K 2) (b x1 (K 3)))) d)) (J (i (o (n (C (R 955) (D x1 (D x3 (D x4 (D x2 d)))))) (n (C (R 945) (D x1 (D x3 (D x4 (D x2 d))))))) (J (r (.k (.bool false))) j) j) (J (i (a (c e (b x1 (K 3)) (K 1)) (c e x8 x7)) (J (f [5,6] x3 (J (x (M (A x5 21) 148 d)) (J (x (M (A x5 21) 147 d)) j))) j) j) j))) (J (f [9] (C (R 940) (D x4 d)) (J (i (c O (M (b (b x3 (K 0)) (K 1)) 103 (D (B h (K 64) x9) (D (C (Y "bytes") (D (K 64) d)) d))) (K 64)) (J (r (.k (.bool false))) j) j) j)) (J (m (w x4 (Q "touched")) (C (Y "list") (D (C (Y "range") (D (C (R 935) (D x4 d)) d)) d))) (J (i (n (C (R 945) (D x1 (D x3 (D x4 (D x2 d)))))) (J (r (.k (.bool false))) j) j) (J (i (c e (b x1 (K 3)) (K 0)) (J (r (.k (.bool true))) j) j) (J (f [5,6] x3 (J (x (M (A x5 21) 148 d)) j)) (J (r (C (R 945) (D x1 (D (q (C (R 928) (D (M (A (A SW 22) 30) 149 d) (D x2 d))) [11,12] x3 (.k (.bool true))) (D x4 (D x2 d)))))) j)))))))))))
def AL:bT:=dD ["script", "box", "plan", "pair", "own", "nodes", "node", "ended", "lap", "index"] 3 1 [] Cj
end
noncomputable def tab:CK:=⟨[(116,sI),(123,sk),(130,qd),(137,qW),(144,l8),(159,l0),(166,dT),(173,fp),(180,r5),(187,rj),(194,iJ),(201,iQ),(222,on),(234,hY),(241,jp),(255,oD),(262,lZ),(269,hV),(276,rX),(283,vP),(311,lw),(318,dW),(323,fu),(337,oB),(352,iC),(380,eY),(387,gn),(394,gH),(401,dY),(408,eG),(415,d6),(422,gz),(429,d8),(436,mn),(443,kr),(450,eA),(455,gC),(460,gJ),(481,kj),(488,mZ),(495,ic),(502,lc),(509,rO),(523,j9),(530,jh),(551,uB),(579,mv),(586,eI),(593,fE),(600,og),(607,fx),(614,ij),(621,nK),(628,ks),(635,ka),(642,kg),(649,lI),(656,lT),(698,oZ),(705,fo),(712,fP),(719,ow),(726,lg),(733,ww),(740,me),(747,lH),(754,i3),(761,lF),(768,oG),(789,oA),(794,kt),(809,jg),(816,gA),(823,eC),(830,iU),(837,ie),(844,il),(851,j8),(858,gO),(865,eH),(872,dF),(879,fK),(907,rk),(914,oq),(921,om),(928,ke),(935,oF),(940,mw),(945,mq),(950,iB),(955,nJ),(960,AL)],
 [(204,100,166),(204,112,173),(204,101,180),(204,130,187),(204,109,194),(204,115,201),(293,110,234),(293,114,241),(293,102,255),(293,103,262),(293,104,269),(293,105,276),(293,108,283),(463,107,318),(463,113,323),(463,203,337),(463,105,352),(463,120,380),(463,117,387),(463,116,394),(463,118,401),(463,125,408),(463,146,415),(463,122,422),(463,121,429),(463,102,436),(463,103,443),(463,123,450),(463,104,455),(463,124,460),(561,150,488),(561,130,495),(561,126,502),(561,151,509),(561,132,523),(561,119,530),(561,152,551),(680,127,586),(680,129,593),(680,203,600),(680,128,607),(680,111,614),(680,138,621),(680,143,628),(680,103,635),(680,131,642),(680,145,649),(680,144,656),(778,133,705),(778,127,712),(778,102,719),(778,103,726),(778,134,733),(778,131,740),(778,153,747),(778,154,754),(778,135,761),(778,149,768),(896,137,816),(896,136,823),(896,106,830),(896,147,837),(896,103,844),(896,148,851),(896,139,858),(896,140,865),(896,141,872),(896,142,879)],
 [(204,some 159),(293,some 222),(463,some 311),(561,some 481),(680,some 579),(778,some 698),(896,some 809)]⟩
noncomputable abbrev tb:rp:=tab.tab
def CF(f:iS)(as:List V)(b:Ss)(m:Fs):Prop:=∀ {N:Nat} {Q:V->H->Prop} {c:H} (h:aZ (tb.cx N) N b (uv Q) m c),tb.cf (N+1) f as Q c
abbrev pG(N f:Nat):Prop:=(tb.cx N).ok f=true
abbrev wx(N f:Nat):Prop:=(tb.cx N).init f=none
abbrev Jo(N f i:Nat):Prop:=(tb.cx N).init f=some i
abbrev dc(N C i f:Nat):Prop:=(tb.cx N).meth C i=some f
section
variable{N:Nat}{G z U v a4 a5 a6 a7 a8 a9:V}
def yB:CF 116 [G,z] sK [(0,G),(1,z)]:=λq=>aQ (d:=sI) (by kernel_rfl) rfl q
def dp:pG N 116:=by kernel_rfl
def dj:wx N 116:=by kernel_rfl
def yl:CF 123 [G,z] te [(0,G),(1,z)]:=λq=>aQ (d:=sk) (by kernel_rfl) rfl q
def eE:pG N 123:=by kernel_rfl
def eV:wx N 123:=by kernel_rfl
def vg:CF 130 [G,z,U] rn [(0,G),(1,z),(2,U)]:=λq=>aQ (d:=qd) (by kernel_rfl) rfl q
def iI:pG N 130:=by kernel_rfl
def iX:wx N 130:=by kernel_rfl
def wj:CF 137 [G,z,U] qi [(0,G),(1,z),(2,U)]:=λq=>aQ (d:=qW) (by kernel_rfl) rfl q
def nG:pG N 137:=by kernel_rfl
def oQ:wx N 137:=by kernel_rfl
def rK:CF 144 [G,z] lX [(0,G),(1,z)]:=λq=>aQ (d:=l8) (by kernel_rfl) rfl q
def jY:pG N 144:=by kernel_rfl
def kb:wx N 144:=by kernel_rfl
def rP:CF 159 [G,z,U,v,a4,a5] lD [(0,G),(1,z),(2,U),(3,v),(4,a4),(5,a5)]:=λq=>aQ (d:=l0) (by kernel_rfl) rfl q
def iM:CF 166 [G] d4 [(0,G)]:=λq=>aQ (d:=dT) (by kernel_rfl) rfl q
def kR:CF 173 [G] fI [(0,G)]:=λq=>aQ (d:=fp) (by kernel_rfl) rfl q
def pg:CF 194 [G,z] iY [(0,G),(1,z)]:=λq=>aQ (d:=iJ) (by kernel_rfl) rfl q
def pD:CF 201 [G,z] je [(0,G),(1,z)]:=λq=>aQ (d:=iQ) (by kernel_rfl) rfl q
def uu:CF 222 [G,z,U] nZ [(0,G),(1,z),(2,U)]:=λq=>aQ (d:=on) (by kernel_rfl) rfl q
def nq:CF 234 [G,z,U,v] hJ [(0,G),(1,z),(2,U),(3,v)]:=λq=>aQ (d:=hY) (by kernel_rfl) rfl q
def pb:CF 241 [G,z,U] iH [(0,G),(1,z),(2,U)]:=λq=>aQ (d:=jp) (by kernel_rfl) rfl q
def tD:CF 255 [G,z,U] oo [(0,G),(1,z),(2,U)]:=λq=>aQ (d:=oD) (by kernel_rfl) rfl q
def rG:CF 262 [G,z,U] lz [(0,G),(1,z),(2,U)]:=λq=>aQ (d:=lZ) (by kernel_rfl) rfl q
def mJ:CF 269 [G] hX [(0,G)]:=λq=>aQ (d:=hV) (by kernel_rfl) rfl q
def rA:CF 311 [G,z,U] lv [(0,G),(1,z),(2,U)]:=λq=>aQ (d:=lw) (by kernel_rfl) rfl q
def i7:CF 318 [G,z] d2 [(0,G),(1,z)]:=λq=>aQ (d:=dW) (by kernel_rfl) rfl q
def kz:CF 323 [G,z] fR [(0,G),(1,z)]:=λq=>aQ (d:=fu) (by kernel_rfl) rfl q
def uq:CF 337 [G,z] oz [(0,G),(1,z)]:=λq=>aQ (d:=oB) (by kernel_rfl) rfl q
def o9:CF 352 [G,z] iG [(0,G),(1,z)]:=λq=>aQ (d:=iC) (by kernel_rfl) rfl q
def jU:CF 380 [G] eR [(0,G)]:=λq=>aQ (d:=eY) (by kernel_rfl) rfl q
def ml:CF 387 [G,z] gu [(0,G),(1,z)]:=λq=>aQ (d:=gn) (by kernel_rfl) rfl q
def mo:CF 394 [G,z,U,v] gt [(0,G),(1,z),(2,U),(3,v)]:=λq=>aQ (d:=gH) (by kernel_rfl) rfl q
def jo:CF 401 [G,z] dX [(0,G),(1,z)]:=λq=>aQ (d:=dY) (by kernel_rfl) rfl q
def jO:CF 408 [G,z] eN [(0,G),(1,z)]:=λq=>aQ (d:=eG) (by kernel_rfl) rfl q
def jb:CF 415 [G] d3 [(0,G)]:=λq=>aQ (d:=d6) (by kernel_rfl) rfl q
def fH:CF 422 [G,z,U,v] gE [(0,G),(1,z),(2,U),(3,v)]:=λq=>aQ (d:=gz) (by kernel_rfl) rfl q
def dP:CF 429 [G,z,U,v] d7 [(0,G),(1,z),(2,U),(3,v)]:=λq=>aQ (d:=d8) (by kernel_rfl) rfl q
def rD:CF 436 [G,z,U,v] md [(0,G),(1,z),(2,U),(3,v)]:=λq=>aQ (d:=mn) (by kernel_rfl) rfl q
def qB:CF 443 [G,z,U,v] j3 [(0,G),(1,z),(2,U),(3,v)]:=λq=>aQ (d:=kr) (by kernel_rfl) rfl q
def jT:CF 450 [G,z,U,v,a4] e8 [(0,G),(1,z),(2,U),(3,v),(4,a4)]:=λq=>aQ (d:=eA) (by kernel_rfl) rfl q
def mt:CF 455 [G,z] gI [(0,G),(1,z)]:=λq=>aQ (d:=gC) (by kernel_rfl) rfl q
def mz:CF 460 [G,z] gv [(0,G),(1,z)]:=λq=>aQ (d:=gJ) (by kernel_rfl) rfl q
def qH:CF 481 [G,z,U] kh [(0,G),(1,z),(2,U)]:=λq=>aQ (d:=kj) (by kernel_rfl) rfl q
def mX:CF 495 [G] hW [(0,G)]:=λq=>aQ (d:=ic) (by kernel_rfl) rfl q
def rb:CF 523 [G,z] j1 [(0,G),(1,z)]:=λq=>aQ (d:=j9) (by kernel_rfl) rfl q
def pj:CF 530 [G] iA [(0,G)]:=λq=>aQ (d:=jh) (by kernel_rfl) rfl q
def ru:CF 579 [G,z,U] lq [(0,G),(1,z),(2,U)]:=λq=>aQ (d:=mv) (by kernel_rfl) rfl q
def jQ:CF 586 [G,z] eg [(0,G),(1,z)]:=λq=>aQ (d:=eI) (by kernel_rfl) rfl q
def ky:CF 593 [G,z] ft [(0,G),(1,z)]:=λq=>aQ (d:=fE) (by kernel_rfl) rfl q
def ue:CF 600 [G,z] oU [(0,G),(1,z)]:=λq=>aQ (d:=og) (by kernel_rfl) rfl q
def kx:CF 607 [G] fq [(0,G)]:=λq=>aQ (d:=fx) (by kernel_rfl) rfl q
def mY:CF 614 [G,z] io [(0,G),(1,z)]:=λq=>aQ (d:=ij) (by kernel_rfl) rfl q
def uE:CF 621 [G,z] oE [(0,G),(1,z)]:=λq=>aQ (d:=nK) (by kernel_rfl) rfl q
def qy:CF 628 [G,z] j5 [(0,G),(1,z)]:=λq=>aQ (d:=ks) (by kernel_rfl) rfl q
def qf:CF 635 [G,z] ku [(0,G),(1,z)]:=λq=>aQ (d:=ka) (by kernel_rfl) rfl q
def qJ:CF 642 [G] ko [(0,G)]:=λq=>aQ (d:=kg) (by kernel_rfl) rfl q
def r9:CF 649 [G,z] mr [(0,G),(1,z)]:=λq=>aQ (d:=lI) (by kernel_rfl) rfl q
def rS:CF 656 [G,z,U] lS [(0,G),(1,z),(2,U)]:=λq=>aQ (d:=lT) (by kernel_rfl) rfl q
def tX:CF 698 [G,z,U] oV [(0,G),(1,z),(2,U)]:=λq=>aQ (d:=oZ) (by kernel_rfl) rfl q
def kB:CF 705 [G] fG [(0,G)]:=λq=>aQ (d:=fo) (by kernel_rfl) rfl q
def kS:CF 712 [G,z] fN [(0,G),(1,z)]:=λq=>aQ (d:=fP) (by kernel_rfl) rfl q
def uw:CF 719 [G,z] oK [(0,G),(1,z)]:=λq=>aQ (d:=ow) (by kernel_rfl) rfl q
def rF:CF 726 [G,z,U] lQ [(0,G),(1,z),(2,U)]:=λq=>aQ (d:=lg) (by kernel_rfl) rfl q
def rs:CF 740 [G] mu [(0,G)]:=λq=>aQ (d:=me) (by kernel_rfl) rfl q
def rQ:CF 761 [G,z] lx [(0,G),(1,z)]:=λq=>aQ (d:=lF) (by kernel_rfl) rfl q
def tw:CF 768 [G] nR [(0,G)]:=λq=>aQ (d:=oG) (by kernel_rfl) rfl q
def uO:CF 789 [G] nT [(0,G)]:=λq=>aQ (d:=oA) (by kernel_rfl) rfl q
def uS:pG N 789:=by kernel_rfl
def uz:wx N 789:=by kernel_rfl
def qs:CF 794 [G,z] jX [(0,G),(1,z)]:=λq=>aQ (d:=kt) (by kernel_rfl) rfl q
def qK:pG N 794:=by kernel_rfl
def qO:wx N 794:=by kernel_rfl
def o5:CF 809 [G,z,U,v] jj [(0,G),(1,z),(2,U),(3,v),(4,.none)]:=λq=>aQ (d:=jg) (by kernel_rfl) rfl q
def mg:CF 816 [G,z] gQ [(0,G),(1,z)]:=λq=>aQ (d:=gA) (by kernel_rfl) rfl q
def jR:CF 823 [G] e9 [(0,G)]:=λq=>aQ (d:=eC) (by kernel_rfl) rfl q
def pu:CF 830 [G] jf [(0,G)]:=λq=>aQ (d:=iU) (by kernel_rfl) rfl q
def mW:CF 837 [G] hZ [(0,G)]:=λq=>aQ (d:=ie) (by kernel_rfl) rfl q
def mN:CF 844 [G,z] ii [(0,G),(1,z)]:=λq=>aQ (d:=il) (by kernel_rfl) rfl q
def p7:CF 851 [G] j4 [(0,G)]:=λq=>aQ (d:=j8) (by kernel_rfl) rfl q
def lP:CF 858 [G] gr [(0,G)]:=λq=>aQ (d:=gO) (by kernel_rfl) rfl q
def jM:CF 865 [G] eM [(0,G)]:=λq=>aQ (d:=eH) (by kernel_rfl) rfl q
def ir:CF 872 [G,z] dJ [(0,G),(1,z)]:=λq=>aQ (d:=dF) (by kernel_rfl) rfl q
def kQ:CF 879 [G,z,U] fy [(0,G),(1,z),(2,U)]:=λq=>aQ (d:=fK) (by kernel_rfl) rfl q
def vB:CF 907 [G] rm [(0,G)]:=λq=>aQ (d:=rk) (by kernel_rfl) rfl q
def vQ:pG N 907:=by kernel_rfl
def wE:wx N 907:=by kernel_rfl
def uH:CF 914 [G,z] ou [(0,G),(1,z)]:=λq=>aQ (d:=oq) (by kernel_rfl) rfl q
def ef:pG N 914:=by kernel_rfl
def ec:wx N 914:=by kernel_rfl
def uU:CF 921 [G] nP [(0,G)]:=λq=>aQ (d:=om) (by kernel_rfl) rfl q
def uN:pG N 921:=by kernel_rfl
def uM:wx N 921:=by kernel_rfl
def rg:CF 928 [G,z] j2 [(0,G),(1,z)]:=λq=>aQ (d:=ke) (by kernel_rfl) rfl q
def ja:pG N 928:=by kernel_rfl
def jm:wx N 928:=by kernel_rfl
def tM:CF 935 [G] nU [(0,G)]:=λq=>aQ (d:=oF) (by kernel_rfl) rfl q
def gR:pG N 935:=by kernel_rfl
def g7:wx N 935:=by kernel_rfl
def rZ:CF 940 [G] lL [(0,G)]:=λq=>aQ (d:=mw) (by kernel_rfl) rfl q
def f5:pG N 940:=by kernel_rfl
def f9:wx N 940:=by kernel_rfl
def rR:CF 945 [G,z,U,v] lN [(0,G),(1,z),(2,U),(3,v)]:=λq=>aQ (d:=mq) (by kernel_rfl) rfl q
def dB:pG N 945:=by kernel_rfl
def dE:wx N 945:=by kernel_rfl
def pa:CF 950 [G,z,U,v] iW [(0,G),(1,z),(2,U),(3,v)]:=λq=>aQ (d:=iB) (by kernel_rfl) rfl q
def po:pG N 950:=by kernel_rfl
def ph:wx N 950:=by kernel_rfl
def tN:CF 955 [G,z,U,v] oJ [(0,G),(1,z),(2,U),(3,v)]:=λq=>aQ (d:=nJ) (by kernel_rfl) rfl q
def ug:pG N 955:=by kernel_rfl
def tZ:wx N 955:=by kernel_rfl
def D0:CF 960 [G] Cj [(0,G)]:=λq=>aQ (d:=AL) (by kernel_rfl) rfl q
def ok_wlaw:pG N 960:=by kernel_rfl
def ni_wlaw:wx N 960:=by kernel_rfl
def zC:pG N 204:=by kernel_rfl
def Ba:Jo N 204 159:=by kernel_rfl
def CV:pG N 293:=by kernel_rfl
def Ek:Jo N 293 222:=by kernel_rfl
def Aa:pG N 463:=by kernel_rfl
def Au:Jo N 463 311:=by kernel_rfl
def yt:pG N 561:=by kernel_rfl
def zV:pG N 680:=by kernel_rfl
def AZ:Jo N 680 579:=by kernel_rfl
def vo:pG N 778:=by kernel_rfl
def zp:Jo N 778 698:=by kernel_rfl
def vj:pG N 896:=by kernel_rfl
def xQ:Jo N 896 809:=by kernel_rfl
def ew:dc N 204 100 166:=by kernel_rfl
def gw:dc N 204 112 173:=by kernel_rfl
def gg:dc N 204 109 194:=by kernel_rfl
def b9:dc N 204 115 201:=by kernel_rfl
def o6:dc N 293 110 234:=by kernel_rfl
def qS:dc N 293 114 241:=by kernel_rfl
def oj:dc N 293 102 255:=by kernel_rfl
def d9:dc N 293 103 262:=by kernel_rfl
def pi:dc N 293 104 269:=by kernel_rfl
def kJ:dc N 463 107 318:=by kernel_rfl
def ck:dc N 463 113 323:=by kernel_rfl
def yw:dc N 463 203 337:=by kernel_rfl
def kn:dc N 463 105 352:=by kernel_rfl
def c7:dc N 463 120 380:=by kernel_rfl
def ib:dc N 463 117 387:=by kernel_rfl
def pw:dc N 463 116 394:=by kernel_rfl
def kK:dc N 463 118 401:=by kernel_rfl
def l5:dc N 463 125 408:=by kernel_rfl
def kD:dc N 463 146 415:=by kernel_rfl
def ia:dc N 463 122 422:=by kernel_rfl
def ej:dc N 463 121 429:=by kernel_rfl
def vq:dc N 463 102 436:=by kernel_rfl
def ub:dc N 463 103 443:=by kernel_rfl
def mD:dc N 463 123 450:=by kernel_rfl
def o7:dc N 463 104 455:=by kernel_rfl
def pq:dc N 463 124 460:=by kernel_rfl
def kq:dc N 561 130 495:=by kernel_rfl
def wT:dc N 561 132 523:=by kernel_rfl
def ur:dc N 561 119 530:=by kernel_rfl
def fJ:dc N 680 127 586:=by kernel_rfl
def cF:dc N 680 129 593:=by kernel_rfl
def kY:dc N 680 203 600:=by kernel_rfl
def nh:dc N 680 128 607:=by kernel_rfl
def eO:dc N 680 111 614:=by kernel_rfl
def xd:dc N 680 138 621:=by kernel_rfl
def uQ:dc N 680 143 628:=by kernel_rfl
def tG:dc N 680 103 635:=by kernel_rfl
def tC:dc N 680 131 642:=by kernel_rfl
def o3:dc N 680 145 649:=by kernel_rfl
def iV:dc N 680 144 656:=by kernel_rfl
def c6:dc N 778 133 705:=by kernel_rfl
def fj:dc N 778 127 712:=by kernel_rfl
def wA:dc N 778 102 719:=by kernel_rfl
def eb:dc N 778 103 726:=by kernel_rfl
def lK:dc N 778 131 740:=by kernel_rfl
def tU:dc N 778 135 761:=by kernel_rfl
def vl:dc N 778 149 768:=by kernel_rfl
def rt:dc N 896 137 816:=by kernel_rfl
def pd:dc N 896 136 823:=by kernel_rfl
def oH:dc N 896 106 830:=by kernel_rfl
def uF:dc N 896 147 837:=by kernel_rfl
def uo:dc N 896 103 844:=by kernel_rfl
def xb:dc N 896 148 851:=by kernel_rfl
def sd:dc N 896 139 858:=by kernel_rfl
def pE:dc N 896 140 865:=by kernel_rfl
def fF:dc N 896 141 872:=by kernel_rfl
def qh:dc N 896 142 879:=by kernel_rfl
end
noncomputable def nmL:List (Nat×Str):=Uu 0 ["block", "blocks", "inodes", "log", "direct", "row", "rows", "indirect", "log_start", "inode_start", "bitmap_start", "data_start", "nodes", "number", "holders", "kind", "major", "minor", "links", "size", "places", "journal", "cache", "super", "room", "table", "calls", "noted", "data", "pins", "disk", "most", "by_number", "hits", "reads", "writes", "kept", "latest", "unflushed", "flushes", "last", "last_flush", "is_dead", "start", "each", "numbers", "commits"]++Uu 100 ["most_blocks", "words", "read", "write", "truncate", "update", "left", "need_number", "hold", "row_of", "take_row", "release", "most_size", "need_room", "put_row", "bit_of", "free_bit", "turn_bit", "clear_block", "clear", "take_block", "named_block", "block_of", "write_part", "names_in", "give_block", "need_part", "need_block", "make_room", "need_held", "octets", "flush", "fill", "need_power", "fail", "after", "has_room", "is_own", "pin", "commit", "fill_log", "write_head", "install", "unpin", "poke", "peek", "free_blocks", "begin", "end", "copy", "is_free", "take", "bit", "stop_after", "stop_at_flush"]++Uu 200 ["append", "remove", "extend", "get"]
end
end L04
set_option maxHeartbeats 0
noncomputable def pN(st:Yp->aaW->Option (Yp×aaW))(ok:aaW->Bool):Nat->Yp->aaW->Option Yp
 |0,_,_=>none
 |n+1,s,t=>match through t with
  |true=>some s
  |false=>match ok t with
   |false=>none
   |true=>match st s t with
    |some (b,c)=>pN st ok n b c
    |none=>none
noncomputable def leaf(o:Obj):BT:=.node o .nil .nil
noncomputable def T0(P:Zd):BT:=.node (boot_o_0 P) (.node (boot_o_1 P) (.node (boot_o_3 P) (leaf (boot_o_7 P)) .nil) (.node (boot_o_5 P) (leaf (boot_o_9 P)) .nil)) (.node (boot_o_2 P) (.node (boot_o_4 P) (leaf (boot_o_8 P)) .nil) (.node (boot_o_6 P) (leaf (boot_o_10 P)) .nil))
def t0(P:Zd):absHeap (T0 P) 11 {}=XB P:=by kernel_rfl
noncomputable def Jq:Program:=PySem.W.view HI [48]
noncomputable def pH:List Str:=(["_wall", "BoardError", "BadArgument", "BadDisk", "NoRoom", "Crash", "MAGIC", "FREE", "DEVICE",
  "FIRST_LOG", "DIRECT", "HEAD", "PIECE", "SUPER_WORDS", "MOST_A_PIECE", "NoBlock", "half_at", "word_at", "put_half",
  "put_word", "rounded_up", "Super", "Node", "Nodes", "Buffer", "Cache", "Disk", "octets_in", "NUMBER", "MOST_EACH",
  "SPARE", "packed_head", "Journal", "_law_box", "_law_take", "_law_disk", "_law_opened", "_law_full", "_law_holes",
  "_law_alike", "_law_written", "_law_deed"]:List String).map Str.ofString
noncomputable def RT(w:Va)(os:Xo):Option SharedT:=pN (abH (abI abJ) HI w) (abK 11 (some (.ref 6))) 7000 ⟨T0 w.params,11,{}, #[],aaX,abx,os⟩ (topStub HI)
noncomputable def Je:List Nat:= [0,1,2,3,115,116,122,123,129,130,136,137,143,144,152,158,159,165,166,172,173,179,180,186,187,193,194,200,201,203,204,221,222,233,234,240,241,254,255,261,262,268,269,275,276,282,283,292,293,310,311,317,318,322,323,336,337,351,352,379,380,386,387,393,394,400,401,407,408,414,415,421,422,428,429,435,436,442,443,449,450,454,455,459,460,462,463,480,481,487,488,494,495,501,502,508,509,522,523,529,530,550,551,560,561,578,579,585,586,592,593,599,600,606,607,613,614,620,621,627,628,634,635,641,642,648,649,655,656,679,680,697,698,704,705,711,712,718,719,725,726,732,733,739,740,746,747,753,754,760,761,767,768,777,778,788,789,793,794,802,808,809,815,816,822,823,829,830,836,837,843,844,850,851,857,858,864,865,871,872,878,879,895,896,906,907,913,914,920,921,927,928,934,935,939,940,944,945,949,950,954,955,959,960]
noncomputable def Jc(i:Nat):Str:=(L04.nmL.lookup i).getD ⟨#[1,i]⟩
noncomputable def Ta(T:BT):Frag:=Je.filterMap λa=>((T.get a).bind alive).map (a,·)
noncomputable def Br(w:Va)(K:YY):bo:=⟨HI,w,K,Jc,L04.tab.tab.cls⟩
noncomputable def zi(K:YY):Bool:=match K.lookup UX with
 |some ⟨_,_,.dict b _,_⟩=>VG b (Str.ofString "law")==some (.ref 960)
 |_=>false
def chk:∀w b:Va,(λos:Xo=>(RT w os).map (λs=>(((aby (WC PySem.Challenge.pw_zu0078_04.main.body) (absHeap (T0 w.params) 11 {}) s.abs.heap&&aaY HI s.abs.heap&&gensDone s.abs&&laidKept (absHeap (T0 w.params) 11 {}) s.abs.heap),openSeen Jq pH (WC PySem.Challenge.pw_zu0078_04.main.body) (λs=>recOk [] s) true s.abs),(Je.all (λa=>Vl a s.n),zi (Ta s.tree),IR (Br b (Ta s.tree)) L04.tab))))=λJ=>some ((true,openGood Jq pH),(true,true,true)):=λw b=>by kernel_rfl
theorem qD{p:Vd}{w:Va}{b:Nat}{c:Option Value}:∀ {n:Nat} {s g:Yp} {t:aaW},pN (stepT (aaT Wt) p w) (stepOk b c) n s t=some g->topRun Wt p w b c n s.abs t=some g.abs
 |0,_,_,_,h=>by exact nN h
 |n+1,s,g,t,h=>by
  unfold pN at h;unfold topRun;cases k:through t with
  |true=>rw [k] at h;cases h;rfl
  |false=>
   rw [k] at h;cases m:stepOk b c t with
   |false=>rw [m] at h;exact nN h
   |true=>
    rw [m] at h;cases j:stepT (aaT Wt) p w s t with
    |none=>rw [j] at h;exact nN h
    |some r=>obtain⟨u,v⟩:=r;rw [j] at h;rw [stepT_spec j];exact qD h
theorem ua{T:BT}:∀ {as:List Nat} {a:iS} {o:Obj},(as.filterMap λa=>((T.get a).bind alive).map (a,·)).lookup a=some o->a∈as/\(T.get a).bind alive=some o
 | [],_,_,h=>nN h
 |b::as,a,o,h=>by
  rw [VO] at h;cases c:(T.get b).bind alive with
  |none=>rw [c] at h;obtain⟨g,j⟩:=ua h;exact⟨.tail _ g,j⟩
  |some ob=>
   rw [c] at h;have h:(abu a ((b,ob)::as.filterMap _))=some o:=h;rw [UR] at h;cases e:a==b with
   |true=>rw [e] at h;cases h;rw [beq_iff_eq.mp e];exact⟨.head _,c⟩
   |false=>rw [e] at h;obtain⟨g,j⟩:=ua h;exact⟨.tail _ g,j⟩
def G9(w:Va)(h:UT):Prop:=∃K,K.In h/\IR (Br w K) L04.tab=true/\zi K=true
def IM(w:Va):(fencedOpening Wt HI w 7000).map (λs=>(s.heap,s.gens,s.drawn,s.toks))=some (XB w.params,ab5 [],aaX,abx):=
 boot_open (by kernel_rfl) (by kernel_rfl) (λs=>by kernel_rfl) w
def Hf:∀w:Va,((XB w.params).isNs UX&&(ab5 []:Array GenState).size==0,(XB w.params).objs.size,(XB w.params).nsMap UX "__annotations__")=(true,11,some (.ref 6)):=λw=>by kernel_rfl
def Pv{w:Va}{os:Xo}{s:Yp}(h:RT w os=some s):topRun Wt HI w 11 (some (.ref 6)) 7000 ⟨XB w.params, #[],aaX,abx,os⟩ (topStub HI)=some s.abs:=by
 unfold RT at h;rw [<-Fast.te10156331382660048174,<-Fast.te11892475500146522536,<-Fast.te14364793385576792824,<-Fast.te6613529449190102663] at h;have h:=qD h;rw [<-t0];exact h
def uZ{p q:Vd}{loose:List Str}{z:bS->Bool}{A:Type}{B:bS->A}{C:Va->A}{N:Nat}{g0:Bool}{c:Zd->UT}{g:Array GenState}{j:Drawn}{m:Nat}{u:Nat}{x:Option Value}
  (v:∀w:Va,(fencedOpening Wt p w N).map (λs=>(s.heap,s.gens,s.drawn,s.toks))=some (c w.params,g,j,m))
  (y:∀w:Va,((c w.params).isNs UX&&g.size==0,(c w.params).objs.size,(c w.params).nsMap UX "__annotations__")=(true,u,x))
  (run:∀(w:Va) (os:Xo),∃b,topRun Wt p w u x N ⟨c w.params,g,j,m,os⟩ (topStub p)=some b/\(aby (WC p.main.body) (c w.params) b.heap&&aaY p b.heap&&gensDone b&&laidKept (c w.params) b.heap)=true/\
   openSeen q loose (WC p.main.body) z g0 b=openGood q loose/\B b=C w):LeftO p q loose z B C N g0:=λw=>by
 obtain⟨⟨h,G,d,k,os⟩,e,J⟩:=Option.map_eq_some_iff.mp (v w);obtain⟨rfl,rfl,rfl,rfl⟩:h=c w.params/\G=g/\d=j/\k=m:=by simpa using J
 obtain⟨M,O,Q⟩:_/\_/\_:=by simpa only [Prod.mk.injEq] using y w
 obtain⟨b,r,U,Y,l3⟩:=run w os;have t:topFrom Wt p w N ⟨c w.params,G,d,k,os⟩=some b:=by
  unfold topFrom;dsimp only;rw [M,O,Q,r];show(match aby (WC p.main.body) (c w.params) b.heap&&aaY p b.heap&&gensDone b&&laidKept (c w.params) b.heap with|true=>_|false=>_)=_;rw [U]
 unfold openEnds;rw [e];show(topFrom Wt p w N _).map _=_;rw [t];exact congrArg some (Prod.ext Y l3)
def Ix{s:Yp}(h:Je.all (λa=>Vl a s.n)=true):(Ta s.tree).In s.abs.heap:=λa o b=>by
 obtain⟨c,g⟩:=ua b;obtain⟨m,j,k⟩:=Option.bind_eq_some_iff.mp g;exact(abs_get (EQ (List.all_eq_true.mp h a c)) j).trans k
def Hl:LeftO HI Jq pH (λs=>recOk [] s) (λs=>∀w,G9 w s.heap) (λJ=>True) 7000:=uZ IM Hf λw os=>by
 obtain⟨s,g,e⟩:=Option.map_eq_some_iff.mp (congrFun (chk w w) os);refine⟨s.abs,Pv g,?_,congrArg (λp=>p.1.2) e,eq_true λh=>?_⟩
 ·rw [<-t0];exact congrArg (λp=>p.1.1) e
 ·obtain⟨j,b,c⟩:=Option.map_eq_some_iff.mp (congrFun (chk w h) os);cases eQ (g.symm.trans b);exact⟨_,Ix (congrArg (λp=>p.2.1) c),congrArg (λp=>p.2.2.2) c,congrArg (λp=>p.2.2.1) c⟩
noncomputable def UE(s:Str):Nat:=s.cps.toList.foldl (λn c=>n*2097152+c) 0
theorem sO:∀ {l:List Nat},gf l=true->l.Nodup
 | [],_=>.nil
 |a::l,h=>.cons (λb c e=>by subst e;exact fT ((congrArg (!·) (List.contains_iff_mem.mpr c)).symm.trans (bl h))) (sO (br h))
def Fe:M4 Jc:=by
 refine⟨λi j b c h=>?_,by decide+kernel,by decide+kernel,by decide+kernel,by decide+kernel⟩;have g:=sO (show gf ((oS 300).map λi=>UE (Jc i))=true by kernel_rfl);exact(WO (h₀:=by rw [eS,tS];exact b) (h₁:=by rw [eS,tS];exact c) g).mp (by rw [HD,HD,Xt,Xt,h])
theorem y5{x y:Int}(hx:0<=x)(hy:0<=y):OP x y=((x.toNat&&&y.toNat:Nat):Int):=by
 unfold OP;rw [lO hx,lO hy]
theorem not_not(x:Int):V3 (V3 x)=x:=by exact Sz
theorem Jh{x y:Int}(hx:0<=x)(hy:0<=y):VM x y=((x.toNat|||y.toNat:Nat):Int):=by
 delta VM OP;have h1:decide (0<=V3 x)=false:=by simp [V3];lia
 have h2:decide (0<=V3 y)=false:=by simp [V3];lia
 rw [h1,h2];simp only [not_not]
theorem Fc:∀x:Fin 256,∀k:Fin 8,Ya (x.val:Int) ((2^k.val:Nat):Int)=((x.val^^^2^k.val:Nat):Int):=by decide+kernel
theorem qc{x:Int}(hx:0<=x)(k:Nat){m:Int}(h0:0<=m)(h:m.toNat=2^k-1):OP x m=x%((2^k:Nat):Int):=by
 rw [y5 hx h0,h,Nat.and_two_pow_sub_one_eq_mod,Int.natCast_emod,Int.toNat_of_nonneg hx]
theorem xK{x:Int}(hx:0<=x):OP x 255=x%256:=qc hx 8 (by decide) rfl
theorem w5{x:Int}(hx:0<=x):OP x 65535=x%65536:=qc hx 16 (by decide) rfl
theorem J9{x:Int}(hx:0<=x):OP x 7=x%8:=qc hx 3 (by decide) rfl
theorem vU{x y:Int}{k:Nat}(hx:0<=x)(hxk:x<2^k)(hy:0<=y):VM x (y*2^k)=x+y*2^k:=by
 refine(Jh hx (Int.mul_nonneg hy (Int.le_of_lt (Int.pow_pos (by decide))))).trans ?_;refine du (Int.eq_ofNat_of_zero_le hx) λa e3_1q=>?_
 subst e3_1q;obtain⟨b,rfl⟩:=Int.eq_ofNat_of_zero_le hy;have e:((b:Int)*2^k).toNat=2^k*b:=by
  have:((b:Int)*2^k)=((2^k*b:Nat):Int):=by push_cast;rw [Int.mul_comm]
  rw [this,Int.toNat_natCast]
 rw [e,Int.toNat_natCast,Nat.or_comm,<-Nat.two_pow_add_eq_or_of_lt (by exact_mod_cast hxk:a<2^k)];push_cast;rw [Int.mul_comm,Int.add_comm]
noncomputable def oct(b:List UInt8)(i:Nat):Nat:=(b[i]?.getD 0).toNat
noncomputable def fh(b:List UInt8)(i:Nat):Nat:=oct b i+256*oct b (i+1)
noncomputable def dK(b:List UInt8)(i:Nat):Nat:=fh b i+65536*fh b (i+2)
noncomputable def bk(b:List UInt8)(i v:Nat):List UInt8:=(b.set i (Tk (v%256))).set (i+1) (Tk (v/256%256))
noncomputable def bO(b:List UInt8)(i v:Nat):List UInt8:=bk (bk b i (v%65536)) (i+2) (v/65536%65536)
theorem g3(b:List UInt8)(i:Nat):oct b i<256:=UInt8.toNat_lt _
theorem s64{a:Nat}(h:a<18446744073709551616):(a:Int).natAbs<2^64:=h
theorem HJ{a:Int}(h0:0<=a)(h:a<18446744073709551616):a.natAbs<2^64:=by
 obtain⟨n,rfl⟩:=Int.eq_ofNat_of_zero_le h0;exact Int.ofNat_lt.mp h
theorem y7(b:List UInt8)(i:Nat):fh b i<65536:=by have:=g3 b i;exact NW ‹_› (g3 b (i+1))
theorem Hu{b:List UInt8}{i:Nat}(h:i<b.length):b[i]? =some (Tk (oct b i)):=by
 unfold oct;rw [yS h];simp
theorem tx{b:List UInt8}{i j:Nat}{v:Nat}(h:i<b.length)(hv:v<256):oct (b.set i (Tk v)) j=if i=j then v else oct b j:=by
 unfold oct;rw [aai];by_cases e:i=j
 ·subst e;rw [eX rfl,eX rfl,eX h];exact(WU hv)
 ·rw [if_neg e,if_neg e]
theorem aV(b:List UInt8)(i v:Nat):(bk b i v).length=b.length:=by simp [bk]
theorem bP(b:List UInt8)(i v:Nat):(bO b i v).length=b.length:=by simp [bO,aV]
theorem cR{b:List UInt8}{i j v:Nat}(h:i+1<b.length):oct (bk b i v) j=if j=i then v%256 else if j=i+1 then v/256%256 else oct b j:=by
 unfold bk;rw [tx (by simpa using h) (W6 _ (by decide)),tx (by exact SC h) (W6 _ (by decide))];by_cases h1:j=i
 ·subst h1;simp
 ·by_cases h2:j=i+1
  ·subst h2;simp
  ·simp [h1,h2,NS h1,NS h2]
theorem md1(v:Nat):v%65536%256=v%256:=Nat.mod_mod_of_dvd v (by decide)
theorem md2(v:Nat):v%65536/256%256=v/256%256:=(congrArg (· %256) (Nat.mod_mul_right_div_self v 256 256)).trans (Nat.mod_mod _ _)
theorem cD{b:List UInt8}{i j v:Nat}(h:i+3<b.length):oct (bO b i v) j=if i<=j/\j<i+4 then v/256^(j-i)%256 else oct b j:=by
 refine(cR (by rw [aV];exact h)).trans ?_;rw [cR (Vu (Nat.add_le_add_left (by decide) i) h)];by_cases h1:j=i+2
 ·subst h1;refine(eX rfl).trans ?_;rw [eX ⟨NM ..,VR (by decide) i⟩,V5];exact md1 _
 refine(if_neg h1).trans ?_;by_cases h2:j=i+2+1
 ·subst h2;refine(eX rfl).trans ?_;rw [eX ⟨NM i 3,VR (by decide) i⟩,show i+2+1-i=3 from V5 i 3];exact(md2 _).trans (congrArg (· %256) (W9 v 65536 256))
 refine(if_neg h2).trans ?_;by_cases h3:j=i
 ·subst h3;refine(eX rfl).trans ?_;rw [eX ⟨oP _,Nat.lt_add_of_pos_right (by decide)⟩,abz];exact(md1 v).trans (congrArg (· %256) (abL v).symm)
 refine(if_neg h3).trans ?_;by_cases h4:j=i+1
 ·subst h4;refine(eX rfl).trans ?_;rw [eX ⟨NM i 1,VR (by decide) i⟩,V5];exact md2 v
 exact(if_neg h4).trans (if_neg (JX h3 h4 h1 h2)).symm
theorem Dj{v a b c x y z:Nat}(h1:x+256*a=v)(h2:y+256*b=a)(h3:z+256*c=b):x+256*y+65536*(z+256*c)=v:=by exact Mc h1 h2 h3
theorem gT{b:List UInt8}{i v:Nat}(h:i+3<b.length)(hv:v<4294967296):dK (bO b i v) i=v:=by
 have e:∀k,k<4->oct (bO b i v) (i+k)=v/256^k%256:=λk hk=>by
  rw [cD h,eX ⟨NM ..,VR hk i⟩,V5]
 have e0:oct (bO b i v) i=v%256:=(e 0 (by decide)).trans (congrArg (· %256) (abL v));delta dK fh;rw [e0,e 1 (by decide),e 2 (by decide),show oct (bO b i v) (i+2+1)=_ from e 3 (by decide)];rw [show v/256^3%256=v/65536/256 from(WU (Nat.div_lt_of_lt_mul (m:=v) (n:=16777216) (k:=256) hv)).trans (W9 v 65536 256).symm];exact Dj (Yq v 256) (Yq (v/256) 256) ((Yq (v/256^2) 256).trans (W9 v 256 256).symm)
theorem nA{b:List UInt8}{i j v:Nat}(h:i+3<b.length)(hij:j+4<=i\/i+4<=j):dK (bO b i v) j=dK b j:=by
 delta dK fh;rw [cD h,cD h,cD h,cD h];rw [if_neg (by exact KU hij),if_neg (by exact RI hij),if_neg (by exact R7 hij),if_neg (by exact QQ hij)]
section
def Ev(m:Fs)(σ:H)(e:E)(v:V):Prop:=∀(x:Cx) (n:Nat) (Q:V->H->Prop),Q v σ->xE x n m e Q σ
def fc(m:Fs)(σ:H)(e:E)(b:Bool):Prop:=∀(x:Cx) (n:Nat) (Q:Bool->H->Prop),Q b σ->xT x n m e Q σ
def sy(m:Fs)(σ:H)(es:Es)(vs:List V):Prop:=∀(x:Cx) (n:Nat) (Q:List V->H->Prop),Q vs σ->lf x n m es Q σ
section
variable{m:Fs}{σ:H}{e l r o:E}{v a b:V}{i:Nat}
theorem bj{w:V}(h:Ev m σ e v)(hv:v=w):Ev m σ e w:=hv▸h
theorem aN:Ev m σ (.k v) v:=λJ J J q=>q
theorem sP:Ev m σ (.g v) v:=λJ J J q=>q
theorem aB(h:aC m i=some v):Ev m σ (.v i) v:=λx n Q q=>by show(match aC m i with|some v=>Q v σ|none=>False);exact h▸q
theorem aE{p:iS}{C:iS}{fs:Fs}(he:Ev m σ e (.ref p))(hp:σ p=some (.inst C fs))(hf:aC fs i=some v)(hi:Vl i 100=true)(hb:v.noBi=true):Ev m σ (.attr e i) v:=λx n Q q=>he x n _ (by
 show(match σ p with|some (.inst _ fs)=>i<100/\(match aC fs i with|some v=>v.noBi=true/\Q v σ|none=>False)|_=>False)
 rw [hp];dsimp only;exact hf▸⟨EQ hi,hb,q⟩)
theorem ik{op:VP}(hl:Ev m σ l a)(hr:Ev m σ r b)(h:∀Q:V->H->Prop,Q v σ->qG op a b Q σ):Ev m σ (.bin op l r) v:=λx n Q q=>hl x n _ (hr x n _ (h Q q))
theorem aY{p q:Int}(hl:Ev m σ l (.int p))(hr:Ev m σ r (.int q)):Ev m σ (.bin .Add l r) (.int (p+q)):=ik hl hr λJ q=>q
theorem cI{p q:Int}(hl:Ev m σ l (.int p))(hr:Ev m σ r (.int q)):Ev m σ (.bin .Sub l r) (.int (p-q)):=ik hl hr λJ q=>q
theorem cy{p q:Int}(hl:Ev m σ l (.int p))(hr:Ev m σ r (.int q))(h:YZ p q):Ev m σ (.bin .Mult l r) (.int (p*q)):=ik hl hr λJ q=>⟨h,q⟩
theorem gP{p q:Int}(hl:Ev m σ l (.int p))(hr:Ev m σ r (.int q))(h:q≠0)(h2:Wh p q=false):Ev m σ (.bin .FloorDiv l r) (.int (p.fdiv q)):=ik hl hr λJ q=>⟨h,h2,q⟩
theorem i5{p q:Int}(hl:Ev m σ l (.int p))(hr:Ev m σ r (.int q))(h:q≠0):Ev m σ (.bin .Mod l r) (.int (p.fmod q)):=ik hl hr λJ q=>⟨h,q⟩
theorem mf{p q:Int}(hl:Ev m σ l (.int p))(hr:Ev m σ r (.int q)):Ev m σ (.bin .BitAnd l r) (.int (OP p q)):=ik hl hr λJ q=>q
theorem Tv{p q:Int}(hl:Ev m σ l (.int p))(hr:Ev m σ r (.int q)):Ev m σ (.bin .BitOr l r) (.int (VM p q)):=ik hl hr λJ q=>q
theorem M7{p q:Int}(hl:Ev m σ l (.int p))(hr:Ev m σ r (.int q)):Ev m σ (.bin .BitXor l r) (.int (Ya p q)):=ik hl hr λJ q=>q
theorem FV{p q:Int}(hl:Ev m σ l (.int p))(hr:Ev m σ r (.int q))(h:0<=q/\q<=1000/\p.natAbs<2^64):Ev m σ (.bin .LShift l r) (.int (p*2^q.toNat)):=ik hl hr λJ q=>⟨h.1,h.2.1,h.2.2,q⟩
theorem zk{p q:Int}(hl:Ev m σ l (.int p))(hr:Ev m σ r (.int q))(h:0<=q):Ev m σ (.bin .RShift l r) (.int (p.fdiv (2^q.toNat))):=ik hl hr λJ q=>⟨h,q⟩
theorem GS{p:Int}(hl:Ev m σ l (.int p)):Ev m σ (.neg l) (.int (-p)):=λx n Q q=>hl x n _ q
theorem oN{op:VY}{t:Bool}(hl:Ev m σ l a)(hr:Ev m σ r b)(h:∀Q:V->H->Prop,Q (.bool t) σ->cr op a b Q σ):Ev m σ (.cmp op l r) (.bool t):=λx n Q q=>hl x n _ (hr x n _ (h Q q))
theorem Ip{op o2:VY}{k:E}{c:V}{t:Bool}(hl:Ev m σ l a)(hk:Ev m σ k b)(hr:Ev m σ r c)(h:∀Q:V->H->Prop,Q (.bool true) σ->cr op a b Q σ)(h2:∀Q:V->H->Prop,Q (.bool t) σ->cr o2 b c Q σ):Ev m σ (.cmp2 op o2 l k r) (.bool t):=λx n Q q=>hl x n _ (hk x n _ (h _ (hr x n _ (h2 Q q))))
theorem cC(ho:Ev m σ o a)(hi:Ev m σ e b)(h:∀Q:V->H->Prop,Q v σ->g9 a b Q σ):Ev m σ (.sub o e) v:=λx n Q q=>ho x n _ (hi x n _ (h Q q))
theorem Py{lo hi:E}{c d:V}(ho:Ev m σ o a)(hl:Ev m σ lo c)(hh:Ev m σ hi d)(h:∀Q:V->H->Prop,Q v σ->jP a c d Q σ):Ev m σ (.slc o lo hi) v:=λx n Q q=>ho x n _ (hl x n _ (hh x n _ (h Q q)))
theorem cp{t:String}{as:Es}{vs:List V}(hs:sy m σ as vs)(h:∀Q:V->H->Prop,Q v σ->w7 t vs Q σ):Ev m σ (.call (.g (.bi t)) as) v:=λx n Q q=>hs x n _ (h Q q)
theorem wh{t:String}{as:Es}{vs:List V}(hs:sy m σ as vs)(h:∀Q:V->H->Prop,Q v σ->zA t vs Q σ):Ev m σ (.call (.g (.ty t)) as) v:=λx n Q q=>hs x n _ (h Q q)
theorem aI:sy m σ .nil []:=λJ J J q=>q
theorem aG{es:Es}{vs:List V}(h:Ev m σ e v)(hs:sy m σ es vs):sy m σ (.cons e es) (v::vs):=λx n Q q=>h x n _ (hs x n _ q)
theorem Ni{es:Es}{vs:List V}{p:iS}{ob:AO}{k:Mk}(ho:Ev m σ o (.ref p))(hp:σ p=some ob)(hk:∀x,et x σ (.ref p) i=some k)(hnf:∀f,k≠ .fn f)(hs:sy m σ es vs)(h:∀Q:V->H->Prop,Q v σ->jd k p ob i vs Q σ):Ev m σ (.mc o i es) v:=λx n Q q=>ho x n _ (by
 refine hk x▸ ?_;refine hs x n _ ?_;have:=h Q q;induction k with
 |fn f=>exact absurd rfl (hnf f)
 |li=>show(match σ p with|some ob=>jd .li p ob i vs Q σ|none=>False);refine hp▸ ?_;exact this
 |ba=>show(match σ p with|some ob=>jd .ba p ob i vs Q σ|none=>False);refine hp▸ ?_;exact this
 |di=>show(match σ p with|some ob=>jd .di p ob i vs Q σ|none=>False);exact hp▸this)
theorem yZ{es:Es}{p:iS}{f:Int->Option V}{k:Int}(ho:Ev m σ o (.ref p))(hp:σ p=some (.idict f))(hs:sy m σ es [.int k]):Ev m σ (.mc o 203 es) ((f k).getD .none):=
 Ni ho hp (k:=.di) (λx=>by show(match σ p with|some (.inst C fs)=>if (aC fs 203).isNone&&decide (203<300) then(x.meth C 203).map Mk.fn else none|some (.list _)=>_|some (.ba _)=>_|some (.idict _)=>if 203=wO then some .di else none|_=>none)=_;exact hp▸rfl) (λJ h=>nomatch h) hs λJ q=>q
theorem HB{es:Es}{p:iS}{f:Int->Option V}{k:Int}{d:V}(ho:Ev m σ o (.ref p))(hp:σ p=some (.idict f))(hs:sy m σ es [.int k,d]):Ev m σ (.mc o 203 es) ((f k).getD d):=
 Ni ho hp (k:=.di) (λx=>by show(match σ p with|some (.inst C fs)=>if (aC fs 203).isNone&&decide (203<300) then(x.meth C 203).map Mk.fn else none|some (.list _)=>_|some (.ba _)=>_|some (.idict _)=>if 203=wO then some .di else none|_=>none)=_;exact hp▸rfl) (λJ h=>nomatch h) hs λJ q=>q
theorem tV{t:Bool}(h:aC m i=some (.bool t)):fc m σ (.v i) t:=λx n Q q=>by show(match aC m i with|some v=>bH v Q σ|none=>False);exact h▸q
theorem tK{t:Bool}:fc m σ (.k (.bool t)) t:=λJ J J q=>q
theorem rC{t:Bool}(h:fc m σ e t):fc m σ (.not e) (!t):=λx n Q q=>h x n _ q
theorem ip{s t:Bool}(hl:fc m σ l s)(hr:s=true->fc m σ r t):fc m σ (.and2 l r) (s&&t):=λx n Q q=>hl x n _ (by
 induction s
 ·exact q
 ·exact hr rfl x n Q q)
theorem SQ{s t:Bool}(hl:fc m σ l s)(hr:s=false->fc m σ r t):fc m σ (.or2 l r) (s||t):=λx n Q q=>hl x n _ (by
 induction s
 ·exact hr rfl x n Q q
 ·exact q)
theorem DP(hl:fc m σ l false)(hr:fc m σ r false):fc m σ (.or2 l r) false:=λx n Q q=>hl x n _ (hr x n Q q)
theorem Bk{k:E}(hl:fc m σ l false)(hk:fc m σ k false)(hr:fc m σ r false):fc m σ (.or3 l k r) false:=λx n Q q=>hl x n _ (hk x n _ (hr x n Q q))
theorem iq{op:VY}{t:Bool}(hl:Ev m σ l a)(hr:Ev m σ r b)(h:∀Q:V->H->Prop,Q (.bool t) σ->cr op a b Q σ):fc m σ (.cmp op l r) t:=λx n Q q=>hl x n _ (hr x n _ (h _ q))
theorem PP{op o2:VY}{k:E}{c:V}{t:Bool}(hl:Ev m σ l a)(hk:Ev m σ k b)(hr:Ev m σ r c)(h:∀Q:V->H->Prop,Q (.bool true) σ->cr op a b Q σ)(h2:∀Q:V->H->Prop,Q (.bool t) σ->cr o2 b c Q σ):fc m σ (.cmp2 op o2 l k r) t:=λx n Q q=>hl x n _ (hk x n _ (h _ (hr x n _ (h2 _ q))))
theorem Kw{p:iS}{C:iS}{fs:Fs}{t:Bool}(he:Ev m σ e (.ref p))(hp:σ p=some (.inst C fs))(hf:aC fs i=some (.bool t))(hi:Vl i 100=true):fc m σ (.attr e i) t:=λx n Q q=>aE he hp hf hi rfl x n (λv σ=>bH v Q σ) q
section
variable{p q:Int}(hl:Ev m σ l (.int p))(hr:Ev m σ r (.int q))
include hl hr
theorem jV:fc m σ (.cmp .Eq l r) (decide (p=q)):=iq hl hr λJ q=>q
theorem GI:fc m σ (.cmp .NotEq l r) (decide (p≠q)):=iq hl hr λJ q=>q
theorem pB:fc m σ (.cmp .Lt l r) (decide (p<q)):=iq hl hr λJ q=>q
theorem Am:fc m σ (.cmp .Gt l r) (decide (p>q)):=iq hl hr λJ q=>q
theorem T9:fc m σ (.cmp .GtE l r) (decide (p>=q)):=iq hl hr λJ q=>q
end
noncomputable def DL(op:VY)(x y:Int):Option Bool:=match op with
 | .Eq=>some (decide (x=y))| .NotEq=>some (decide (x≠y))| .Lt=>some (decide (x<y))| .LtE=>some (decide (x<=y))
 | .Gt=>some (decide (x>y))| .GtE=>some (decide (x>=y))|_=>none
theorem fZ{op:VY}{p q:Int}{t:Bool}(h:DL op p q=some t)(Q:V->H->Prop)(k:Q (.bool t) σ):cr op (.int p) (.int q) Q σ:=by
 induction op<;>first|(obtain rfl:=eQ h;exact k)|exact nN h
theorem AY{o2:VY}{k:E}{p q s:Int}{t:Bool}(hl:Ev m σ l (.int p))(hk:Ev m σ k (.int q))(hr:Ev m σ r (.int s))(h:p<=q)(h2:DL o2 q s=some t):fc m σ (.cmp2 .LtE o2 l k r) t:=
 PP hl hk hr (fZ (by exact congrArg _ (lO h))) (fZ h2)
theorem SR{p q:Int}(h:p<q):DL .Lt p q=some true:=by exact congrArg _ (lO h)
theorem leT{p q:Int}(h:p<=q):DL .LtE p q=some true:=by exact congrArg _ (lO h)
theorem lenL{p:iS}{xs:List V}(h:σ p=some (.list xs))(hl:xs.length<=1000000)(Q:V->H->Prop)(q:Q (.int xs.length) σ):w7 "len" [.ref p] Q σ:=by
 show j6 (.ref p) Q σ;unfold j6;dsimp only;exact h▸⟨hl,q⟩
theorem H3{p:iS}{xs:List UInt8}(h:σ p=some (.ba xs))(hl:xs.length<=1000000)(Q:V->H->Prop)(q:Q (.int xs.length) σ):w7 "len" [.ref p] Q σ:=by
 show j6 (.ref p) Q σ;unfold j6;dsimp only;exact h▸⟨hl,q⟩
theorem k7{xs:List UInt8}(hl:xs.length<=1000000)(Q:V->H->Prop)(q:Q (.int xs.length) σ):w7 "len" [.bytes xs] Q σ:=⟨hl,q⟩
theorem wU{p:iS}{xs:List V}{i:Int}(h:σ p=some (.list xs))(h0:0<=i/\i<2^62)(hv:xs[i.toNat]? =some v)(Q:V->H->Prop)(q:Q v σ):g9 (.ref p) (.int i) Q σ:=by
 unfold g9;dsimp only;rw [h];dsimp only;exact hv▸⟨h0.1,h0.2,q⟩
theorem sf{p:iS}{xs:List V}{i:Int}(h:σ p=some (.tuple xs))(h0:0<=i/\i<2^62)(hv:xs[i.toNat]? =some v)(Q:V->H->Prop)(q:Q v σ):g9 (.ref p) (.int i) Q σ:=by
 unfold g9;dsimp only;rw [h];dsimp only;exact hv▸⟨h0.1,h0.2,q⟩
theorem subB{p:iS}{b:List UInt8}{i:Int}{u:UInt8}(h:σ p=some (.ba b))(h0:0<=i/\i<2^62)(hv:b[i.toNat]? =some u)(Q:V->H->Prop)(q:Q (.int u.toNat) σ):g9 (.ref p) (.int i) Q σ:=by
 unfold g9;dsimp only;rw [h];dsimp only;exact hv▸⟨h0.1,h0.2,q⟩
theorem JO{p:iS}{f:Str->Option V}{k:Str}(h:σ p=some (.sdict f))(hv:f k=some v)(Q:V->H->Prop)(q:Q v σ):g9 (.ref p) (.str k) Q σ:=by
 unfold g9;dsimp only;rw [h];dsimp only;exact hv▸q
end
end
section
noncomputable def mG(x:Cx)(n:Nat)(g:Ss)(Q:Fl->Fs->H->Prop):Fl->Fs->H->Prop:=λf m σ=>match f with| .next=>aZ x n g Q m σ| .brk=>Q .brk m σ| .ret v=>Q (.ret v) m σ
section
variable{x:Cx}{n:Nat}{m:Fs}{σ:H}{g:Ss}{Q:Fl->Fs->H->Prop}{e o:E}{v:V}{i:Nat}
def Dz{s:S}(h:xS x n s (mG x n g Q) m σ):aZ x n (.cons s g) Q m σ:=h
def sTr{b:Ss}(h:aZ x n b (mG x n g Q) m σ):aZ x n (.cons (.tr b) g) Q m σ:=h
def bE(h:Q .next m σ):aZ x n .nil Q m σ:=h
def bX(h:xE x n m e (λv b=>aZ x n g Q (bB m i v) b) σ):aZ x n (.cons (.asg (.v i) e) g) Q m σ:=h
def db(b:Ev m σ e v)(k:aZ x n g Q (bB m i v) σ):aZ x n (.cons (.asg (.v i) e) g) Q m σ:=b x n _ k
def sX{p C:iS}{b:Fs}(c:Ev m σ e v)(h:Ev m σ o (.ref p))(hp:σ p=some (.inst C b))(j:Vl i 100=true)(r:VZ b.length 500=true)(k:aZ x n g Q m (σ.put p (.inst C (bB b i v)))):aZ x n (.cons (.asg (.attr o i) e) g) Q m σ:=
 c x n _ (h x n _ (by
  show(match σ p with|some (.inst C b)=>i<100/\b.length<=500/\_|_=>False)
  exact hp▸⟨EQ j,EQ r,k⟩))
def CM{p C:iS}{b:Fs}{R:H->Prop}(hp:σ p=some (.inst C b))(c:Vl i 100=true)(g:VZ b.length 500=true)(k:R (σ.put p (.inst C (bB b i v)))):gN (.ref p) i v (λJ σ=>R σ) σ:=by
 unfold gN;dsimp only;exact hp▸⟨EQ c,EQ g,k⟩
def px{p C:iS}{b:Fs}{c:VP}{u w z:Int}(r:Ev m σ o (.ref p))(hp:σ p=some (.inst C b))(s:aC b i=some (.int u))(h:Vl i 100=true)(j:VZ b.length 500=true)(y:Ev m σ e (.int w))(hz:c=.Add/\z=u+w\/c=.Sub/\z=u-w)
  (k:aZ x n g Q m (σ.put p (.inst C (bB b i (.int z))))):aZ x n (.cons (.augA o i c e) g) Q m σ:=
 r x n _ (by
  show(match σ p with|some (.inst _ b)=>i<100/\(match aC b i with|some v=>v.noBi=true/\_|none=>False)|_=>False);rw [hp];dsimp only;rw [s];refine⟨EQ h,rfl,y x n _ ?_⟩;rcases hz with⟨rfl,rfl⟩|⟨rfl,rfl⟩
  ·exact CM (R:=λσ=>aZ x n g Q m σ) hp h j k
  ·exact CM (R:=λσ=>aZ x n g Q m σ) hp h j k)
def sIf{t:E}{b:Bool}{A B:Ss}(h:fc m σ t b)(k:aZ x n (if b then A else B) (mG x n g Q) m σ):aZ x n (.cons (.ite t A B) g) Q m σ:=h x n _ (by
 induction b
 ·exact k
 ·exact k)
def dS{t:E}{b:Bool}{A B:Ss}(h:fc m σ t b)(c:b=true)(k:aZ x n A (mG x n g Q) m σ):aZ x n (.cons (.ite t A B) g) Q m σ:=sIf h (by subst c;exact k)
def BW{t:E}{b:Bool}{A B:Ss}(h:fc m σ t b)(c:b=false)(k:aZ x n B (mG x n g Q) m σ):aZ x n (.cons (.ite t A B) g) Q m σ:=sIf h (by subst c;exact k)
def dH{t:E}{b:Bool}{A:Ss}(h:fc m σ t b)(c:b=false)(k:aZ x n g Q m σ):aZ x n (.cons (.ite t A .nil) g) Q m σ:=BW h c k
def cY(b:Ev m σ e v)(k:Q (.ret v) m σ):aZ x n (.cons (.ret e) g) Q m σ:=b x n _ k
def cO(h:xE x n m e (λv b=>Q (.ret v) m b) σ):aZ x n (.cons (.ret e) g) Q m σ:=h
def cH(h:xE x n m e (λv b=>v.noRef=true/\aZ x n g Q m b) σ):aZ x n (.cons (.ex e) g) Q m σ:=h
def Dy{b:List Nat}{p:iS}{xs:List V}(hp:σ p=some (.tuple xs))(c:xs.length=b.length)(g:2<=b.length):c9 σ b (.ref p) m=some ((b.zip xs).foldl (λm p=>bB m p.1 p.2) m):=by
 match b,g with
 |i::j::r,_=>
  unfold c9;dsimp only;exact hp▸eX c
def fL{c:List Nat}(h:xE x n m e (λv b=>match c9 b c v m with|some j=>aZ x n g Q j b|none=>False) σ):aZ x n (.cons (.asgN c e) g) Q m σ:=h
def za{b:List Nat}{p:iS}{xs:List V}{R:Fs->Prop}(hp:σ p=some (.tuple xs))(c:xs.length=b.length)(g:2<=b.length)(k:R ((b.zip xs).foldl (λm p=>bB m p.1 p.2) m)):(match c9 σ b (.ref p) m with|some h=>R h|none=>False):=by
 rw [Dy hp c g];exact k
def wD{p:iS}{f:Int->Option V}{j:Int}{R:H->Prop}(hp:σ p=some (.idict f))(b:0<=j/\j<100000)(c:∀k,f k≠none->0<=k/\k<100000)(k:R (σ.put p (.idict λk=>if k=j then some v else f k))):cq (.ref p) (.int j) v (λJ σ=>R σ) σ:=by
 unfold cq;dsimp only;exact hp▸⟨b.1,b.2,c,k⟩
def CP{p:iS}{xs:List V}{j:Int}{R:H->Prop}(hp:σ p=some (.list xs))(b:0<=j/\j<2^62)(c:j.toNat<xs.length)(k:R (σ.put p (.list (xs.set j.toNat v)))):cq (.ref p) (.int j) v (λJ σ=>R σ) σ:=by
 unfold cq;dsimp only;exact hp▸⟨b.1,b.2,c,k⟩
def AJ{p:iS}{b:List UInt8}{j y:Int}{R:H->Prop}(hp:σ p=some (.ba b))(c:0<=j/\j<2^62)(h:j.toNat<b.length)(g:0<=y/\y<256)(m:b.length<=1000000)(k:R (σ.put p (.ba (b.set j.toNat (Tk y.toNat))))):cq (.ref p) (.int j) (.int y) (λJ σ=>R σ) σ:=by
 unfold cq;dsimp only;exact hp▸⟨c.1,c.2,h,g.1,g.2,m,k⟩
def Hr{p:iS}{b r:List UInt8}{lo g:V}{a c:Nat}{R:H->Prop}(hp:σ p=some (.ba b))(j:b.length<=1000000)(m:mL lo b.length=some a)(s:mP g b.length=some c)(h:a<=c/\r.length=c-a)(k:R (σ.put p (.ba (b.take a++r++b.drop c)))):jz (.ref p) lo g (.bytes r) (λJ σ=>R σ) σ:=by
 unfold jz;dsimp only;rw [hp];dsimp only;rw [m,s];exact⟨j,h.1,h.2,k⟩
def r8{j:E}{a b:V}(c:Ev m σ e v)(h:Ev m σ o a)(p:Ev m σ j b)(k:cq a b v (λJ σ=>aZ x n g Q m σ) σ):aZ x n (.cons (.asg (.sub o j) e) g) Q m σ:=c x n _ (h x n _ (p x n _ k))
def Ho{lo h:E}{a b c:V}(j:Ev m σ e v)(p:Ev m σ o a)(r:Ev m σ lo b)(s:Ev m σ h c)(k:jz a b c v (λJ σ=>aZ x n g Q m σ) σ):aZ x n (.cons (.asg (.slc o lo h) e) g) Q m σ:=j x n _ (p x n _ (r x n _ (s x n _ k)))
def cz(h:xE x n m e (λv b=>Dx x n (.attr o i) v (λJ m σ=>aZ x n g Q m σ) m b) σ):aZ x n (.cons (.asg (.attr o i) e) g) Q m σ:=h
def dN{p C:iS}{b:Fs}{R:Unit->Fs->H->Prop}(c:Ev m σ o (.ref p))(hp:σ p=some (.inst C b))(g:Vl i 100=true)(h:VZ b.length 500=true)(k:R () m (σ.put p (.inst C (bB b i v)))):Dx x n (.attr o i) v R m σ:=
 c x n _ (CM (R:=λσ=>R () m σ) hp g h k)
def ct{v:V}:aC (bB m i v) i=some v:=by rw [bN,eX rfl]
def aP{j:Nat}{v:V}{r:Option V}(h:aC m j=r)(b:Xp i j=false:=by rfl):aC (bB m i v) j=r:=by rw [bN,if_neg (Nat.ne_of_beq_eq_false b)];exact h
def Lk(m:Fs)(L:List (Nat×Option V)):Prop:=∀i r,L.lookup i=some r->aC m i=r
def Lk.at{L:List (Nat×Option V)}{i:Nat}{r:Option V}(h:Lk m L)(e:L.lookup i=some r:=by rfl):aC m i=r:=h i r e
def Lk.set{L:List (Nat×Option V)}{j:Nat}{v:V}(h:Lk m L)(e:L.lookup j=none:=by rfl):Lk (bB m j v) L:=λi r b=>aP (h i r b) (by
 generalize c:Xp j i=g;induction g with
 |false=>rfl
 |true=>rw [Xe c] at e;have e:=b▸e;exact sN e)
def Lk.nil:Lk m []:=λJ J h=>by exact nN h
def Lk.cons{L:List (Nat×Option V)}{i:Nat}{r:Option V}(h:aC m i=r)(t:Lk m L):Lk m ((i,r)::L):=λj q b=>by
 by_cases e:j=i
 ·subst e;rw [List.lookup_cons_self] at b;exact h.trans (eQ b)
 ·rw [UR,beq_false_of_ne e] at b;exact t j q b
def ji{k:wR}{bind:H->V->Fs->Option Fs}{c:PS Fl}(b:Nat)(w:Nat->V)(Inv:Nat->Fs->H->Prop)
  (s:∀i m σ,Inv i m σ->i<b->cG k σ i=some (some (w i))) (g:∀m σ,Inv b m σ->cG k σ b=some none)
  (step:∀i m σ,Inv i m σ->i<b->∀x:Fs->H->Prop,(∀m σ,Inv (i+1) m σ->x m σ)->∃u,bind σ (w i) m=some u/\c (λf m σ=>match f with| .next=>x m σ| .brk=>Q .next m σ| .ret v=>Q (.ret v) m σ) u σ)
  (done:∀m σ,Inv b m σ->Q .next m σ) (h:Inv 0 m σ):qr k bind c Q m σ:=by
 intro I y;have z:∀j i,i+j=b->∀m σ,Inv i m σ->I i m σ:=by
  intro j;induction j with
  |zero=>intro i e m σ p;obtain rfl:i=b:=e;refine y i m σ ?_;exact g m σ p▸done m σ p
  |succ j A=>
   intro i e m σ p;have r:i<b:=by exact TM e
   refine y i m σ ?_;rw [s i m σ p r];refine bp (step i m σ p r (I (i+1)) (λm σ q=>A (i+1) (TQ e) m σ q)) λu B C=>?_
   dsimp only;exact B▸C
 exact z b 0 (Uo) m σ h
def BK{a:iS}{p q:Nat}{c:PS Fl}(b:Nat)(u:Nat->V)(Inv:Nat->Fs->H->Prop)
  (s:∀i m σ,Inv i m σ->i<b->cG (.list a) σ i=some (some (u i))) (g:∀m σ,Inv b m σ->cG (.list a) σ b=some none)
  (step:∀i m σ,Inv i m σ->i<b->∀w:Fs->H->Prop,(∀m σ,Inv (i+1) m σ->w m σ)->c (λf m σ=>match f with| .next=>w m σ| .brk=>Q .next m σ| .ret v=>Q (.ret v) m σ) (bB (bB m p (.int i)) q (u i)) σ)
  (done:∀m σ,Inv b m σ->Q .next m σ) (h:Inv 0 m σ):sL a p q c Q m σ:=by
 intro I x;have y:∀j i,i+j=b->∀m σ,Inv i m σ->I i m σ:=by
  intro j;induction j with
  |zero=>intro i e m σ k;obtain rfl:i=b:=e;refine x i m σ ?_;exact g m σ k▸done m σ k
  |succ j z=>
   intro i e m σ k;have r:i<b:=by exact TM e
   refine x i m σ ?_;refine s i m σ k r▸ ?_;exact step i m σ k r (I (i+1)) (λm σ q=>z (i+1) (TQ e) m σ q)
 exact y b 0 (Uo) m σ h
def dM{k:wR}{bind:H->V->Option Fs}{test:Fs->PT Bool}{p:Fs->PT V}{R:V->H->Prop}(g:Nat)(A:Nat->V)(Inv:Nat->List V->H->Prop)
  (y:∀i c σ,Inv i c σ->i<g->cG k σ i=some (some (A i))) (s:∀c σ,Inv g c σ->cG k σ g=some none)
  (step:∀i c σ,Inv i c σ->i<g->∀z:List V->H->Prop,(∀c σ,Inv (i+1) c σ->z c σ)->∃x,bind σ (A i)=some x/\test x (λb σ=>if b then p x (λw σ=>c.length<=1000000/\z (c++ [w]) σ) σ else z c σ) σ)
  (done:∀c σ,Inv g c σ->∀r,σ r=none->R (.ref r) (σ.put r (.list c))) (h:Inv 0 [] σ):iO k bind test p R σ:=by
 intro I B;have C:∀j i,i+j=g->∀c σ,Inv i c σ->I i c σ:=by
  intro j;induction j with
  |zero=>intro i e m σ u;obtain rfl:i=g:=e;refine B i m σ ?_;exact s m σ u▸done m σ u
  |succ j D=>
   intro i e m σ u;have v:i<g:=by exact TM e
   refine B i m σ ?_;rw [y i m σ u v];refine bp (step i m σ u v (I (i+1)) (λm σ q=>D (i+1) (TQ e) m σ q)) λx G J=>?_
   dsimp only;exact G▸J
 exact C g 0 (Uo) [] σ h
def p6{a:iS}{xs:List V}(h:σ a=some (.list xs))(b:xs.length<=1000000)(j:Nat):cG (.list a) σ j=some xs[j]? :=by unfold cG;dsimp only;exact h▸eX b
def fU{a:iS}{xs:List V}{bind:H->V->Fs->Option Fs}{b:PS Fl}(j:xs.length<=1000000)(Inv:Nat->Fs->H->Prop)(p:∀i m σ,Inv i m σ->σ a=some (.list xs))
  (step:∀i m σ (c:i<xs.length),Inv i m σ->∀g:Fs->H->Prop,(∀m σ,Inv (i+1) m σ->g m σ)->∃r,bind σ xs[i] m=some r/\b (λf m σ=>match f with| .next=>g m σ| .brk=>Q .next m σ| .ret v=>Q (.ret v) m σ) r σ)
  (done:∀m σ,Inv xs.length m σ->Q .next m σ) (h:Inv 0 m σ):qr (.list a) bind b Q m σ:=
 ji xs.length (λi=>xs[i]?.getD .none) Inv (λi m σ h c=>(p6 (p i m σ h) j i).trans (by rw [yS c];rfl)) (λm σ h=>(p6 (p _ m σ h) j _).trans (by rw [Vz (oP _)]))
  (λi m σ h c g k=>by exact yS c▸step i m σ c h g k) done h
def uc{a:iS}{xs:List V}{p q:Nat}{b:PS Fl}(j:xs.length<=1000000)(Inv:Nat->Fs->H->Prop)(r:∀i m σ,Inv i m σ->σ a=some (.list xs))
  (step:∀i m σ (c:i<xs.length),Inv i m σ->∀g:Fs->H->Prop,(∀m σ,Inv (i+1) m σ->g m σ)->b (λf m σ=>match f with| .next=>g m σ| .brk=>Q .next m σ| .ret v=>Q (.ret v) m σ) (bB (bB m p (.int i)) q xs[i]) σ)
  (done:∀m σ,Inv xs.length m σ->Q .next m σ) (h:Inv 0 m σ):sL a p q b Q m σ:=
 BK xs.length (λi=>xs[i]?.getD .none) Inv (λi m σ h c=>(p6 (r i m σ h) j i).trans (by rw [yS c];rfl)) (λm σ h=>(p6 (r _ m σ h) j _).trans (by rw [Vz (oP _)]))
  (λi m σ h c g k=>by exact yS c▸step i m σ c h g k) done h
def lG{a:iS}{xs:List V}{bind:H->V->Option Fs}{test:Fs->PT Bool}{g:Fs->PT V}{R:V->H->Prop}(u:xs.length<=1000000)(Inv:Nat->List V->H->Prop)(v:∀i c σ,Inv i c σ->σ a=some (.list xs))
  (step:∀i c σ (j:i<xs.length),Inv i c σ->∀p:List V->H->Prop,(∀c σ,Inv (i+1) c σ->p c σ)->∃s,bind σ xs[i]=some s/\test s (λb σ=>if b then g s (λw σ=>c.length<=1000000/\p (c++ [w]) σ) σ else p c σ) σ)
  (done:∀c σ,Inv xs.length c σ->∀r,σ r=none->R (.ref r) (σ.put r (.list c))) (h:Inv 0 [] σ):iO (.list a) bind test g R σ:=
 dM xs.length (λi=>xs[i]?.getD .none) Inv (λi m σ h j=>(p6 (v i m σ h) u i).trans (by rw [yS j];rfl)) (λm σ h=>(p6 (v _ m σ h) u _).trans (by rw [Vz (oP _)]))
  (λi m σ h j p k=>by exact yS j▸step i m σ j h p k) done h
def BU{c:List Nat}{j:E}{b:Ss}{v:V}{k:wR}(p:Ev m σ j v)(r:sq v σ=some k)(h:qr k (λσ u m=>c9 σ c u m) (aZ x n b) (mG x n g Q) m σ):aZ x n (.cons (.forIn c j b) g) Q m σ:=p x n _ (by exact r▸h)
def Bm{p q:Nat}{c:E}{b:Ss}{a:iS}{xs:List V}(j:Ev m σ c (.ref a))(k:σ a=some (.list xs))(h:sL a p q (aZ x n b) (mG x n g Q) m σ):aZ x n (.cons (.forEn p q c b) g) Q m σ:=j x n _ (by dsimp only;exact k▸h)
def ly{a:iS}{xs:List V}(h:σ a=some (.list xs)):sq (.ref a) σ=some (.list a):=by unfold sq;dsimp only;rw [h]
def tY{a:iS}{lo b:Int}(h:σ a=some (.rng lo b)):sq (.ref a) σ=some (.rng lo b):=by unfold sq;dsimp only;rw [h]
section
variable{T:rp}{N:Nat}{R:V->H->Prop}{vs:List V}{D:Es}
def SP(h:Ev m σ e v)(k:R v σ):xE x n m e R σ:=h x n R k
def AG{p C f:iS}{c:Fs}(hp:σ p=some (.inst C c))(g:aC c i=none)(b:Vl i 300=true)(h:x.meth C i=some f):et x σ (.ref p) i=some (.fn f):=by
 unfold et;dsimp only;rw [hp];dsimp only;refine g▸ ?_;refine h▸ ?_;have b:i<300:=EQ b;rw [lO b];rfl
def lr{p C f:iS}{c:Fs}(g:Ev m σ o (.ref p))(hp:σ p=some (.inst C c))(h:aC c i=none)(j:Vl i 300=true)(r:x.meth C i=some f)(k:lf x n m D (λvs b=>x.cf n f (.ref p::vs) R b) σ):xE x n m (.mc o i D) R σ:=g x n _ (by
 exact AG hp h j r▸k)
def b8{p C f:iS}{b:Fs}(c:Ev m σ o (.ref p))(hp:σ p=some (.inst C b))(g:(T.cx N).meth C i=some f)(h:aC b i=none)(j:Vl i 300=true)(r:sy m σ D vs)(k:T.cf N f (.ref p::vs) R σ):xE (T.cx N) N m (.mc o i D) R σ:=lr c hp h j g (r _ _ _ k)
def kN{f:iS}(g:sy m σ D vs)(b:(T.cx N).ok f=true)(c:(T.cx N).init f=none)(k:T.cf N f vs R σ):xE (T.cx N) N m (.call (.g (.ref f)) D) R σ:=g _ _ _ (by
 refine⟨b,?_⟩
 exact c▸k)
def DY{f i:iS}(h:sy m σ D vs)(b:(T.cx N).ok f=true)(c:(T.cx N).init f=some i)(k:∀r,σ r=none->T.cf N i (.ref r::vs) (λv g=>v=.none/\R (.ref r) g) (σ.put r (.inst f []))):xE (T.cx N) N m (.call (.g (.ref f)) D) R σ:=h _ _ _ (by
 refine⟨b,?_⟩
 exact c▸k)
def i6{f:iS}(k:lf x n m D (λvs b=>ki x n (.ref f) vs R b) σ):xE x n m (.call (.g (.ref f)) D) R σ:=k
def cn{R:List V->H->Prop}(b:Ev m σ e v)(k:lf x n m D (λvs σ=>R (v::vs) σ) σ):lf x n m (.cons e D) R σ:=b x n _ k
def pk{t:String}(b:sy m σ D vs)(k:zA t vs R σ):xE x n m (.call (.g (.ty t)) D) R σ:=b _ _ _ k
def TT{p:iS}{xs:List V}(b:Ev m σ o (.ref p))(hp:σ p=some (.list xs))(h:i=g8\/i=gV)(k:lf x n m D (λvs σ=>Fm x n (.ref p) .li i vs R σ) σ):xE x n m (.mc o i D) R σ:=b x n _ (by
 have:et x σ (.ref p) i=some .li:=by unfold et;dsimp only;exact hp▸eX h
 refine this▸ ?_;exact k)
def MK{p:iS}{xs:List V}{v:V}(hp:σ p=some (.list xs))(b:xs.length<=1000000)(k:R .none (σ.put p (.list (xs++ [v])))):Fm x n (.ref p) .li 200 [v] R σ:=by
 show(match σ p with|some ob=>jd .li p ob 200 [v] R σ|none=>False);exact hp▸⟨b,k⟩
def uj{p:iS}{xs:List V}{v:V}(b:Ev m σ o (.ref p))(hp:σ p=some (.list xs))(c:sy m σ D [v])(g:xs.length<=1000000)(k:R .none (σ.put p (.list (xs++ [v])))):xE x n m (.mc o 200 D) R σ:=
 TT b hp (.inl rfl) (c x n _ (MK hp g k))
def Ez{p:iS}{xs:List V}{v:V}(b:Ev m σ o (.ref p))(hp:σ p=some (.list xs))(c:sy m σ D [v])(g:jI σ v xs=true)(h:v∈xs)(j:xs.length<=1000000)(k:R .none (σ.put p (.list (xs.erase v)))):xE x n m (.mc o 201 D) R σ:=TT b hp (.inr rfl) (c x n _ (by
 show(match σ p with|some ob=>jd .li p ob 201 [v] R σ|none=>False)
 exact hp▸⟨g,h,j,k⟩))
def C5(b:sy m σ D vs)(c:VZ vs.length 1000=true)(k:∀r,σ r=none->R (.ref r) (σ.put r (.tuple vs))):xE x n m (.tup D) R σ:=b x n _ ⟨EQ c,k⟩
def gj(b:sy m σ D vs)(c:VZ vs.length 1000=true)(k:∀r,σ r=none->R (.ref r) (σ.put r (.list vs))):xE x n m (.lst D) R σ:=b x n _ ⟨EQ c,k⟩
def bJ{R:List V->H->Prop}(k:xE x n m e (λv σ=>R [v] σ) σ):lf x n m (.cons e .nil) R σ:=k
def CI{p:iS}{b r:List UInt8}(c:Ev m σ o (.ref p))(hp:σ p=some (.ba b))(g:sy m σ D [.bytes r])(h:b.length<=1000000)(j:r.length<=1000000)(k:R .none (σ.put p (.ba (b++r)))):xE x n m (.mc o 202 D) R σ:=c x n _ (by
 have:et x σ (.ref p) 202=some .ba:=by unfold et;dsimp only;exact hp▸rfl
 refine this▸ ?_;refine g x n _ ?_;show(match σ p with|some ob=>jd .ba p ob 202 [.bytes r] R σ|none=>False);refine hp▸ ?_
 exact⟨h,j,k⟩)
end
end
end
namespace L04
section
local macro_rules | `(tactic|walk_at "ev")=> `(tactic|first
 |exact aN|exact sP|exact aB rfl
 |(refine aY ?_ ?_<;>walk_at "ev")|(refine cI ?_ ?_<;>walk_at "ev"))
local macro_rules | `(tactic|walk_at "evs")=> `(tactic|first
 |exact aI|(refine aG ?_ ?_;walk_at "ev";walk_at "evs"))
section
variable{N:Nat}{c:H}{Q:V->H->Prop}{p:iS}{b:List UInt8}{i:Int}{k:Nat}
def jJ{j:Int}(hp:c p=some (.ba b))(h:j=(k:Int))(g:k<b.length)(m:b.length<=1000)(Q:V->H->Prop)(q:Q (.int (oct b k)) c):g9 (.ref p) (.int j) Q c:=by
 subst h;refine subB (i:=(k:Int)) hp ⟨by exact Int.natCast_nonneg _,by exact QF g m⟩ (Hu (i:=k) g) Q ?_;rw [(by exact(WU (g3 b k)):(Tk (oct b k)).toNat=oct b k)];exact q
def DG:VM (oct b k) ((oct b (k+1):Int)*2^(8:Int).toNat)=(fh b k:Int):=by
 have:=g3 b k;refine(vU (x:=oct b k) (y:=oct b (k+1)) (k:=8) (Int.natCast_nonneg _) (Int.ofNat_lt.mpr ‹_›) (Int.natCast_nonneg _)).trans ?_;unfold fh;lia
def dy(hp:c p=some (.ba b))(g:i=(k:Int))(j:k+1<b.length)(h:b.length<=1000)(q:Q (.int (fh b k)) c):tb.cf (N+1) 116 [.ref p,.int i] Q c:=by
 refine yB (cY (Tv (cC (aB rfl) (aB rfl) (jJ hp g (XM ‹_›) h)) (FV (cC (aB rfl) (aY (aB rfl) aN) (jJ (k:=k+1) hp (Rq g) j h)) aN ⟨by decide,by decide,?_⟩)) ?_)
 ·exact s64 (Ww (g3 b (k+1)) (by decide))
 ·exact DG▸q
def D6:VM (fh b k) ((fh b (k+2):Int)*2^(16:Int).toNat)=(dK b k:Int):=by
 refine(vU (x:=fh b k) (y:=fh b (k+2)) (k:=16) (Int.natCast_nonneg _) (LA (y7 b k)) (Int.natCast_nonneg _)).trans ?_;unfold dK;lia
def eJ(hp:c p=some (.ba b))(g:i=(k:Int))(h:k+3<b.length)(j:b.length<=1000)(q:Q (.int (dK b k)) c):tb.cf (N+2) 123 [.ref p,.int i] Q c:=by
 refine yl (cO ?_);refine kN (by walk_at "evs") dp dj (dy hp g (KF h) j ?_);refine kN (aG (aB rfl) (aG (aY (aB rfl) aN) aI)) dp dj (dy (k:=k+2) hp (OG g) h j ?_);refine⟨by decide,by decide,s64 (Ww (y7 b (k+2)) (by decide)),?_⟩;show Q (.int _) c;exact D6▸q
end
end
section
inductive Rl where
 |plan|kept|latest|unfl|disk|row|byn|cache|nums|noted|jour|table|nodes|places|node
 |buf (n:Int)|dat (n:Int)
structure Fx where
 plan:iS
 kept:iS
 latest:iS
 disk:iS
 row:iS
 byn:iS
 cache:iS
 jour:iS
 table:iS
 nodes:iS
 node:iS
 B:Int
 d:Int
structure Nd where
 stage:Nat
 aplaces:iS
 calls:Int
 kind:Int
 major:Int
 minor:Int
 links:Int
 size:Int
 places:List Int
 tab:Int->Option V
structure Hi extends Nd where
 aunfl:iS
 anums:iS
 anoted:iS
 latest:Int->Option (List UInt8)
 kept:Int->Option (List UInt8)
 unfl:List (iS×Int×List UInt8)
 nums:List Int
 noted:Int->Option V
 dw:Int
 fl:Int
 cw:Int
 commits:Int
structure St extends Hi where
 abuf:Int->iS
 adat:Int->iS
 has:Int->Bool
 data:Int->List UInt8
 hold:Int->Int
 pins:Int->Int
 row:List V
 hits:Int
 reads:Int
noncomputable def qP:Rl->Nat
 | .plan=>0| .kept=>1| .latest=>2| .unfl=>3| .disk=>4| .row=>5| .byn=>6| .cache=>7| .nums=>8| .noted=>9| .jour=>10
 | .table=>11| .nodes=>12| .places=>13| .node=>14| .buf _=>0| .dat _=>0
noncomputable def bQ(st:St):Rl->Prop
 | .buf n=>st.has n=true
 | .dat n=>st.has n=true
 |r=>qP r<=st.stage
noncomputable def ad(g:Fx)(st:St):Rl->iS
 | .plan=>g.plan| .kept=>g.kept| .latest=>g.latest| .unfl=>st.aunfl| .disk=>g.disk| .row=>g.row| .byn=>g.byn| .cache=>g.cache
 | .nums=>st.anums| .noted=>st.anoted| .jour=>g.jour| .table=>g.table| .nodes=>g.nodes| .places=>st.aplaces| .node=>g.node
 | .buf n=>st.abuf n| .dat n=>st.adat n
noncomputable def bV(d:Int):Int:=12+4*(d+1)
noncomputable def Gw(g:Fx):Fs:= [(0,.int 64),(1,.int g.B),(2,.int 2),(3,.int 16),(4,.int g.d),(5,.int (bV g.d)),(6,.int (Int.fdiv 64 (bV g.d))),(7,.int 16),(8,.int 2),(9,.int 18),(10,.int 19),(11,.int 20)]
noncomputable def NQ(g:Fx)(st:St):Fs:= [(1,.int g.B),(19,.int 64),(36,.ref g.kept),(37,.ref g.latest),(38,.ref st.aunfl),(35,.int st.dw),(39,.int st.fl),(40,.none),(41,.none),(42,.bool false)]
noncomputable def HE(g:Fx)(st:St):Fs:= [(30,.ref g.disk),(31,.int 20),(19,.int 64),(5,.ref g.row),(32,.ref g.byn),(33,.int st.hits),(34,.int st.reads),(35,.int st.cw)]
noncomputable def RO(g:Fx)(st:St):Fs:= [(22,.ref g.cache),(43,.int 2),(19,.int 16),(20,.int 15),(31,.int 15),(44,.int 10),(45,.ref st.anums),(27,.ref st.anoted),(26,.int st.calls),(46,.int st.commits)]
noncomputable def H1(g:Fx):Fs:= [(21,.ref g.jour),(22,.ref g.cache),(23,.ref g.plan),(24,.int 4),(25,.ref g.table)]
noncomputable def RK(g:Fx)(st:St):Fs:= [(12,.ref g.nodes),(13,.int 1),(14,.int 1),(15,.int st.kind),(16,.int st.major),(17,.int st.minor),(18,.int st.links),(19,.int st.size),(20,.ref st.aplaces)]
noncomputable def o8(st:St)(n:Int):Fs:= [(13,.int n),(28,.ref (st.adat n)),(14,.int (st.hold n)),(29,.int (st.pins n))]
noncomputable def ob(g:Fx)(st:St):Rl->AO
 | .plan=>.inst 204 (Gw g)
 | .kept=>.idict λn=>(st.kept n).map .bytes
 | .latest=>.idict λn=>(st.latest n).map .bytes
 | .unfl=>.list (st.unfl.map λt=>.ref t.1)
 | .disk=>.inst 778 (NQ g st)
 | .row=>.list st.row
 | .byn=>.idict λn=>if st.has n then some (.ref (st.abuf n)) else none
 | .cache=>.inst 680 (HE g st)
 | .nums=>.list (st.nums.map .int)
 | .noted=>.idict st.noted
 | .jour=>.inst 896 (RO g st)
 | .table=>.idict st.tab
 | .nodes=>.inst 463 (H1 g)
 | .places=>.list (st.places.map .int)
 | .node=>.inst 293 (RK g st)
 | .buf n=>.inst 561 (o8 st n)
 | .dat n=>.ba (st.data n)
noncomputable def Rl.code:Rl->Nat
 | .plan=>0| .kept=>1| .latest=>2| .unfl=>3| .disk=>4| .row=>5| .byn=>6| .cache=>7| .nums=>8| .noted=>9| .jour=>10| .table=>11| .nodes=>12| .places=>13| .node=>14
 | .buf _=>15| .dat _=>16
noncomputable def Rl.dec:List Rl:= [.plan,.kept,.latest,.unfl,.disk,.row,.byn,.cache,.nums,.noted,.jour,.table,.nodes,.places,.node]
noncomputable def uR{c:Type}(f:Rl->c)(a b:Nat):List (Option c):=Rl.dec.map λr=>if Xp r.code a||Nat.beq r.code b then none else some (f r)
def Rl.dec_at:∀r:Rl,r.code<15->Rl.dec[r.code]? =some r
 | .plan,_| .kept,_| .latest,_| .unfl,_| .disk,_| .row,_| .byn,_| .cache,_| .nums,_| .noted,_| .jour,_| .table,_| .nodes,_| .places,_| .node,_=>rfl
 | .buf _,h=>absurd h (by decide:¬15<15)
 | .dat _,h=>absurd h (by decide:¬16<15)
def Rl.ne_code{r s:Rl}(b:r.code<15)(h:r≠s):Xp r.code s.code=false:=by
 generalize e:Xp r.code s.code=g;induction g with
 |false=>rfl
 |true=>
  have e:=Xe e;have c:=r.dec_at b;rw [e,(s.dec_at (e▸b))] at c;exact absurd (eQ c).symm h
def xD{m:Type}{f b:Rl->m}{c g:Rl}(h:uR b c.code g.code=uR f c.code g.code)(p:∀n,b (.buf n)=f (.buf n))(s:∀n,b (.dat n)=f (.dat n))(r:Rl)(u:r≠c)(v:r≠g):b r=f r:=by
 have j:=λk=>by
  have e:=congrArg (λl=>l[r.code]?) h;unfold uR at e;rw [PR,PR,r.dec_at k,WS,WS,Rl.ne_code k u,Rl.ne_code k v] at e;exact eQ (eQ e)
 induction r with
 |buf n=>exact p n
 |dat n=>exact s n
 |_=>exact j (by decide)
def hob1{g:Fx}{st st':St}{b:Rl}(h:uR (ob g st') b.code b.code=uR (ob g st) b.code b.code)(j:∀n,ob g st' (.buf n)=ob g st (.buf n))(k:∀n,ob g st' (.dat n)=ob g st (.dat n))(r:Rl)(c:r≠b)(_:bQ st r):ob g st' r=ob g st r:=xD h j k r c c
def EE{g:Fx}{st st':St}{b c:Rl}(h:uR (ob g st') b.code c.code=uR (ob g st) b.code c.code)(j:∀n,ob g st' (.buf n)=ob g st (.buf n))(k:∀n,ob g st' (.dat n)=ob g st (.dat n))(r:Rl)(m:r≠b)(p:r≠c)(_:bQ st r):ob g st' r=ob g st r:=xD h j k r m p
def An{g:Fx}{st st':St}{b:Rl}(h:uR (ad g st') b.code b.code=uR (ad g st) b.code b.code)(j:∀n,ad g st' (.buf n)=ad g st (.buf n))(k:∀n,ad g st' (.dat n)=ad g st (.dat n))(r:Rl)(c:r≠b)(_:bQ st r):ad g st' r=ad g st r:=xD h j k r c c
structure aW(g:Fx)(σ:H)(st:St):Prop where
 at':∀r,bQ st r->σ (ad g st r)=some (ob g st r)
 inj:∀r s,bQ st r->bQ st s->ad g st r=ad g st s->r=s
 tup:∀t∈st.unfl,σ t.1=some (.tuple [.int t.2.1,.bytes t.2.2])
def aM{a b n:Nat}(h:b<=n)(c:VZ a b=true:=by rfl):a<=n:=gD (EQ c) h
def gh(g:Fx)(st:St)(a:iS):Prop:=∃r,bQ st r/\r≠ .plan/\ad g st r=a
structure bv(g:Fx)(σ:H)(st:St)(σ':H)(st':St):Prop where
 keep:∀a,σ a≠none->σ' a≠none
 out:∀a,σ a≠none->¬gh g st a->σ' a=σ a
 grow:∀a,gh g st' a->gh g st a\/σ a=none
section
variable{g:Fx}{u w σ'':H}{st st' st'':St}
def bv.rfl:bv g u st u st:=⟨λJ h=>h,λJ J J=>aay _,λJ h=>.inl h⟩
theorem bv.trans(a:bv g u st w st')(b:bv g w st' σ'' st''):bv g u st σ'' st'':=by
 refine⟨λp h=>b.keep p (a.keep p h),λp h j=>?_,λp h=>?_⟩
 ·refine(b.out p (a.keep p h) λc=>?_).trans (a.out p h j);exact(a.grow p c).elim j h
 ·rcases b.grow p h with h|h
  ·exact a.grow p h
  ·exact .inr (BS λk=>a.keep p k h)
def aW.at(X:aW g u st)(r:Rl)(h:bQ st r):u (ad g st r)=some (ob g st r):=X.at' r h
def aW.isOb(X:aW g u st){a:iS}(h:gh g st a):u a≠none:=by
 refine dQ h λr c J b=>?_
 subst b;exact X.at r c▸λh=>sN h
def aW.fresh(X:aW g u st){a:iS}(h:u a=none):¬gh g st a:=λb=>X.isOb b h
def lR{r:Rl}{xs:List V}:ob g st r≠ .tuple xs:=λh=>by
 have e:Xp (AO.ctorIdx (ob g st r)) 1=false:=by induction r<;>rfl
 rw [h] at e;exact xF e
def aW.other(X:aW g u st)(h:∀r,bQ st r->w (ad g st r)=u (ad g st r))(j:∀t∈st.unfl,w t.1=u t.1):aW g w st:=
 ⟨λr b=>(h r b).trans (X.at r b),X.inj,λt c=>(j t c).trans (X.tup t c)⟩
def aW.new(X:aW g u st){a:iS}{o:AO}(h:u a=none):aW g (u.put a o) st:=X.other
 (λr b=>H.put_ne u o λe=>by have:=X.at r b;rw [e] at this;have this:=h▸this;exact nN this)
 (λt c=>H.put_ne u o λe=>by have:=X.tup t c;rw [e] at this;have this:=h▸this;exact nN this)
def bv.new{a:iS}{o:AO}(h:u a=none):bv g u st (u.put a o) st:=by
 refine⟨λp hp=>?_,λp hp J=>H.put_ne u o λe=>hp (by exact e▸h),λJ h=>.inl h⟩;by_cases e:p=a
 ·subst e;rw [H.put_same];exact λh=>sN h
 ·rw [H.put_ne u o e];exact hp
theorem aW.put(X:aW g u st)(c:Rl)(v:bQ st c){o:AO}(st':St)(j:∀r,bQ st r->ad g st' r=ad g st r)(b:∀r,bQ st' r->bQ st r)(z:ob g st' c=o)(m:∀r,r≠c->bQ st r->ob g st' r=ob g st r)(w:∀t∈st'.unfl,u t.1=some (.tuple [.int t.2.1,.bytes t.2.2])):aW g (u.put (ad g st c) o) st':=by
 refine⟨λr h=>?_,λr s k x e=>X.inj r s (b r k) (b s x) (by refine j r (b r k)▸ ?_;exact j s (b s x)▸e),λt y=>?_⟩
 ·rw [j r (b r h)];by_cases e:r=c
  ·subst e;exact z▸H.put_same ..
  ·rw [H.put_ne u o λp=>e (X.inj r c (b r h) v p)];exact m r e (b r h)▸X.at r (b r h)
 ·refine(H.put_ne u o λp=>?_).trans (w t y);have k:=w t y;rw [p,X.at c v] at k;exact lR (eQ k)
theorem bv.put(X:aW g u st)(b:Rl)(s:bQ st b)(hp:b≠ .plan){o:AO}{st':St}(c:∀r,bQ st r->ad g st' r=ad g st r)(k:∀r,bQ st' r->bQ st r):bv g u st (u.put (ad g st b) o) st':=by
 refine⟨λp hp=>?_,λp hp v=>H.put_ne u o λe=>v ⟨b,s,by assumption,e.symm⟩,λp j=>by refine dQ j λr m w x=>?_;exact .inl ⟨r,k r m,w,(c r (k r m)).symm.trans x⟩⟩;by_cases e:p=ad g st b
 ·subst e;rw [H.put_same];exact λh=>sN h
 ·rw [H.put_ne u o e];exact hp
def cU{P:H->Prop}(X:aW g u st)(b:Rl)(j:bQ st b){o:AO}(st':St)(p:ob g st' b=o)(c:∀r,bQ st r->ad g st' r=ad g st r)(m:∀r,bQ st' r->bQ st r)(h:∀r,r≠b->bQ st r->ob g st' r=ob g st r)(s:∀t∈st'.unfl,u t.1=some (.tuple [.int t.2.1,.bytes t.2.2]))(hp:b≠ .plan)(k:∀w,aW g w st'->bv g u st w st'->P w):P (u.put (ad g st b) o):=
 k _ (X.put b j st' c m p h s) (bv.put X b j hp c m)
def LV{P:H->Prop}(X:aW g u st)(m v:Rl){a:iS}(h:u a=none)(B:bQ st m)(Q:m≠v){o M:AO}(st':St)(U:ob g st' m=o)(C:ob g st' v=M)(x:ad g st' v=a)(j:∀r,r≠v->bQ st r->ad g st' r=ad g st r)(c:∀r,bQ st' r->bQ st r)(D:∀r,r≠m->r≠v->bQ st r->ob g st' r=ob g st r)(Y:∀t∈st'.unfl,u t.1=some (.tuple [.int t.2.1,.bytes t.2.2]))(hp:m≠ .plan)(k:∀w,aW g w st'->bv g u st w st'->P w):P ((u.put a M).put (ad g st m) o):=by
 have y:∀r,bQ st r->ad g st r≠a:=λr b e=>by have:=X.at r b;rw [e] at this;have this:=h▸this;exact nN this
 refine k _ ⟨λr b=>?_,λr s b z e=>?_,λt hm=>?_⟩ ⟨λp hp=>?_,λp hp hf=>?_,λp G=>?_⟩
 ·by_cases e1:r=v
  ·subst e1;rw [x,C];exact(H.put_ne _ _ (y m B).symm).trans (H.put_same ..)
  ·rw [j r e1 (c r b)];by_cases e:r=m
   ·subst e;exact U▸H.put_same ..
   ·rw [H.put_ne _ o λJ=>e (X.inj r m (c r b) B J),D r e e1 (c r b)];exact(H.put_ne _ _ (y r (c r b))).trans (X.at r (c r b))
 ·by_cases e1:r=v
  ·by_cases A:s=v
   ·rw [e1,A]
   ·subst e1;rw [x,j s A (c s z)] at e;exact absurd e.symm (y s (c s z))
  ·by_cases A:s=v
   ·subst A;rw [x,j r e1 (c r b)] at e;exact absurd e (y r (c r b))
   ·rw [j r e1 (c r b),j s A (c s z)] at e;exact X.inj r s (c r b) (c s z) e
 ·have b:=Y t hm;have e1:t.1≠a:=λe=>by rw [e] at b;have b:=h▸b;exact nN b
  refine(H.put_ne _ o λJ=>?_).trans ((H.put_ne _ _ e1).trans b);rw [J,X.at m B] at b;exact lR (eQ b)
 ·by_cases e:p=ad g st m
  ·subst e;rw [H.put_same];exact λh=>sN h
  ·rw [H.put_ne _ o e,H.put_ne _ _ λe=>hp (by rw [e];exact h)];exact hp
 ·exact(H.put_ne _ o λe=>hf ⟨m,B,by assumption,e.symm⟩).trans ((H.put_ne _ _ λe=>hp (by rw [e];exact h)))
 ·refine dQ G λr b z O=>?_
  by_cases e1:r=v
  ·subst e1;rw [<-O,x];exact .inr h
  ·exact .inl ⟨r,c r b,z,(j r e1 (c r b)).symm.trans O⟩
def bv.raw{b:H}{a:iS}{o:AO}(h:b a=none)(E:bv g b st u st'):bv g b st (u.put a o) st':=by
 refine⟨λp hp=>?_,λp hp c=>(H.put_ne u o λe=>hp (by exact e▸h)).trans (E.out p hp c),E.grow⟩;by_cases e:p=a
 ·subst e;rw [H.put_same];exact λh=>sN h
 ·rw [H.put_ne u o e];exact E.keep p hp
noncomputable def St.ad0(st:St)(n:Int)(a c:iS)(b:List UInt8):St:={st with has:=λk=>if k=n then true else st.has k,abuf:=λk=>if k=n then a else st.abuf k,adat:=λk=>if k=n then c else st.adat k,data:=λk=>if k=n then b else st.data k,hold:=λk=>if k=n then 0 else st.hold k,pins:=λk=>if k=n then 0 else st.pins k}
def Ud{P:H->Prop}{x:H}{y:St}(X:aW g u st)(E:bv g x y u st){n:Int}{a c:iS}{b:List UInt8}(ha:x a=none)(hc:x c=none)(U:a≠c)(B:∀r,bQ st r->ad g st r≠a)(C:∀r,bQ st r->ad g st r≠c)(hs:6<=st.stage)(hn:st.has n=false)
  (oa:u a=some (.inst 561 [(13,.int n),(28,.ref c),(14,.int 0),(29,.int 0)])) (oc:u c=some (.ba b)) (st':St)
  (e:st'=st.ad0 n a c b)
  (k:∀w,aW g w st'->bv g x y w st'->P w):P (u.put g.byn (.idict λk=>if k=n then some (.ref a) else if st.has k then some (.ref (st.abuf k)) else none)):=by
 subst e;have m:∀r,bQ st r->ad g (st.ad0 n a c b) r=ad g st r/\(r≠ .byn->ob g (st.ad0 n a c b) r=ob g st r):=by
  intro r D;induction r with
  |buf j=>
   have z:j≠n:=λe=>by subst e;rw [show st.has j=true from D] at hn;cases hn
   exact⟨if_neg z,λJ=>congrArg (AO.inst 561) (by delta o8 St.ad0;simp only [if_neg z]:o8 (st.ad0 n a c b) j=o8 st j)⟩
  |dat j=>
   have z:j≠n:=λe=>by subst e;rw [show st.has j=true from D] at hn;cases hn
   exact⟨if_neg z,λJ=>congrArg AO.ba (if_neg z)⟩
  |byn=>exact⟨rfl,λh=>absurd rfl h⟩
  |_=>exact⟨rfl,λJ=>rfl⟩
 have Y:∀r,bQ (st.ad0 n a c b) r->bQ st r\/r=.buf n\/r=.dat n:=by
  intro r D;induction r with
  |buf j=>
   by_cases z:j=n
   ·subst z;exact .inr (.inl rfl)
   ·exact .inl (by simpa [bQ,z,St.ad0] using D)
  |dat j=>
   by_cases z:j=n
   ·subst z;exact .inr (.inr rfl)
   ·exact .inl (by simpa [bQ,z,St.ad0] using D)
  |_=>exact .inl D
 generalize e:st.ad0 n a c b=st' at k m Y;have G:ad g st' (.buf n)=a:=by exact e▸eX rfl
 have M:ad g st' (.dat n)=c:=by refine e▸ ?_;exact eX rfl
 have hb:=hs;have aa:ob g st' .byn=.idict λk=>if k=n then some (.ref a) else if st.has k then some (.ref (st.abuf k)) else none:=by
  rw [<-e];refine congrArg AO.idict (funext λk=>?_);unfold St.ad0;dsimp only;by_cases h:k=n<;>simp [h]
 refine k _ ⟨λr A=>?_,λr s A h2 v=>?_,λt hm=>?_⟩ ⟨λp hp=>?_,λp hp hf=>H.put_ne _ _ (λe=>?_)|>.trans (E.out p hp hf),λp ab=>?_⟩
 ·rcases Y r A with h|rfl|rfl
  ·rw [(m r h).1];by_cases e1:r=.byn
   ·subst e1;exact aa▸H.put_same ..
   ·exact(H.put_ne (a:=g.byn) _ _ λv=>e1 (X.inj r .byn h hb v)).trans ((X.at r h).trans (by rw [(m r h).2 e1]))
  ·have ac:ob g st' (.buf n)=.inst 561 [(13,.int n),(28,.ref c),(14,.int 0),(29,.int 0)]:=by exact e▸congrArg (AO.inst 561) (by delta o8 St.ad0;simp only [eX]:o8 (st.ad0 n a c b) n=_)
   rw [G,ac];exact(H.put_ne _ _ (B .byn hb).symm).trans (oa)
  ·have ae:ob g st' (.dat n)=.ba b:=by exact e▸congrArg AO.ba (eX rfl)
   rw [M,ae];exact(H.put_ne _ _ (C .byn hb).symm).trans (oc)
 ·rcases Y r A with h|rfl|rfl<;>rcases Y s h2 with O|rfl|rfl
  ·rw [(m r h).1,(m s O).1] at v;exact X.inj r s h O v
  ·rw [(m r h).1,G] at v;exact absurd v (B r h)
  ·rw [(m r h).1,M] at v;exact absurd v (C r h)
  ·rw [(m s O).1,G] at v;exact absurd v.symm (B s O)
  ·rfl
  ·rw [G,M] at v;exact absurd v U
  ·rw [(m s O).1,M] at v;exact absurd v.symm (C s O)
  ·rw [G,M] at v;exact absurd v.symm U
  ·rfl
 ·have hm:=(by exact e▸rfl:st'.unfl=st.unfl)▸hm;refine(H.put_ne _ _ λv=>?_).trans (X.tup t hm);have h2:=X.at .byn hb;have A:=X.tup t hm;rw [v] at A;exact lR (r:=.byn) (g:=g) (st:=st) (eQ (h2.symm.trans A))
 ·by_cases v:p=g.byn
  ·subst v;rw [H.put_same];exact λh=>sN h
  ·rw [H.put_ne _ _ v];exact E.keep p hp
 ·subst e;rcases E.grow _ ⟨.byn,hb,(λh=>nomatch h),rfl⟩ with h|h
  ·exact hf h
  ·exact hp h
 ·refine dQ ab λr A h2 Q=>?_
  rcases Y r A with h|rfl|rfl
  ·rw [(m r h).1] at Q;exact E.grow p ⟨r,h,h2,Q⟩
  ·rw [G] at Q;exact Q▸ .inr ha
  ·rw [M] at Q;rw [<-Q];exact .inr hc
end
noncomputable def bM:List UInt8:=oR 64 0
section
variable{g:Fx}{u:H}{st:St}{N:Nat}{Q:V->H->Prop}{n:Int}{m:Fs}
def SZ{t:Int}(Q:Bool->H->Prop)(q:Q true u):w7 "isinstance" [.int t,.ty "int"] (λv u=>bH v Q u) u:=by
 exact⟨rfl,q⟩
def Tz{t:List UInt8}(Q:Bool->H->Prop)(q:Q false u):w7 "isinstance" [.bytes t,.ty "int"] (λv u=>bH v Q u) u:=by
 exact⟨rfl,q⟩
def LP{i:Nat}{t:Int}(h:aC m i=some (.int t)):fc m u (.call (.g (.bi "isinstance")) (.cons (.v i) (.cons (.g (.ty "int")) .nil))) true:=λx n Q q=>
 (aG (aB h) (aG sP aI)) x n (λb u=>w7 "isinstance" b (λv u=>bH v Q u) u) (SZ Q q)
def QG{i:Nat}{t:List UInt8}(h:aC m i=some (.bytes t)):fc m u (.call (.g (.bi "isinstance")) (.cons (.v i) (.cons (.g (.ty "int")) .nil))) false:=λx n Q q=>
 (aG (aB h) (aG sP aI)) x n (λb u=>w7 "isinstance" b (λv u=>bH v Q u) u) (Tz Q q)
def tE(X:aW g u st)(b:4<=st.stage)(q:Q .none u):tb.cf (N+1) 705 [.ref g.disk] Q u:=
 kB (dH (Kw (aB rfl) (X.at .disk (aM b)) rfl rfl) rfl (bE q))
def yF(X:aW g u st)(b:4<=st.stage)(c:0<=n)(h:n<g.B)(q:Q .none u):tb.cf (N+1) 712 [.ref g.disk,.int n] Q u:=
 kS (dH (DP (rC (t:=true) (LP rfl)) (rC (t:=true) (AY aN (aB rfl) (aE (aB rfl) (X.at .disk (aM b)) rfl rfl rfl) c (SR h)))) rfl (bE q))
def yT(X:aW g u st)(b:7<=st.stage)(c:0<=n)(h:n<g.B)(q:Q .none u):tb.cf (N+1) 586 [.ref g.cache,.int n] Q u:=
 jQ (dH (DP (rC (t:=true) (LP rfl)) (rC (t:=true) (AY aN (aB rfl) (aE (aE (aB rfl) (X.at .cache (aM b)) rfl rfl rfl) (X.at .disk (aM b)) rfl rfl rfl) c (SR h)))) rfl (bE q))
def Ir(X:aW g u st)(c:4<=st.stage)(j:0<=n)(k:n<g.B)(q:Q (.bytes ((st.latest n).getD bM)) u):tb.cf (N+2) 719 [.ref g.disk,.int n] Q u:=by
 refine uw (cH (b8 (aB rfl) (X.at .disk (aM c)) c6 rfl rfl aI (tE X c ⟨rfl,?_⟩)));refine cH (b8 (aB rfl) (X.at .disk (aM c)) fj rfl rfl (aG (aB rfl) aI) (yF X c j k ⟨rfl,?_⟩));refine cY (HB (d:=.bytes bM) (aE (aB rfl) (X.at .disk (aM c)) rfl rfl rfl) (X.at .latest (aM c)) (aG (aB rfl) (aG (wh (aG (aE (aB rfl) (X.at .disk (aM c)) rfl rfl rfl) aI) λQ q=>?_) aI))) ?_
 ·exact⟨by decide,by decide,q⟩
 ·generalize h:st.latest n=m;induction m with
  |none=>rw [h] at q;exact q
  |some b=>rw [h] at q;exact q
def uC{b:List UInt8}(q:Q (.bytes b) u):tb.cf (N+1) 789 [.bytes b] Q u:=
 uO (dH (QG rfl) rfl (sTr (cO (pk (aG (aB rfl) aI) q))))
end
end
section
noncomputable def St.wr(st:St)(r:iS)(n:Int)(b:List UInt8):St:={st with dw:=st.dw+1,latest:=λk=>if k=n then some b else st.latest k,unfl:=st.unfl++ [(r,n,b)]}
section
variable{g:Fx}{c:H}{st:St}{N:Nat}{Q:V->H->Prop}{n:Int}{m:Fs}{b:List UInt8}
def C7{t:E}{i:Nat}{r:E}(h:Ev m c t .none):fc m c (.and2 (.cmp .IsNot t (.k .none)) r) false:=
 ip (s:=false) (t:=true) (iq h aN λQ q=>⟨rfl,q⟩) (λh=>fT h)
def pK(X:aW g c st)(j:4<=st.stage)(w:0<=n)(x:n<g.B)(v:g.B<=26)(y:b.length=64)(z:∀k,st.latest k≠none->0<=k/\k<100000)(A:st.unfl.length<=1000)(k:∀m r,aW g m (st.wr r n b)->bv g c st m (st.wr r n b)->Q .none m):tb.cf (N+2) 726 [.ref g.disk,.int n,.bytes b] Q c:=by
 refine rF (cH (b8 (aB rfl) (X.at .disk (aM j)) c6 rfl rfl aI (tE X j ⟨rfl,?_⟩)));refine cH (b8 (aB rfl) (X.at .disk (aM j)) fj rfl rfl (aG (aB rfl) aI) (yF X j w x ⟨rfl,?_⟩));refine bX (kN (aG (aB rfl) aI) uS uz (uC ?_));refine dH (GI (cp (aG (aB rfl) aI) (k7 (by rw [y];decide))) (aE (aB rfl) (X.at .disk (aM j)) rfl rfl rfl)) (by rw [y];rfl) ?_;refine dH (C7 (i:=0) (aE (aB rfl) (X.at .disk (aM j)) rfl rfl rfl)) rfl ?_;refine px (aB rfl) (X.at .disk (aM j)) rfl rfl rfl aN (.inl ⟨rfl,rfl⟩) (cU (P:=λc=>aZ _ _ _ _ _ c) X .disk (aM j) {st with dw:=st.dw+1} rfl (λJ J=>rfl) (λJ h=>h) (by walk_at "hob") X.tup (λh=>nomatch h) λB s C=>?_);refine r8 (aB rfl) (aE (aB rfl) (s.at .disk (aM j)) rfl rfl rfl) (aB rfl) (wD (s.at .latest (aM j)) ⟨w,by exact zh x v⟩ (λk h=>z k λe=>h (by exact e▸rfl)) ?_);refine(cU (P:=λc=>aZ _ _ _ _ _ c) s .latest (aM j) {st with dw:=st.dw+1,latest:=λk=>if k=n then some b else st.latest k} (congrArg AO.idict (funext λk=>by dsimp only;split<;>rfl)) (λJ J=>rfl) (λJ h=>h) (by walk_at "hob") s.tup (λh=>nomatch h) λD p G=>?_);refine cH (TT (aE (aB rfl) (p.at .disk (aM j)) rfl rfl rfl) (p.at .unfl (aM j)) (.inl rfl) (bJ (C5 (aG (aB rfl) (aG (aB rfl) aI)) rfl λr u=>MK ((p.new u).at .unfl (aM j)) ?_ ⟨rfl,?_⟩)))
 ·rw [eS];exact gD A (by decide)
 refine(cU (P:=λc=>aZ _ _ _ _ _ c) (p.new u) .unfl (aM j) (st.wr r n b) (by show AO.list _=_;refine Lo▸ ?_;rfl) (λJ J=>rfl) (λJ h=>h) (by walk_at "hob") (λt ht=>?_) (λh=>nomatch h) λM O U=>?_)
 ·rcases List.mem_append.mp ht with ht|ht
  ·exact(p.new u).tup t ht
  ·exact List.mem_singleton.mp ht▸H.put_same ..
 ·exact k _ r O (((C.trans G).trans (bv.new u)).trans U)
noncomputable def iw(f:Int->Option (List UInt8))(u:List (iS×Int×List UInt8)):Int->Option (List UInt8):=u.foldl (λf t=>λk=>if k=t.2.1 then some t.2.2 else f k) f
theorem vm:∀ {u:List (iS×Int×List UInt8)} {f:Int->Option (List UInt8)} {k:Int},iw f u k≠none->f k≠none\/∃t∈u,t.2.1=k
 | [],f,k,h=>.inl h
 |t::u,f,k,h=>by
  rcases vm (u:=u) h with h|⟨s,b,e⟩
  ·by_cases e:k=t.2.1
   ·exact .inr ⟨t,FS,e.symm⟩
   ·exact .inl (by dsimp only at h;rw [if_neg e] at h;exact h)
  ·exact .inr ⟨s,ES _ b,e⟩
def zG{f:Int->Option (List UInt8)}{u:List (iS×Int×List UInt8)}{i:Nat}(h:i<u.length):iw f (u.take (i+1))=λk=>if k=u[i].2.1 then some u[i].2.2 else iw f (u.take i) k:=by
 refine(congrArg _ (Gd h)).trans ?_;refine(XC).trans ?_;rfl
noncomputable def St.fls(st:St)(r:iS):St:={st with fl:=st.fl+1,kept:=st.latest,unfl:= [],aunfl:=r}
noncomputable def St.fk(st:St)(u:Int->Option (List UInt8)):St:={st with fl:=st.fl+1,kept:=u}
def yX(X:aW g c st)(j:4<=st.stage)(C:st.latest=iw st.kept st.unfl)(D:st.unfl.length<=1000)(G:∀k,st.kept k≠none->0<=k/\k<100000)(u:∀t∈st.unfl,0<=t.2.1/\t.2.1<100000)(k:∀b r,aW g b (st.fls r)->bv g c st b (st.fls r)->Q .none b):tb.cf (N+2) 740 [.ref g.disk] Q c:=by
 refine rs (cH (b8 (aB rfl) (X.at .disk (aM j)) c6 rfl rfl aI (tE X j ⟨rfl,?_⟩)));refine dH (C7 (i:=0) (aE (aB rfl) (X.at .disk (aM j)) rfl rfl rfl)) rfl ?_;refine px (aB rfl) (X.at .disk (aM j)) rfl rfl rfl aN (.inl ⟨rfl,rfl⟩) (cU (P:=λc=>aZ _ _ _ _ _ c) X .disk (aM j) (st.fk st.kept) rfl (λJ J=>rfl) (λJ h=>h) (by walk_at "hob") X.tup (λh=>nomatch h) λM x O=>?_);have U:(st.unfl.map λt=>V.ref t.1).length<=1000000:=by rw [eS];exact gD D (by decide)
 refine BU (aE (aB rfl) (x.at .disk (aM j)) rfl rfl rfl) (ly (x.at .unfl (aM j))) (fU U (λi m b=>aW g b (st.fk (iw st.kept (st.unfl.take i)))/\bv g c st b (st.fk (iw st.kept (st.unfl.take i)))/\aC m 0=some (.ref g.disk)) (λi m b h=>h.1.at .unfl (aM j)) (λi m b v s I' Y=>?_) (λm b s=>?_) ⟨x,O,rfl⟩)
 ·refine eK s λp y w=>?_
  have v:i<st.unfl.length:=by simpa using v
  rw [HD];have A:=p.tup _ (US v);refine⟨_,Dy A rfl (by decide),?_⟩;refine r8 (aB ct) (aE (aB (aP (aP w))) (p.at .disk (aM j)) rfl rfl rfl) (aB (aP ct)) (wD (p.at .kept (aM j)) (u _ (US v)) (λk h=>?_) ?_)
  ·have h:iw st.kept (st.unfl.take i) k≠none:=λe=>h (by show(iw st.kept (st.unfl.take i) k).map _=none;exact e▸rfl)
   rcases vm h with h|⟨t,A,rfl⟩
   ·exact G k h
   ·exact u t (VE A)
  ·refine(cU (P:=λc=>aZ _ _ _ _ _ c) p .kept (aM j) (st.fk (iw st.kept (st.unfl.take (i+1)))) (congrArg AO.idict (funext λk=>?_)) (λJ J=>rfl) (λJ h=>h) (by walk_at "hob") p.tup (λh=>nomatch h) λaa X2 E2=>?_)
   ·rw [zG v];show abb V.bytes (if k=_ then some _ else iw st.kept (st.unfl.take i) k)=if k=_ then _ else abb V.bytes (iw st.kept (st.unfl.take i) k);split<;>rfl
   ·exact bE (Y _ _ ⟨X2,y.trans E2,aP (aP w)⟩)
 ·refine eK s λp y w=>?_
  refine cz (gj aI rfl λr B=>dN (aB w) ((p.new B).at .disk (aM j)) rfl rfl ?_);refine(LV (P:=λc=>aZ _ _ _ _ _ c) p .disk .unfl B (aM j) (λh=>nomatch h) (st.fls r) rfl rfl rfl ?_ (λJ h=>h) ?_ (λt h=>nM h) (λh=>nomatch h) λab X3 E3=>bE (k _ r X3 (y.trans E3)))
  ·exact An (by kernel_rfl) (λJ=>rfl) λJ=>rfl
  ·intro r h h2 _;have e:iw st.kept (st.unfl.take (st.unfl.map λt=>V.ref t.1).length)=st.latest:=by rw [eS,UV];exact C.symm
   induction r<;>first|rfl|exact absurd rfl h|exact absurd rfl h2|exact congrArg (λz=>AO.idict λk=>(z k).map V.bytes) e.symm
end
end
section
noncomputable def rx:List Int:= [2,3,4,5,6,7,8,9,10,18,19,20,21,22,23,24,25]
noncomputable def cont(st:St)(n:Int):List UInt8:=if st.has n then st.data n else(st.latest n).getD bM
structure Inv(g:Fx)(st:St)(hd:Option Int):Prop where
 B24:24<=g.B
 B26:g.B<=26
 stg:10<=st.stage
 len:∀n,st.has n=true->(st.data n).length=64
 lenL:∀n b,st.latest n=some b->b.length=64
 keyL:∀n,st.latest n≠none->0<=n/\n<100000
 rowM:∀v∈st.row,∃n,st.has n=true/\v=.ref (st.abuf n)
 rowI:∀n,st.has n=true-> .ref (st.abuf n)∈st.row
 rowL:st.row.length=rx.countP λn=>st.has n
 hasB:∀n,st.has n=true->n∈rx
 hold:∀n,st.hold n=if hd=some n then 1 else 0
 held:∀n,hd=some n->st.has n=true
 pin0:∀n,0<=st.pins n
 num:∀n∈st.nums,18<=n/\n<g.B/\st.has n=true/\1<=st.pins n
 nodup:st.nums.Nodup
 note:∀n,(st.noted n).isSome=true↔n∈st.nums
 clean:∀n,18<=n->n<g.B->n∉st.nums->hd≠some n->st.has n=true->st.data n=(st.latest n).getD bM
theorem zd{f:Int->Bool}{n:Int}(h:f n=false):∀ {l:List Int},l.Nodup->n∈l->l.countP (λk=>if k=n then true else f k)=l.countP f+1
 | [],_,b=>nM b
 |x::r,y,b=>by
  rw [XY,XY];have y:=List.nodup_cons.mp y;by_cases e:x=n
  ·subst e;have:r.countP (λk=>if k=x then true else f k)=r.countP f:=XE λk c=>by
    have:k≠x:=λe=>y.1 (e▸c)
    rw [if_neg this]
   rw [this,h];simp
  ·refine(zd h y.2 ((List.mem_cons.mp b).resolve_left (NS e)))▸ ?_;refine(if_neg e)▸ ?_;lia
def zD:rx.Nodup:=by decide
section
variable{g:Fx}{j:H}{st:St}{N:Nat}{Q:V->H->Prop}{n:Int}{m:Fs}{b:List UInt8}{y:Option Int}
def Inv.row17(I:Inv g st y):st.row.length<=17:=by rw [I.rowL];exact List.countP_le_length
def w8(h:st.has n=true):((if st.has n then some (V.ref (st.abuf n)) else none).getD .none)=.ref (st.abuf n):=by rw [h];rfl
def jF(X:aW g j st)(c:7<=st.stage)(b:st.has n=true)(h:st.hold n≠0)(q:Q .none j):tb.cf (N+1) 593 [.ref g.cache,.ref (st.abuf n)] Q j:=by
 refine ky (dH (SQ (s:=false) (iq (yZ (aE (aB rfl) (X.at .cache (aM c)) rfl rfl rfl) (X.at .byn (aM c)) (aG (aE (aB rfl) (X.at (.buf n) b) rfl rfl rfl) aI)) (aB rfl) λQ q=>?_) λJ=>jV (aE (aB rfl) (X.at (.buf n) b) rfl rfl rfl) aN) (by refine(decide_eq_false h).trans ?_;rfl) (bE q));rw [w8 b];exact⟨Bool.or_eq_true_iff.mpr (.inl (beq_self_eq_true _)),by simpa using q⟩
def t7(X:aW g j st)(b:7<=st.stage)(c:st.row.length<20)(q:Q .none j):tb.cf (N+1) 607 [.ref g.cache] Q j:=
 kx (dS (pB (cp (aG (aE (aB rfl) (X.at .cache (aM b)) rfl rfl rfl) aI) (lenL (X.at .row (aM b)) (OB c))) (aE (aB rfl) (X.at .cache (aM b)) rfl rfl rfl)) (lO (by exact Int.ofNat_lt.mpr ‹_›)) q)
def vH{r:iS}(u:j r=some (.inst 561 []))(v:b.length<=1000000)(k:∀g c,j c=none->g r=some (.inst 561 [(13,.int n),(28,.ref c),(14,.int 0),(29,.int 0)])->g c=some (.ba b)->(∀p,p≠r->p≠c->g p=j p)->Q .none g):tb.cf (N+1) 481 [.ref r,.int n,.bytes b] Q j:=by
 refine qH (sX (aB rfl) (aB rfl) u rfl rfl (cz (pk (aG (aB rfl) aI) ⟨rfl,v,λc m=>dN (aB rfl) ((H.put_ne _ _ λe=>?_).trans (H.put_same ..)) rfl rfl ?_⟩)))
 ·rw [<-e,H.put_same] at m;exact sN m
 have h:c≠r:=λe=>by rw [e,H.put_same] at m;exact sN m
 have m:j c=none:=by rw [H.put_ne _ _ h] at m;exact m
 refine sX aN (aB rfl) (H.put_same ..) rfl rfl (sX aN (aB rfl) (H.put_same ..) rfl rfl (bE (k _ c m (H.put_same ..) ?_ λp s w=>?_)))
 ·rw [H.put_ne _ _ h,H.put_ne _ _ h,H.put_ne _ _ h,H.put_same]
 ·exact(H.put_ne _ _ s).trans ((H.put_ne _ _ s).trans ((H.put_ne _ _ s).trans ((H.put_ne _ _ w).trans ((H.put_ne _ _ s)))))
structure aU(st st':St):Prop where
 hi:st'.toHi=st.toHi
 cont:∀n,cont st' n=cont st n
def aU.rfl:aU st st:=⟨aay _,λJ=>aay _⟩
theorem aU.trans{a b c:St}(h:aU a b)(g:aU b c):aU a c:=⟨g.hi.trans h.hi,λn=>(g.cont n).trans (h.cont n)⟩
noncomputable def St.hit(st:St):St:={st with hits:=st.hits+1}
noncomputable def St.hol(st:St)(n z:Int):St:={st with hold:=λk=>if k=n then z else st.hold k}
theorem Inv.hol(I:Inv g st none)(b:st.has n=true):Inv g (st.hol n 1) (some n):=by
 refine{I with hold:=λk=>?_,held:=λk h=>(eQ h)▸b,clean:=λk c j m J p=>I.clean k c j m (by simp) p};show(if k=n then 1 else st.hold k)=_;by_cases e:k=n
 ·subst e;simp
 ·rw [if_neg e,I.hold k,if_neg (by simp),if_neg (λh=>e (eQ h).symm)]
def y6{z:Int}(r:Rl)(h:r≠ .buf n):ob g (st.hol n z) r=ob g st r:=by
 induction r with
 |buf k=>
  simp only [ob,o8,St.hol,if_neg (λe=>h (by exact e▸rfl):k≠n)]
 |_=>rfl
def yv{z:Int}:ob g (st.hol n z) (.buf n)=.inst 561 [(13,.int n),(28,.ref (st.adat n)),(14,.int z),(29,.int (st.pins n))]:=by simp only [ob,o8,St.hol,eX]
def vb{c:H}{b:St}(X:aW g j st)(E:bv g c b j st)(I:Inv g st none)(S:aU b st)(s:st.has n=true)(v:aC m 2=some (.ref (st.abuf n)))
  (k:∀p st',aW g p st'->bv g c b p st'->Inv g st' (some n)->aU b st'->st'.data n=st.data n->Q (.ref (st'.abuf n)) p):aZ (tb.cx N) N (.cons (.augA (.v 2) 14 .Add (.k (.int 1))) (.cons (.ret (.v 2)) .nil)) (uv Q) m j:=by
 refine px (aB v) (X.at (.buf n) s) rfl rfl rfl aN (.inl ⟨rfl,rfl⟩) (cU (P:=λj=>aZ _ _ _ _ _ j) X (.buf n) s (st.hol n 1) ?_ (λJ J=>rfl) (λJ h=>h) (λr h J=>y6 r h) X.tup (λh=>nomatch h) λu w x=>?_)
 ·rw [yv,I.hold n];rfl
 ·exact cY (aB v) (k u (st.hol n 1) w (E.trans x) (I.hol s) ⟨S.hi,S.cont⟩ rfl)
noncomputable def St.add(st:St)(n:Int)(a c:iS)(b:List UInt8):St:={st with has:=λk=>if k=n then true else st.has k,abuf:=λk=>if k=n then a else st.abuf k,adat:=λk=>if k=n then c else st.adat k,data:=λk=>if k=n then b else st.data k,hold:=λk=>if k=n then 0 else st.hold k,pins:=λk=>if k=n then 0 else st.pins k,reads:=st.reads+1,row:=st.row++ [.ref a]}
theorem Inv.add{a c:iS}(I:Inv g st none)(y:st.has n=false)(z:n∈rx)(A:b.length=64)(B:b=(st.latest n).getD bM):Inv g (st.add n a c b) none:=by
 have j:∀k,(st.add n a c b).has k=true->k=n\/st.has k=true:=λk h=>by
  by_cases e:k=n
  ·exact .inl e
  ·exact .inr ((if_neg e:(if k=n then true else st.has k)=_).symm.trans h)
 have m:∀k,st.has k=true->k≠n:=λk h e=>by rw [e] at h;have h:=y▸h;exact fT h
 refine{I with len:=λk h=>?_,rowM:=λv hv=>?_,rowI:=λk h=>?_,rowL:=?_,hasB:=λk h=>?_,hold:=λk=>?_,held:=(λk h=>nN h),pin0:=λk=>?_,num:=λk h=>?_,clean:=λk s u r w C=>?_}
 ·show(if k=n then b else st.data k).length=64;rcases j k h with rfl|h
  ·exact eX rfl▸A
  ·rw [if_neg (m k h)];exact I.len k h
 ·rcases List.mem_append.mp hv with hv|hv
  ·refine bp (I.rowM v hv) λk x p=>?_
   subst p;exact⟨k,by show(if k=n then true else st.has k)=true;rw [if_neg (m k x)];exact x,by show _=V.ref (if k=n then a else st.abuf k);rw [if_neg (m k x)]⟩
  ·exact List.mem_singleton.mp hv▸⟨n,eX rfl,by show _=V.ref (if n=n then a else st.abuf n);rw [eX rfl]⟩
 ·show V.ref (if k=n then a else st.abuf k)∈st.row++ [.ref a];rcases j k h with rfl|h
  ·rw [eX rfl];exact VA _ (List.mem_singleton.mpr rfl)
  ·rw [if_neg (m k h)];exact VF _ (I.rowI k h)
 ·show(st.row++ [V.ref a]).length=_;rw [pS,I.rowL];exact(zd y zD z).symm
 ·rcases j k h with rfl|h
  ·exact z
  ·exact I.hasB k h
 ·show(if k=n then 0 else st.hold k)=_;by_cases e:k=n
  ·exact(eX e)
  ·rw [if_neg e];exact I.hold k
 ·show 0<=(if k=n then 0 else st.pins k);by_cases e:k=n
  ·rw [eX e];decide
  ·rw [if_neg e];exact I.pin0 k
 ·refine q8 (I.num k h) λs u r w=>?_
  have e:=m k r;exact⟨s,u,by show(if k=n then true else st.has k)=true;rw [if_neg e];exact r,by show 1<=(if k=n then 0 else st.pins k);rw [if_neg e];exact w⟩
 ·show(if k=n then b else st.data k)=_;rcases j k C with rfl|h
  ·exact eX rfl▸B
  ·refine(if_neg (m k h)).trans ?_;exact I.clean k s u r w h
def mU(X:aW g j st)(I:Inv g st none)(U:0<=n)(Y:n<g.B)(hb:n∈rx)
  (k:∀s st',aW g s st'->bv g j st s st'->Inv g st' (some n)->aU st st'->Q (.ref (st'.abuf n)) s):tb.cf (N+3) 600 [.ref g.cache,.int n] Q j:=by
 have m:=I.stg;refine ue (cH (b8 (aB rfl) (X.at .cache (aM m)) fJ rfl rfl (aG (aB rfl) aI) (yT X (aM m) U Y ⟨rfl,?_⟩)));generalize B:st.has n=zz;induction zz with
 |true=>
  refine db (bj (yZ (aE (aB rfl) (X.at .cache (aM m)) rfl rfl rfl) (X.at .byn (aM m)) (aG (aB rfl) aI)) (w8 B)) ?_;refine BW (iq (t:=false) (aB rfl) aN λQ q=>⟨rfl,q⟩) rfl ?_;refine px (aB rfl) (X.at .cache (aM m)) rfl rfl rfl aN (.inl ⟨rfl,rfl⟩) (cU (P:=λj=>aZ _ _ _ _ _ j) X .cache (aM m) st.hit rfl (λJ J=>rfl) (λJ h=>h) (by walk_at "hob") X.tup (λh=>nomatch h) λC D E1=>bE (vb D E1 ?_ ⟨rfl,λJ=>rfl⟩ B rfl λs st' a b c d J=>k s st' a b c d));exact{I with}
 |false=>
  refine db (bj (w:=.none) (yZ (aE (aB rfl) (X.at .cache (aM m)) rfl rfl rfl) (X.at .byn (aM m)) (aG (aB rfl) aI)) (by rw [B];rfl)) ?_;refine dS (iq (t:=true) (aB rfl) aN λQ q=>⟨rfl,q⟩) rfl ?_;refine cH (b8 (aB rfl) (X.at .cache (aM m)) nh rfl rfl aI (t7 X (aM m) (Vu I.row17 (by decide)) ⟨rfl,?_⟩));generalize y:(st.latest n).getD bM=b;refine bX (i6 (cn (aB rfl) (bJ (b8 (aE (aB rfl) (X.at .cache (aM m)) rfl rfl rfl) (X.at .disk (aM m)) wA rfl rfl (aG (aB rfl) aI) (Ir X (aM m) U Y ?_)))));refine y▸ ?_;refine⟨yt,?_⟩;intro r G;have hl:b.length=64:=by
   refine y▸ ?_;generalize h:st.latest n=zz;induction zz with
   |none=>rfl
   |some c=>exact I.lenL n c h
  refine vH (H.put_same ..) (Bg hl) λC c x o1 o2 aa=>⟨rfl,?_⟩
  have M:c≠r:=λe=>by rw [e,H.put_same] at x;exact sN x
  have x:j c=none:=by rw [H.put_ne _ _ M] at x;exact x
  have nr:∀q,bQ st q->ad g st q≠r:=λq v e=>by have:=X.at q v;rw [e] at this;have this:=G▸this;exact nN this
  have nc:∀q,bQ st q->ad g st q≠c:=λq v e=>by have:=X.at q v;rw [e] at this;have this:=x▸this;exact nN this
  have u:=λp h1 h2=>(aa p h1 h2).trans (H.put_ne _ _ h1)
  have D:=X.other (λq v=>u _ (nr q v) (nc q v)) λt ht=>u _ (λe=>by have:=X.tup t ht;rw [e] at this;have this:=G▸this;cases this) (λe=>by have:=X.tup t ht;rw [e] at this;have this:=x▸this;cases this)
  have E1:bv g j st C st:=⟨λp hp=>by exact u p (λe=>hp (by rw [e];exact G)) (λe=>hp (by rw [e];exact x))▸hp,λp hp J=>u p (λe=>hp (by rw [e];exact G)) (λe=>hp (by rw [e];exact x)),λJ h=>.inl h⟩
  refine px (aB rfl) (D.at .cache (aM m)) rfl rfl rfl aN (.inl ⟨rfl,rfl⟩) (cU (P:=λj=>aZ _ _ _ _ _ j) D .cache (aM m) {st with reads:=st.reads+1} rfl (λJ J=>rfl) (λJ h=>h) (by walk_at "hob") D.tup (λh=>nomatch h) λae X2 E2=>?_);have ab:=(E2.out r (by exact o1▸λh=>sN h) λA=>by refine dQ A λq v _ e=>?_;exact nr q v e).trans o1;have ac:=(E2.out c (by exact o2▸λh=>sN h) λA=>by refine dQ A λq v _ e=>?_;exact nc q v e).trans o2;refine r8 (aB rfl) (aE (aB rfl) (X2.at .cache (aM m)) rfl rfl rfl) (aB rfl) (wD (X2.at .byn (aM m)) ⟨U,by have:=I.B26;exact zh Y this⟩ (λq v=>?_) ?_)
  ·exact(by decide:∀z∈rx,0<=z/\z<100000) q (I.hasB q (BS λh=>v (if_neg h)))
  refine Ud (P:=λj=>aZ _ _ _ _ _ j) X2 (E1.trans E2) G x M.symm nr nc (aM m) B ab ac _ rfl λaf O E3=>?_
  refine cH (uj (aE (aB rfl) (O.at .cache (aM m)) rfl rfl rfl) (O.at .row (aM m)) (aG (aB rfl) aI) (gD I.row17 (by decide)) ⟨rfl,?_⟩);refine(cU (P:=λj=>aZ _ _ _ _ _ j) O .row (aM m) (st.add n r c b) rfl (λJ J=>rfl) (λJ h=>h) (by walk_at "hob") O.tup (λh=>nomatch h) λag X4 E4=>bE (vb X4 (E3.trans E4) (I.add B hb hl y.symm) ⟨rfl,λq=>?_⟩ (eX rfl) ?_ λs st' a b c d J=>k s st' a b c d))
  ·show(if (if q=n then true else st.has q)=true then(if q=n then b else st.data q) else _)=_;by_cases e:q=n
   ·subst e;rw [eX rfl,eX rfl,<-y,cont,B,eX rfl];rfl
   ·rw [if_neg e,if_neg e];rfl
  ·show _=some (V.ref (if n=n then r else st.abuf n));exact eX rfl▸rfl
noncomputable def St.rl(st:St)(n:Int)(r:List V):St:={st with hold:=λk=>if k=n then 0 else st.hold k,row:=r}
def Inv.rel(I:Inv g st (some n))(r:18<=n->n<g.B->n∈st.nums\/st.data n=(st.latest n).getD bM):Inv g (st.rl n (st.row.erase (.ref (st.abuf n))++ [.ref (st.abuf n)])) none:=by
 have b:=I.held n rfl;refine{I with hold:=λk=>?_,held:=(λk h=>nN h),rowM:=λv hv=>?_,rowI:=λk s=>?_,rowL:=?_,clean:=λk c j m J u=>?_}
 ·rcases List.mem_append.mp hv with hv|hv
  ·exact I.rowM v (Y4 hv)
  ·rw [List.mem_singleton.mp hv];exact⟨n,b,rfl⟩
 ·by_cases e:V.ref (st.abuf k)=.ref (st.abuf n)
  ·exact VA _ (List.mem_singleton.mpr e)
  ·exact VF _ ((Xg e).mpr (I.rowI k s))
 have p:=I.rowI n b
 ·show(st.row.erase (V.ref (st.abuf n))++ [V.ref (st.abuf n)]).length=_;rw [pS,WJ p];exact(by exact Lx (YW p):_=st.row.length).trans I.rowL
 ·by_cases e:k=n
  ·refine(eX e).trans ?_;rfl
  ·exact(if_neg e).trans ((I.hold k).trans ((if_neg (λh=>e (eQ h).symm))))
 ·by_cases e:k=n
  ·subst e;exact(r c j).resolve_left m
  ·exact I.clean k c j m (λh=>e (eQ h).symm) u
def AA(c:∀v∈st.row,∃n,st.has n=true/\v=.ref (st.abuf n))(X:aW g j st){v:V}(p:v∈st.row):jI j v st.row=true:=by
 unfold jI;have h:∀u∈st.row,zo j u=some 561:=λu m=>by
  refine bp (c u m) λk r b=>?_
  subst b;show(match j (st.abuf k) with|some (.inst C _)=>some C|_=>none)=_;rw [show j (st.abuf k)=_ from(X.at (.buf k) r)];rfl
 refine h v p▸ ?_;exact List.all_eq_true.mpr λu m=>by exact h u m▸beq_self_eq_true _
def gi(X:aW g j st)(I:Inv g st (some n))(w:18<=n->n<g.B->n∈st.nums\/st.data n=(st.latest n).getD bM)
  (k:∀c st',aW g c st'->bv g j st c st'->Inv g st' none->aU st st'->Q .none c):tb.cf (N+2) 614 [.ref g.cache,.ref (st.abuf n)] Q j:=by
 have b:=I.stg;have p:=I.held n rfl;have u:st.hold n=1:=by exact(I.hold n).trans ((eX rfl))
 refine mY (cH (b8 (aB rfl) (X.at .cache (aM b)) cF rfl rfl (aG (aB rfl) aI) (jF X (aM b) p (by rw [u];decide) ⟨rfl,?_⟩)));refine px (aB rfl) (X.at (.buf n) p) rfl rfl rfl aN (.inr ⟨rfl,rfl⟩) (cU (P:=λj=>aZ _ _ _ _ _ j) X (.buf n) p (st.hol n 0) ?_ (λJ J=>rfl) (λJ h=>h) (λr h J=>y6 r h) X.tup (λh=>nomatch h) λx m y=>?_)
 ·rw [yv,u];rfl
 refine dS (jV (aE (aB rfl) ((m.at (.buf n) p).trans (congrArg some yv)) rfl rfl rfl) aN) rfl ?_;have v:=I.rowI n p;refine cH (Ez (aE (aB rfl) (m.at .cache (aM b)) rfl rfl rfl) (m.at .row (aM b)) (aG (aB rfl) aI) (AA (st:=st.hol n 0) I.rowM m v) v (gD I.row17 (by decide)) ⟨rfl,?_⟩);refine(cU (P:=λj=>aZ _ _ _ _ _ j) m .row (aM b) (st.rl n (st.row.erase (.ref (st.abuf n)))) rfl (λJ J=>rfl) (λJ h=>h) (by walk_at "hob") m.tup (λh=>nomatch h) λz s A=>?_);refine cH (uj (aE (aB rfl) (s.at .cache (aM b)) rfl rfl rfl) (s.at .row (aM b)) (aG (aB rfl) aI) (gD (Zg ..) (gD I.row17 (by decide))) ⟨rfl,?_⟩);refine(cU (P:=λj=>aZ _ _ _ _ _ j) s .row (aM b) (st.rl n (st.row.erase (.ref (st.abuf n))++ [.ref (st.abuf n)])) rfl (λJ J=>rfl) (λJ h=>h) (by walk_at "hob") s.tup (λh=>nomatch h) λB C D=>?_);exact k _ _ C ((y.trans A).trans D) (I.rel w) ⟨rfl,λJ=>rfl⟩
end
end
section
def pL(u:H)(p:iS)(a b:AO):(u.put p a).put p b=u.put p b:=by
 funext q;unfold H.put;split<;>rfl
theorem bZ{b:Type} [DecidableEq b]:∀ {l L:List b},l.Nodup->(∀x∈l,x∈L)->l.length<=L.length
 | [],L,_,_=>Tl _
 |a::r,L,hd,h=>by
  have hd:=List.nodup_cons.mp hd;have:=bZ (L:=L.erase a) hd.2 λx c=>(Xg λe=>hd.1 (by exact e▸c)).mpr (h x (ES _ c))
  rw [WJ (h a FS)] at this;exact Oh (YW (h a FS)) ‹_›
section
variable{g:Fx}{u:H}{st:St}{N:Nat}{Q:V->H->Prop}{n:Int}{m:Fs}{b:List UInt8}{hd:Option Int}
def uL{L:List Int}{n:Int}(a:Int)(k:Nat)(h:∀j:Fin k,a+(j.val:Int)∈L)(b:a<=n)(c:n<a+(k:Int)):n∈L:=by
 have e:n=a+(n-a).toNat:=by rw [Int.toNat_of_nonneg (Int.sub_nonneg_of_le b)];exact Jx
 rw [e];exact h ⟨(n-a).toNat,by exact QJ c b⟩
def Inv.nums8(I:Inv g st hd):st.nums.length<=8:=bZ (L:= [18,19,20,21,22,23,24,25]) I.nodup λx b=>by
 refine eK (I.num x b) λc h J=>?_
 exact uL 18 8 (by decide) c (Int.lt_of_lt_of_le h I.B26)
def Jl(h:18<=n)(b:n<26):n∈rx:=uL 18 8 (by decide) h b
def IZ(h:2<=n)(b:n<11):n∈rx:=uL 2 9 (by decide) h b
structure Sm(st st':St):Prop where
 nd:st'.toNd=st.toNd
 lat:st'.latest=st.latest
 kep:st'.kept=st.kept
 unf:st'.unfl=st.unfl
 cont:∀n,L04.cont st' n=L04.cont st n
def aU.sm{a b:St}(h:aU a b):Sm a b:=⟨congrArg Hi.toNd h.hi,congrArg Hi.latest h.hi,congrArg Hi.kept h.hi,congrArg Hi.unfl h.hi,h.cont⟩
theorem Sm.trans{a b c:St}(h:Sm a b)(g:Sm b c):Sm a c:=⟨g.nd.trans h.nd,g.lat.trans h.lat,g.kep.trans h.kep,g.unf.trans h.unf,λn=>(g.cont n).trans (h.cont n)⟩
noncomputable def St.pn(st:St)(n z:Int):St:={st with pins:=λk=>if k=n then z else st.pins k}
def Dt{z:Int}(r:Rl)(h:r≠ .buf n):ob g (st.pn n z) r=ob g st r:=by
 induction r with
 |buf k=>
  simp only [ob,o8,St.pn,if_neg (λe=>h (by exact e▸rfl):k≠n)]
 |_=>rfl
def G4{z:Int}:ob g (st.pn n z) (.buf n)=.inst 561 [(13,.int n),(28,.ref (st.adat n)),(14,.int (st.hold n)),(29,.int z)]:=by simp only [ob,o8,St.pn,eX]
def z9(X:aW g u st)(m:7<=st.stage)(c:st.has n=true)(p:st.hold n≠0)(k:∀b,aW g b (st.pn n (st.pins n+1))->bv g u st b (st.pn n (st.pins n+1))->Q .none b):tb.cf (N+2) 621 [.ref g.cache,.ref (st.abuf n)] Q u:=by
 refine uE (cH (b8 (aB rfl) (X.at .cache (aM m)) cF rfl rfl (aG (aB rfl) aI) (jF X (aM m) c p ⟨rfl,?_⟩)));refine px (aB rfl) (X.at (.buf n) c) rfl rfl rfl aN (.inl ⟨rfl,rfl⟩) (cU (P:=λu=>aZ _ _ _ _ _ u) X (.buf n) c (st.pn n (st.pins n+1)) ?_ (λJ J=>rfl) (λJ h=>h) (λr h J=>Dt r h) X.tup (λh=>nomatch h) λj s v=>k j s v);exact G4▸rfl
def vX(X:aW g u st)(m:7<=st.stage)(c:st.has n=true)(p:st.pins n≠0)(k:∀b,aW g b (st.pn n (st.pins n-1))->bv g u st b (st.pn n (st.pins n-1))->Q .none b):tb.cf (N+1) 628 [.ref g.cache,.int n] Q u:=by
 refine qy (db (bj (yZ (aE (aB rfl) (X.at .cache (aM m)) rfl rfl rfl) (X.at .byn (aM m)) (aG (aB rfl) aI)) (w8 c)) ?_);refine dH (SQ (s:=false) (iq (aB rfl) aN λQ q=>⟨rfl,q⟩) λJ=>jV (aE (aB rfl) (X.at (.buf n) c) rfl rfl rfl) aN) (by refine(decide_eq_false p).trans ?_;rfl) ?_;refine px (aB rfl) (X.at (.buf n) c) rfl rfl rfl aN (.inr ⟨rfl,rfl⟩) (cU (P:=λu=>aZ _ _ _ _ _ u) X (.buf n) c (st.pn n (st.pins n-1)) ?_ (λJ J=>rfl) (λJ h=>h) (λr h J=>Dt r h) X.tup (λh=>nomatch h) λj v w=>k j v w);exact G4▸rfl
def zx(X:aW g u st)(c:10<=st.stage)(b:18<=n)(q:Q (.bool false) u):tb.cf (N+1) 816 [.ref g.jour,.int n] Q u:=by
 refine mg (cY (Ip (t:=false) (aE (aB rfl) (X.at .jour (aM c)) rfl rfl rfl) (aB rfl) (aY (aE (aB rfl) (X.at .jour (aM c)) rfl rfl rfl) (aE (aB rfl) (X.at .jour (aM c)) rfl rfl rfl)) (λQ q=>?_) (λQ q=>?_)) q)
 ·exact fZ (leT (JR b)) Q q
 ·exact fZ (by exact congrArg _ (decide_eq_false (by exact G1 b))) Q q
def tBF{P:Bool->H->Prop}(h:P false u):bH (.bool false) P u:=h
def tBT{P:Bool->H->Prop}(h:P true u):bH (.bool true) P u:=h
def SV{p q:Prop}(h:q):(if false=true then p else q):=h
noncomputable def St.nt(st:St)(n:Int):St:={st with pins:=λk=>if k=n then st.pins n+1 else st.pins k,noted:=λk=>if k=n then some (.int st.nums.length) else st.noted k,nums:=st.nums++ [n]}
theorem Inv.nt(I:Inv g st (some n))(j:18<=n)(p:n<g.B)(r:n∉st.nums):Inv g (st.nt n) (some n):=by
 refine{I with pin0:=λk=>?_,num:=λk m=>?_,nodup:=?_,note:=λk=>?_,clean:=λk s u v w x=>I.clean k s u (λh=>v (VF _ h)) w x}
 ·show 0<=(if k=n then st.pins n+1 else st.pins k);have:=I.pin0 k;by_cases e:k=n
  ·subst e;exact eX rfl▸GP this
  ·exact if_neg e▸this
 ·have hp:1<=(if k=n then st.pins n+1 else st.pins k):=by
   by_cases e:k=n
   ·exact eX e▸MQ (I.pin0 n)
   ·exact if_neg e▸(I.num k ((List.mem_append.mp m).resolve_right λh=>e (List.mem_singleton.mp h))).2.2.2
  rcases List.mem_append.mp m with h|h
  ·refine q8 (I.num k h) λa b c J=>?_
   exact⟨a,b,c,hp⟩
  ·rw [List.mem_singleton.mp h] at hp⊢;exact⟨j,p,(I.held n rfl),hp⟩
 ·exact List.nodup_append.mpr ⟨I.nodup,by simp,λa y b z e=>r (by rw [<-List.mem_singleton.mp z];exact e▸y)⟩
 ·show(if k=n then some (V.int st.nums.length) else st.noted k).isSome=true↔k∈st.nums++ [n];by_cases e:k=n
  ·subst e;simp
  ·rw [if_neg e,I.note k];simp [e]
def TH{e r:E}{p:iS}{f:Int->Option V}{k:Int}(b:Ev m u e (.int k))(c:Ev m u r (.ref p))(hp:u p=some (.idict f)):fc m u (.cmp .In e r) (f k).isSome:=
 iq b c λQ q=>by delta cr Jp;dsimp only;exact hp▸q
def SE{x:Cx}{b:Nat}{c:Ss}{P:Fl->Fs->H->Prop}(k:P (.ret .none) m u):aZ x b (.cons .ret0 c) P m u:=k
def tMc{T:rp}{i:Nat}{o:E}{b:Es}{vs:List V}{p C f:iS}{c:Fs}{P:Bool->H->Prop}(g:Ev m u o (.ref p))(hp:u p=some (.inst C c))(h:(T.cx N).meth C i=some f)(j:aC c i=none)(r:Vl i 300=true)(s:sy m u b vs)(k:T.cf N f (.ref p::vs) (λv u=>bH v P u) u):xT (T.cx N) N m (.mc o i b) P u:=g _ _ _ (by
 exact AG hp j r h▸s _ _ _ k)
def rB(X:aW g u st)(I:Inv g st (some n))(j:18<=n)(w:n<g.B)(A:st.calls≠0)
  (k:∀p st',aW g p st'->bv g u st p st'->Inv g st' (some n)->Sm st st'->n∈st'.nums->st'.abuf n=st.abuf n->Q .none p):tb.cf (N+3) 844 [.ref g.jour,.ref (st.abuf n)] Q u:=by
 have b:=I.stg;have r:=I.held n rfl;have y:st.hold n≠0:=by rw [I.hold n,eX rfl];decide
 refine mN (dH (jV (aE (aB rfl) (X.at .jour (aM b)) rfl rfl rfl) aN) (decide_eq_false A) ?_);refine Dz (tMc (aB rfl) (X.at .jour (aM b)) rt rfl rfl (aG (aE (aB rfl) (X.at (.buf n) r) rfl rfl rfl) aI) (zx X b j (tBF (SV ?_))));refine bE (Q:=mG _ _ _ _) ?_;cases m:(st.noted n).isSome with
 |true=>
  refine dS (TH (aE (aB rfl) (X.at (.buf n) r) rfl rfl rfl) (aE (aB rfl) (X.at .jour (aM b)) rfl rfl rfl) (X.at .noted (aM b))) m ?_;refine cH (b8 (aE (aB rfl) (X.at .jour (aM b)) rfl rfl rfl) (X.at .cache (aM b)) cF rfl rfl (aG (aB rfl) aI) (jF X (aM b) r y ⟨rfl,?_⟩));exact SE (k u st X .rfl I (aU.rfl).sm ((I.note n).mp m) rfl)
 |false=>
  have z:=I.nums8;have c:(st.nums.map V.int).length<=8:=by rw [eS];exact z
  refine dH (TH (aE (aB rfl) (X.at (.buf n) r) rfl rfl rfl) (aE (aB rfl) (X.at .jour (aM b)) rfl rfl rfl) (X.at .noted (aM b))) m ?_;refine dH (T9 (cp (aG (aE (aB rfl) (X.at .jour (aM b)) rfl rfl rfl) aI) (lenL (X.at .nums (aM b)) (gD c (by decide)))) (aE (aB rfl) (X.at .jour (aM b)) rfl rfl rfl)) (decide_eq_false (O0 c)) ?_;refine cH (b8 (aE (aB rfl) (X.at .jour (aM b)) rfl rfl rfl) (X.at .cache (aM b)) xd rfl rfl (aG (aB rfl) aI) (z9 X (aM b) r y λB s C=>⟨rfl,?_⟩));refine r8 (cp (aG (aE (aB rfl) (s.at .jour (aM b)) rfl rfl rfl) aI) (lenL (s.at .nums (aM b)) (gD c (by decide)))) (aE (aB rfl) (s.at .jour (aM b)) rfl rfl rfl) (aE (aB rfl) (s.at (.buf n) r) rfl rfl rfl) (wD (s.at .noted (aM b)) ⟨by exact v9 j,by exact zh w I.B26⟩ (λq m=>?_) ?_)
  ·have:=I.num q ((I.note q).mp (Option.isSome_iff_ne_none.mpr m));have:=I.B26
   (clear c z b w j;omega)
  refine(cU (P:=λu=>aZ _ _ _ _ _ u) s .noted (aM b) {st.pn n (st.pins n+1) with noted:=λk=>if k=n then some (.int st.nums.length) else st.noted k} ?_ (λJ J=>rfl) (λJ h=>h) (by walk_at "hob") s.tup (λh=>nomatch h) λD v G=>?_)
  ·rw [eS];rfl
  refine cH (uj (aE (aB rfl) (v.at .jour (aM b)) rfl rfl rfl) (v.at .nums (aM b)) (aG (aE (aB rfl) (v.at (.buf n) r) rfl rfl rfl) aI) (gD c (by decide)) ⟨rfl,?_⟩);refine(cU (P:=λu=>aZ _ _ _ _ _ u) v .nums (aM b) (st.nt n) ?_ (λJ J=>rfl) (λJ h=>h) (by walk_at "hob") v.tup (λh=>nomatch h) λx M O=>?_)
  ·show AO.list ((st.nums++ [n]).map .int)=_;rw [Lo];rfl
  have U:n∉st.nums:=λh=>by have m:=(I.note n).mpr h▸m;exact xF m
  exact k x (st.nt n) M ((C.trans G).trans O) (I.nt j w U) ⟨rfl,rfl,rfl,rfl,λJ=>rfl⟩ (VA _ (List.mem_singleton.mpr rfl)) rfl
end
end
section
theorem IP{x:Cx}{n:Nat}{m:Fs}{σ:H}{ss b:Ss}{t:E}{Q:Fl->Fs->H->Prop}(Iv:Nat->Fs->H->Prop)(k:Nat)(h:Iv k m σ)
  (step:∀k m σ,Iv k m σ->∀I':Fs->H->Prop,(∀j m σ,j<k->Iv j m σ->I' m σ)->xT x n m t (λc σ=>if c then aZ x n b (λf m σ=>match f with| .next=>I' m σ| .brk=>aZ x n ss Q m σ| .ret v=>Q (.ret v) m σ) m σ else aZ x n ss Q m σ) σ):
  aZ x n (.cons (.whl t b) ss) Q m σ:=by
 intro I hI;exact(λk=>Nat.strongRecOn k λk ih m σ h=>hI m σ (step k m σ h I λj m σ hj h=>ih j hj m σ h):∀k m σ,Iv k m σ->I m σ) k m σ h
noncomputable def bt(b:List UInt8)(n:Int):Bool:=(oct b (n.toNat/8)).testBit (n.toNat%8)
noncomputable def flip(b:List UInt8)(n:Int):List UInt8:=b.set (n.toNat/8) (Tk (oct b (n.toNat/8)^^^2^(n.toNat%8)))
theorem AH{a i:Nat}(ha:a<256)(hi:i<8):a^^^2^i<256:=Nat.xor_lt_two_pow (n:=8) ha (Nat.pow_lt_pow_right (by decide) hi)
theorem yN{b:List UInt8}{n k:Int}(h:n.toNat/8<b.length)(hn:0<=n)(hk:0<=k):bt (flip b n) k=if k=n then !bt b n else bt b k:=by
 delta bt flip;rw [tx h (AH (g3 ..) (W6 _ (by decide)))];by_cases e:k=n
 ·subst e;simp [aaH,Nat.testBit_two_pow_self]
 ·rw [if_neg e];by_cases e2:n.toNat/8=k.toNat/8
  ·rw [eX e2,e2,aaH,Nat.testBit_two_pow_of_ne (by exact Sn hn hk e2 e:n.toNat%8≠k.toNat%8)];simp
  ·rw [if_neg e2]
theorem Ej{x i:Nat}:x&&&2^i=if x.testBit i then 2^i else 0:=by
 refine Nat.eq_of_testBit_eq λj=>?_
 rw [Nat.testBit_and,Nat.testBit_two_pow];by_cases e:i=j
 ·subst e;cases h:x.testBit i<;>simp
 ·cases h:x.testBit i<;>simp [e]
theorem xx{b:List UInt8}{n:Int}:OP (oct b (n.toNat/8)) ((2^(n.toNat%8):Nat):Int)=if bt b n then((2^(n.toNat%8):Nat):Int) else 0:=by
 rw [y5 (Int.natCast_nonneg _) (Int.natCast_nonneg _),Int.toNat_natCast,Int.toNat_natCast,Ej];unfold bt;rcases Nat.testBit (oct b (n.toNat/8)) (n.toNat%8) with⟨⟩<;>rfl
set_option tactic.hygienic true in
theorem Ab{x y:Int}(h:y.natAbs<2^64):Wh x y=false:=by
 have:¬(if y==0 then 0 else y.natAbs.log2/30+1)>300:=by
  split
  ·decide
  ·rename_i h0;have:=(Nat.log2_lt (by simpa using h0)).mpr h;exact PC this
 show(decide ((if y==0 then 0 else y.natAbs.log2/30+1)>300)&&_)=false;rw [decide_eq_false this];rfl
theorem tP{i:Nat}:((2^i:Nat):Int)≠0:=by exact GO (Nat.two_pow_pos i)
structure Up(st st':St)(f:Int->List UInt8):Prop where
 nd:st'.toNd=st.toNd
 lat:st'.latest=st.latest
 kep:st'.kept=st.kept
 unf:st'.unfl=st.unfl
 cont:∀n,L04.cont st' n=f n
section
variable{a b c:St}{f f':Int->List UInt8}
theorem Sm.up(h:Sm a b):Up a b (L04.cont a):=⟨h.nd,h.lat,h.kep,h.unf,h.cont⟩
theorem Up.trans(h:Up a b f)(k:Up b c f'):Up a c f':=⟨k.nd.trans h.nd,k.lat.trans h.lat,k.kep.trans h.kep,k.unf.trans h.unf,k.cont⟩
theorem Up.cast(h:Up a b f)(e:∀n,f n=f' n):Up a b f':=⟨h.nd,h.lat,h.kep,h.unf,λn=>(h.cont n).trans (e n)⟩
theorem Up.calls(h:Up a b f):b.calls=a.calls:=congrArg Nd.calls h.nd
theorem Up.stage(h:Up a b f):b.stage=a.stage:=congrArg Nd.stage h.nd
end
noncomputable def St.dt(st:St)(n:Int)(b:List UInt8):St:={st with data:=λk=>if k=n then b else st.data k}
section
variable{g:Fx}{σ:H}{st:St}{N:Nat}{Q:V->H->Prop}{n:Int}{m:Fs}{b:List UInt8}{hd:Option Int}
theorem IJ(r:Rl)(h:r≠ .dat n):ob g (st.dt n b) r=ob g st r:=by
 induction r with
 |dat k=>
  simp only [ob,o8,St.dt,if_neg (λe=>h (by exact e▸rfl):k≠n)]
 |_=>rfl
theorem OL:ob g (st.dt n b) (.dat n)=.ba b:=by simp only [ob,o8,St.dt,eX]
theorem Inv.dt(I:Inv g st (some n))(hb:b.length=64):Inv g (st.dt n b) (some n):=by
 refine{I with len:=λk h=>?_,clean:=λk h1 h2 h3 h4 h5=>?_}
 ·show(if k=n then b else st.data k).length=64;by_cases e:k=n
  ·rw [eX e];exact hb
  ·rw [if_neg e];exact I.len k h
 ·refine(if_neg λe=>h4 (by exact e▸rfl)).trans ?_;exact I.clean k h1 h2 h3 h4 h5
theorem Er(hn:st.has n=true)(k:Int):cont (st.dt n b) k=if k=n then b else cont st k:=by
 by_cases e:k=n
 ·subst e;exact eX rfl▸(eX hn).trans (eX rfl)
 ·rw [if_neg e];show(if st.has k then(if k=n then b else st.data k) else _)=_;rw [if_neg e];rfl
theorem bU(hn:st.has n=true):cont st n=st.data n:=eX hn
theorem Eu(I:Inv g st hd)(hn:st.has n=true):(cont st n).length=64:=by exact bU hn▸I.len n hn
theorem dG(I:Inv g st hd)(n:Int):(cont st n).length=64:=by
 generalize h:st.has n=zz;induction zz with
 |true=>exact Eu I h
 |false=>
  unfold cont;refine h▸ ?_;generalize e:st.latest n=zz;induction zz with
  |none=>rfl
  |some b=>exact I.lenL n b e
theorem zy{P:H->Prop}(X:aW g σ st)(hn:st.has n=true)(k:∀σ',aW g σ' (st.dt n b)->bv g σ st σ' (st.dt n b)->P σ'):P (σ.put (st.adat n) (.ba b)):=
 cU (P:=P) X (.dat n) hn (st.dt n b) OL (λJ J=>rfl) (λJ h=>h) (λr h J=>IJ r h) X.tup (λh=>nomatch h) k
section
variable(X:aW g σ st)(hs:14<=st.stage){o e:E}{i:Nat}{v:V}
include X hs
theorem mR(h:Ev m σ o (.ref g.nodes)):Ev m σ (.attr o 23) (.ref g.plan):=aE h (X.at .nodes (aM hs)) rfl rfl rfl
theorem vx(h:Ev m σ o (.ref g.nodes)):Ev m σ (.attr o 21) (.ref g.jour):=aE h (X.at .nodes (aM hs)) rfl rfl rfl
theorem Du(h:Ev m σ o (.ref g.nodes)):Ev m σ (.attr o 22) (.ref g.cache):=aE h (X.at .nodes (aM hs)) rfl rfl rfl
theorem nS(h:Ev m σ o (.ref g.nodes))(hv:aC [(0,V.int 64),(1,.int g.B),(2,.int 2),(3,.int 16),(4,.int g.d),(5,.int (bV g.d)),(6,.int (Int.fdiv 64 (bV g.d))),(7,.int 16),(8,.int 2),(9,.int 18),(10,.int 19),(11,.int 20)] i=some v)(hi:Vl i 100=true:=by rfl)(hb:v.noBi=true:=by rfl):Ev m σ (.attr (.attr o 23) i) v:=
 aE (mR X hs h) (X.at .plan (aM hs)) hv hi hb
end
theorem dr(X:aW g σ st)(hs:14<=st.stage)(h0:0<=n)(h1:n<32)(k:∀r,σ r=none->Q (.ref r) (σ.put r (.tuple [.int 19,.int (n.toNat/8:Nat),.int (2^(n.toNat%8):Nat)]))):tb.cf (N+1) 201 [.ref g.plan,.int n] Q σ:=by
 refine pD (db (bj (w:=.int (n.toNat/8:Nat)) (zk (aB rfl) aN (by decide)) ?_) (cO (C5 (aG (bj (w:=.int 19) (aY (aE (aB rfl) (X.at .plan (aM hs)) rfl rfl rfl) (gP (aB rfl) (aE (aB rfl) (X.at .plan (aM hs)) rfl rfl rfl) (by decide) ?_)) ?_) (aG (bj (w:=.int (n.toNat/8:Nat)) (i5 (aB rfl) (aE (aB rfl) (X.at .plan (aM hs)) rfl rfl rfl) (by decide)) ?_) (aG (bj (w:=.int (2^(n.toNat%8):Nat)) (FV aN (mf (aB rfl) aN) ?_) ?_) aI))) rfl k)))
 ·rw [Int.fdiv_eq_ediv_of_nonneg _ (by decide)];congr 1;exact RX h0
 ·exact Ab (by decide)
 ·rw [Int.fdiv_eq_ediv_of_nonneg _ (by decide)];congr 1;exact KL h1
 ·rw [Int.fmod_eq_emod_of_nonneg _ (by decide)];congr 1;exact Re h1
 ·exact J9 h0▸⟨by exact Om,by exact Oi,by decide⟩
 ·rw [J9 h0];rw [show(n%8).toNat=n.toNat%8 by lia,Int.one_mul];push_cast;rfl
end
end
section
section
variable{g:Fx}{p:H}{st st':St}{N:Nat}{Q:V->H->Prop}{P:Fl->Fs->H->Prop}{n:Int}{m:Fs}{b:List UInt8}{ss:Ss}{e:E}{i j:Nat}
def aU.s(S:aU st st')(h:14<=st.stage):14<=st'.stage:=by rw [congrArg (λx=>x.stage) S.hi];exact h
def Sm.s(S:Sm st st')(h:14<=st.stage):14<=st'.stage:=by rw [congrArg Nd.stage S.nd];exact h
def aU.c(S:aU st st')(h:st.calls≠0):st'.calls≠0:=by rw [congrArg (λx=>x.calls) S.hi];exact h
def ui(h:18<=n)(b:n<g.B)(B:g.B<=26):n∈rx:=Jl h (Int.lt_of_lt_of_le ‹_› ‹_›)
def gL(X:aW g p st)(I:Inv g st none)(h:14<=st.stage)(s:aC m 0=some (.ref g.nodes))(u:Ev m p e (.int n))(c:18<=n)(r:n<g.B)
  (k:∀b st',aW g b st'->bv g p st b st'->Inv g st' (some n)->aU st st'->aZ (tb.cx (N+3)) (N+3) ss P (bB m j (.ref (st'.abuf n))) b):
  aZ (tb.cx (N+3)) (N+3) (.cons (.asg (.v j) (.mc (.attr (.v 0) 22) 203 (.cons e .nil))) ss) P m p:=
 bX (b8 (Du X h (aB s)) (X.at .cache (aM h)) kY rfl rfl (aG u aI) (mU X I (v9 c) r (ui c r I.B26) k))
def Inv.cln(I:Inv g st none)(b:18<=n)(c:n<g.B):n∈st.nums\/cont st n=(st.latest n).getD bM:=by
 by_cases h:n∈st.nums
 ·exact .inl h
 ·refine .inr ?_;unfold cont;generalize j:st.has n=k;induction k with
  |false=>rfl
  |true=>exact I.clean n b c h (λe=>nN e) j
def lM(X:aW g p st)(I:Inv g st (some n))(j:14<=st.stage)(r:aC m 0=some (.ref g.nodes))(s:aC m i=some (.ref (st.abuf n)))(u:18<=n->n<g.B->n∈st.nums\/st.data n=(st.latest n).getD bM)
  (k:∀h st',aW g h st'->bv g p st h st'->Inv g st' none->aU st st'->aZ (tb.cx (N+2)) (N+2) ss P m h):
  aZ (tb.cx (N+2)) (N+2) (.cons (.ex (.mc (.attr (.v 0) 22) 111 (.cons (.v i) .nil))) ss) P m p:=
 cH (b8 (Du X j (aB r)) (X.at .cache (aM j)) eO rfl rfl (aG (aB s) aI) (gi X I u λh st' a b c d=>⟨rfl,k h st' a b c d⟩))
theorem aU.cln{b:St}(I:Inv g b none)(J:Inv g st (some n))(S:aU b st)(c:18<=n)(h:n<g.B):n∈st.nums\/st.data n=(st.latest n).getD bM:=by
 have j:=congrArg (λx=>x.nums) S.hi;rw [j,(congrArg (λx=>x.latest) S.hi),<-bU (J.held n (aay _)),S.cont];exact I.cln c h
def Cf(X:aW g p st)(I:Inv g st (some n))(c:14<=st.stage)(h:18<=n)(w:n<g.B)(x:st.calls≠0)(s:aC m 0=some (.ref g.nodes))(u:aC m i=some (.ref (st.abuf n)))
  (k:∀b st',aW g b st'->bv g p st b st'->Inv g st' none->Sm st st'->aZ (tb.cx (N+3)) (N+3) ss P m b):
  aZ (tb.cx (N+3)) (N+3) (.cons (.ex (.mc (.attr (.v 0) 21) 103 (.cons (.v i) .nil))) (.cons (.ex (.mc (.attr (.v 0) 22) 111 (.cons (.v i) .nil))) ss)) P m p:=
 cH (b8 (vx X c (aB s)) (X.at .jour (aM c)) uo rfl rfl (aG (aB u) aI) (rB X I h w x λy z A B C v D G=>⟨rfl,lM (N:=N+1) A C (v.s c) s (by exact G▸u) (λK K=>.inl D) λj r J M O Q=>k j r J (B.trans M) O (v.trans Q.sm)⟩))
noncomputable def cT(c:Int->List UInt8)(n:Int)(b:List UInt8):Int->List UInt8:=λk=>if k=n then b else c k
def lA{c g:St}{b:List UInt8}(S:aU st c)(j:c.has n=true)(h:Sm (c.dt n b) g):Up st g (cT (cont st) n b):=by
 refine⟨h.nd.trans S.sm.nd,h.lat.trans S.sm.lat,h.kep.trans S.sm.kep,h.unf.trans S.sm.unf,λk=>?_⟩;rw [h.cont,Er j,S.cont];rfl
def oY(X:aW g p st)(I:Inv g st none)(h:14<=st.stage)(J:st.calls≠0)(M:18<=n)(C:n<g.B)
  (k:∀c st',aW g c st'->bv g p st c st'->Inv g st' none->Up st st' (cT (cont st) 19 (flip (cont st 19) n))->Q .none c):tb.cf (N+4) 387 [.ref g.nodes,.int n] Q p:=by
 have s:=I.B26;have u:=I.B24;refine ml (fL (b8 (mR X h (aB rfl)) (X.at .plan (aM h)) b9 rfl rfl (aG (aB rfl) aI) (dr X h (v9 M) (l_8 C s) λr D=>za (R:=λm=>aZ _ _ _ _ m _) (H.put_same ..) rfl (by decide) ?_)));refine gL (n:=19) (X.new D) I h rfl (aB rfl) (by decide) (yD u) λO y v U z x=>?_
 have b:=z.held 19 rfl;have w:=z.len 19 b;have G:n.toNat/8<64:=by exact Ul C s
 refine r8 (bj (M7 (cC (aE (aB rfl) (v.at (.buf 19) b) rfl rfl rfl) (aB rfl) (jJ (v.at (.dat 19) b) rfl (by rw [w];exact G) (by rw [w];decide))) (aB rfl)) (congrArg V.int (Fc ⟨_,g3 ..⟩ ⟨n.toNat%8,W6 _ (by decide)⟩))) (aE (aB rfl) (v.at (.buf 19) b) rfl rfl rfl) (aB rfl) (AJ (v.at (.dat 19) b) ⟨by exact Int.natCast_nonneg _,by exact Ke G⟩ (by rw [w];assumption) ⟨by exact Int.natCast_nonneg _,by exact Sx (AH (g3 (y.data 19) (n.toNat/8)) (W6 n.toNat (by decide:8>0)))⟩ (by rw [w];decide) (zy (P:=λp=>aZ _ _ _ _ _ p) v b λY X2 E2=>?_));refine Cf (N:=N) X2 (z.dt (by simp [w])) (x.s h) (by decide) (yD u) (x.c J) rfl rfl λA B X3 E3 I3 S3=>bE (k A B X3 (((bv.new D).trans U).trans (E2.trans E3)) I3 ((lA x b S3).cast λj=>?_))
 unfold cT;by_cases e:j=19
 ·rw [eX e,eX e,<-x.cont,bU b];rfl
 ·rw [if_neg e,if_neg e]
def EM(X:aW g p st)(h:st.has n=true)(j:(st.data n).length=64)(k:∀b,aW g b (st.dt n bM)->bv g p st b (st.dt n bM)->Q .none b):tb.cf (N+1) 530 [.ref (st.abuf n)] Q p:=by
 refine pj (Ho (v:=.bytes bM) (wh (aG (cp (aG (aE (aB rfl) (X.at (.buf n) h) rfl rfl rfl) aI) (H3 (X.at (.dat n) h) (by rw [j];decide))) aI) λQ q=>?_) (aE (aB rfl) (X.at (.buf n) h) rfl rfl rfl) aN aN (Hr (a:=0) (c:=64) (X.at (.dat n) h) (by rw [j];decide) rfl (by show some _=_;rw [j]) ⟨by decide,by decide⟩ ?_))
 ·exact j▸⟨by decide,by decide,q⟩
 ·have:(st.data n).take 0++bM++(st.data n).drop 64=bM:=by rw [V9 (by exact j▸oP _)];rfl
  rw [this];exact zy (P:=λp=>aZ _ _ _ _ _ p) X h λb m r=>bE (k b m r)
def p8(X:aW g p st)(I:Inv g st none)(s:14<=st.stage)(x:st.calls≠0)(u:18<=n)(v:n<g.B)
  (k:∀b st',aW g b st'->bv g p st b st'->Inv g st' none->Up st st' (cT (cont st) n bM)->Q .none b):tb.cf (N+4) 401 [.ref g.nodes,.int n] Q p:=by
 refine jo (gL X I s rfl (aB rfl) u v λy z w A h j=>?_);have c:=h.held n rfl;refine cH (b8 (aB rfl) (w.at (.buf n) c) ur rfl rfl aI (EM w c (h.len n c) λB C D=>⟨rfl,?_⟩));exact Cf (N:=N) C (h.dt rfl) (j.s s) u v (j.c x) rfl rfl λm r G J M O=>bE (k m r G (A.trans (D.trans J)) M (lA j c O))
end
end
section
section
variable{g:Fx}{u:H}{st st':St}{N:Nat}{Q:V->H->Prop}{P:Fl->Fs->H->Prop}{n:Int}{m:Fs}{b:List UInt8}{ss:Ss}{e:E}{i j:Nat}
def yC(X:aW g u st)(b:10<=st.stage)(c:st.nums.length<=1000)(q:Q (.int (15-st.nums.length)) u):tb.cf (N+1) 830 [.ref g.jour] Q u:=by
 refine pu (cY (cI (aE (aB rfl) (X.at .jour (aM b)) rfl rfl rfl) (cp (aG (aE (aB rfl) (X.at .jour (aM b)) rfl rfl rfl) aI) (lenL (X.at .nums (aM b)) (by rw [eS];exact gD (by assumption) (by decide))))) ?_);rw [eS];exact q
noncomputable def Dw(f:Int->Option V)(ys:List Int)(i:Nat):List V:=((ys.take i).filter λy=> !(f y).isSome).map .int
def AM{f:Int->Option V}{ys:List Int}{i:Nat}(h:i<ys.length):Dw f ys (i+1)=if (f ys[i]).isSome then Dw f ys i else Dw f ys i++ [.int ys[i]]:=by
 unfold Dw;rw [Gd h,V0,Lo];generalize h:(f ys[i]).isSome=b;induction b
 ·rw [V4 (by rw [h];rfl)];rfl
 ·rw [WP (by rw [h];decide)];exact U9 _
def DM{x:Cx}{g:Nat}{j:VY}{l r:E}{A B:Ss}(h:xE x g m l (λa u=>xE x g m r (λb u=>cr j a b (λv u=>bH v (λc u=>if c then aZ x g A (mG x g ss P) m u else aZ x g B (mG x g ss P) m u) u) u) u) u):aZ x g (.cons (.ite (.cmp j l r) A B) ss) P m u:=h
def Hz{e r:E}{p:iS}{f:Int->Option V}{k:Int}(b:Ev m u e (.int k))(c:Ev m u r (.ref p))(hp:u p=some (.idict f)):fc m u (.cmp .NotIn e r) (!(f k).isSome):=
 iq b c λQ q=>by delta cr Jp;dsimp only;refine hp▸ ?_;exact q
def cW{p:iS}{xs:List Int}(X:aW g u st)(I:Inv g st none)(A:14<=st.stage)(hc:st.calls≠0)(hp:u p=some (.list (xs.map .int)))(hl:xs.length<=1000)(m:∃a b:Int,∀z∈xs,z=a\/z=b)(hx:∀x∈xs,18<=x/\x<g.B)
  (k:∀c,aW g c st->bv g u st c st->Q .none c):tb.cf (N+2) 323 [.ref g.nodes,.ref p] Q u:=by
 have G:=I.B26;have h8:=I.nums8;refine kz (dH (jV (aE (vx X A (aB rfl)) (X.at .jour (aM A)) rfl rfl rfl) aN) (decide_eq_false hc) ?_);refine bX (σ:=u) ⟨rfl,aB rfl (tb.cx (N+1)) (N+1) _ ?_⟩;show(match u p with|some (.list xs)=>xs.all V.isInt=true/\xs.length<=1000/\_|_=>False);rw [hp];have B:∀z,V.int z∈xs.map .int->z∈xs:=λz h=>by
  obtain⟨x,w,m⟩:=List.mem_map.mp h;cases m;exact w
 refine⟨List.all_eq_true.mpr λv hv=>?_,by rw [eS];exact hl,λz Y=>?_,let ⟨a,b,h⟩:=m;⟨a,b,λz Y=>h z (B z Y)⟩,λj M hm=>?_⟩
 ·obtain⟨x,_,rfl⟩:=List.mem_map.mp hv;rfl
 ·have:=hx z (B z Y);exact KY this G
 have hy:∀y∈j,18<=y/\y<g.B:=λy h=>by
  obtain⟨x,w,m⟩:=List.mem_map.mp ((hm y).mp h);cases m;exact hx y w
 have C:(Dw st.noted j j.length).length<=15-st.nums.length:=by
  unfold Dw;rw [eS,UV]
  have:(j.filter (λy=> !(st.noted y).isSome)++st.nums).length<=([18,19,20,21,22,23,24,25]:List Int).length:=bZ (List.nodup_append.mpr ⟨M.filter _,I.nodup,λa ha b hb e=>by
   subst e;have:=(List.mem_filter.mp ha).2;rw [(I.note a).mpr hb] at this
   exact fT this⟩) λx h=>by
    have:=(List.mem_append.mp h).elim (λh=>hy x (List.mem_filter.mp h).1) λh=>let ⟨a,b,_⟩:=I.num x h;⟨a,b⟩
    simp only [VT,WM,or_false];exact NA this G
  rw [pS] at this;exact MY this
 refine dM j.length (λi=>.int (j[i]?.getD 0)) (λi s c=>c=u/\s=Dw st.noted j i) (λi s c J O=>?_) (λs c J=>?_) (λi s c D O I' kI=>?_) (λs c D r hr=>?_) ⟨rfl,rfl⟩
 ·show some ((j[i]?).map V.int)=_;rw [yS O];rfl
 ·show some ((j[j.length]?).map V.int)=_;rw [Vz (oP _)];rfl
 ·obtain⟨w,m⟩:=D;subst w m;rw [yS O];refine⟨_,rfl,Hz (aB rfl) (aE (vx X A (aB rfl)) (X.at .jour (aM A)) rfl rfl rfl) (X.at .noted (aM A)) _ _ _ ?_⟩;have e:=AM (f:=st.noted) O;show if (!(st.noted j[i]).isSome)=true then _ else _;generalize h:(st.noted j[i]).isSome=zz;induction zz with
  |true=>rw [h] at e;exact kI _ _ ⟨rfl,e.symm⟩
  |false=>
   rw [h] at e;refine⟨?_,kI _ _ ⟨rfl,e.symm⟩⟩;unfold Dw;rw [eS];exact gD (Ve ..) (gD (Xh ..) (gD (oP _) (gD (bZ (L:=xs) M λx h=>by obtain⟨y,w,m⟩:=List.mem_map.mp ((hm x).mp h);cases m;exact w) (by(clear h e;exact gD (by assumption) (by decide))))))
 ·obtain⟨w,m⟩:=D;subst w m;have U:=X.new (o:=.list (Dw st.noted j j.length)) hr;refine DM (cp (aG (aB rfl) aI) (lenL (xs:=Dw st.noted j j.length) (H.put_same ..) (Sh C)) _ _ _ ?_);refine b8 (vx U A (aB rfl)) (U.at .jour (aM A)) oH rfl rfl aI (yC U (aM A) (gD (by assumption) (by decide)) ?_);refine fZ (t:=false) (by exact congrArg _ (decide_eq_false (by exact Nu h8 C))) _ ?_;exact k _ U (bv.new hr)
inductive FbI(g:Fx)(st:St)(σ:H)(n:Int)(z:Nat)(m:Fs)(σ':H):Prop
 |mk (i:Int) (h0:(z:Int)=g.B-i) (h1:n<=i) (h2:i<=g.B) (h3:(∀j,n<=j->j<i->bt (st.data 19) j=true)) (h4:aW g σ' st) (h5:bv g σ st σ' st) (h6:aC m 0=some (.ref g.nodes)) (h7:aC m 1=some (.ref (st.adat 19))) (h8:aC m 2=some (.int 19)) (h9:aC m 3=some (.int i))
def vY{n:Int}(X:aW g u st)(D:14<=st.stage)(hB:g.B<=26)(hn:st.has 19=true)(hl:(st.data 19).length=64)(h0:0<=n)(y:n<=g.B)
  (k:∀p r,aW g p st->bv g u st p st->n<=r->r<=g.B->(∀i,n<=i->i<r->bt (st.data 19) i=true)->(r<g.B->bt (st.data 19) r=false)->Q (.int r) p):tb.cf (N+2) 394 [.ref g.nodes,.ref (st.adat 19),.int 19,.int n] Q u:=by
 refine mo (IP (λz m p=>FbI g st u n z m p) (g.B-n).toNat ⟨n,by exact L8 y,Int.le_refl _,y,λj h1 h2=>by(clear y h0;lia),X,.rfl,rfl,rfl,rfl,rfl⟩ λz m aa Y I' kI=>?_);obtain⟨i,G,M,x,c,B,E1,A,h1,h2,O⟩:=Y;refine pB (aB O) (nS B D (aB A) rfl) _ _ _ ?_;by_cases w:i<g.B
 ·rw [lO w];refine fL (b8 (mR B D (aB A)) (B.at .plan (aM D)) b9 rfl rfl (aG (aB O) aI) (dr B D (Int.le_trans ‹_› ‹_›) (l_5 x hB) λr hr=>za (R:=λm=>aZ _ _ _ _ m _) (H.put_same ..) rfl (by decide) ?_));have X2:=B.new (o:=.tuple [.int 19,.int (i.toNat/8:Nat),.int (2^(i.toNat%8):Nat)]) hr;have hq:=xx (b:=st.data 19) (n:=i);have l1:=aP (i:=6) (v:=.int (2^(i.toNat%8):Nat)) (aP (i:=5) (v:=.int (i.toNat/8:Nat)) (aP (i:=4) (v:=.int 19) h1));have l2:=aP (i:=6) (v:=.int (2^(i.toNat%8):Nat)) (aP (i:=5) (v:=.int (i.toNat/8:Nat)) (aP (i:=4) (v:=.int 19) h2));have l3:=aP (i:=6) (v:=.int (2^(i.toNat%8):Nat)) (aP (i:=5) (v:=.int (i.toNat/8:Nat)) (aP (i:=4) (v:=.int 19) O));have C:=SQ (s:=false) (GI (aB (aP (i:=6) (v:=.int (2^(i.toNat%8):Nat)) (aP (i:=5) (v:=.int (i.toNat/8:Nat)) (ct (m:=m) (i:=4) (v:=.int 19))))) (aB l2)) λJ=>jV (bj (mf (cC (aB l1) (aB (aP (i:=6) (v:=.int (2^(i.toNat%8):Nat)) ct)) (jJ (X2.at (.dat 19) hn) rfl (by exact hl▸(by exact Qg G hB:i.toNat/8<64)) (by rw [hl];decide))) (aB ct)) (congrArg V.int hq)) (aN (v:=.int 0))
  generalize U:bt (st.data 19) i=zz;induction zz with
  |true=>
   refine dH C (by rw [U];exact decide_eq_false tP) (db (aY (aB l3) aN) (bE (kI (z-1) _ _ (Mx G w) ⟨i+1,by exact LC G w,by exact GN M,by(clear c x M G;assumption),λj h4 h5=>?_,X2,E1.trans (bv.new hr),aP (aP (aP (aP A))),aP l1,aP l2,ct⟩)));by_cases e:j=i
   ·exact e▸U
   ·exact c j h4 (RE h5 e)
  |false=>
   refine dS C (by rw [U];rfl) (cY (aB l3) (k _ i X2 (E1.trans (bv.new hr)) M x c λJ=>U))
 ·rw [decide_eq_false w];exact cY (aB O) (k _ i B E1 M x c λh=>absurd h w)
end
end
section
def JG{x:Cx}{n:Nat}{m:Fs}{s:H}{ss b:Ss}{t:E}{Q:Fl->Fs->H->Prop}
  (h:∀g:Fs->H->Prop,xT x n m t (λc s=>if c then aZ x n b (λf m s=>match f with| .next=>g m s| .brk=>aZ x n ss Q m s| .ret v=>Q (.ret v) m s) m s else aZ x n ss Q m s) s):aZ x n (.cons (.whl t b) ss) Q m s:=λI j=>j _ _ (h I)
def EO{x:Cx}{n:Nat}{m:Fs}{s:H}{o i:E}{R:V->H->Prop}(h:xE x n m o (λa s=>xE x n m i (λb s=>g9 a b R s) s) s):xE x n m (.sub o i) R s:=h
def wY{x:Cx}{n:Nat}{m:Fs}{s:H}{l r:E}{R:Bool->H->Prop}(b:fc m s l true)(h:xT x n m r R s):xT x n m (.and2 l r) R s:=b x n _ h
def tT{m:Fs}{s:H}{e:E}{t:Bool}(h:fc m s e t)(w:t=true):fc m s e true:=w▸h
def oh{x:Cx}{n:Nat}{m:Fs}{s:H}{c:VY}{l r:E}{R:Bool->H->Prop}(h:xE x n m l (λa s=>xE x n m r (λb s=>cr c a b (λv s=>bH v R s) s) s) s):xT x n m (.cmp c l r) R s:=h
section
variable{g:Fx}{s:H}{st st':St}{N:Nat}{Q:V->H->Prop}{P:Fl->Fs->H->Prop}{n:Int}{m:Fs}{b:List UInt8}{ss:Ss}{e:E}{i j:Nat}
def gl(X:aW g s st)(I:Inv g st none)(b:14<=st.stage)(O:st.calls≠0)(hf:∃f,20<=f/\f<g.B/\bt (cont st 19) f=false)
  (k:∀m st' r,aW g m st'->bv g s st m st'->Inv g st' none->20<=r->r<g.B->bt (cont st 19) r=false->Up st st' (cT (cT (cont st) 19 (flip (cont st 19) r)) r bM)->Q (.int r) m):tb.cf (N+5) 380 [.ref g.nodes] Q s:=by
 have ab:=I.B24;refine jU (db (nS X b (aB rfl) rfl) (JG λI'=>pB (aB rfl) (nS X b (aB rfl) rfl) _ _ _ ?_));rw [lO (by lia:(20:Int)<g.B)];refine bX (EO (b8 (mR X b (aB rfl)) (X.at .plan (aM b)) b9 rfl rfl (aG (aB rfl) aI) (dr X b (by decide) (by decide) λr hr=>sf (v:=.int 19) (H.put_same ..) ⟨by decide,by decide⟩ rfl _ ?_)));refine gL (N:=N+1) (n:=19) (X.new hr) I b rfl (aB rfl) (by decide) (by lia) λac ae U E1 J w=>?_
 have M:=J.held 19 rfl;have A:=(w.cont 19).symm.trans (bU M);rw [A] at hf k;have B:=I.B26;refine bX (b8 (aB rfl) (U.at .nodes (aM (w.s b))) pw rfl rfl (aG (aE (aB rfl) (U.at (.buf 19) M) rfl rfl rfl) (aG (aB rfl) (aG (aB rfl) aI))) (vY (N:=N+2) U (w.s b) B M (J.len 19 M) (by decide) (by lia) λaf f X2 E2 y h2 h3 h4=>?_));refine dQ hf λu u1 u2 u3=>?_
 refine lM (N:=N+2) X2 J (w.s b) rfl rfl (aU.cln I J w) λag ah C E3 I3 S3=>?_
 have S:=w.trans S3;have c:f<g.B:=by
  refine BS λh=>?_
  exact xF (h3 u u1 (by exact l_3 u2 h)▸u3)
 refine Dz (wY (tT (pB (aB rfl) (nS C (S.s b) (aB rfl) rfl)) (lO c)) (oh (EO (b8 (mR C (S.s b) (aB rfl)) (C.at .plan (aM (S.s b))) b9 rfl rfl (aG (aB rfl) aI) (dr C (S.s b) (GC y) (l_5 h2 B) λr2 D=>sf (v:=.int 19) (H.put_same ..) ⟨by decide,by decide⟩ rfl _ (aB rfl _ _ _ (fZ (t:=true) rfl _ ?_)))))));have X4:=C.new (o:=.tuple [.int 19,.int (f.toNat/8:Nat),.int (2^(f.toNat%8):Nat)]) D;refine cH (lr (aB rfl) (X4.at .nodes (aM (S.s b))) rfl rfl ck (bJ (gj (aG (aB rfl) (aG (aB rfl) aI)) rfl λp hp=>cW (N:=N+2) (xs:= [19,f]) (X4.new hp) I3 (S.s b) (S.c O) (H.put_same ..) (by exact Nat.le_add_left ..) ⟨19,f,λz hz=>by simpa using hz⟩ (λx hx=>?_) λai X5 E5=>⟨rfl,?_⟩)))
 ·rcases List.mem_cons.mp hx with rfl|hx
  ·exact⟨by decide,by exact Uw y c⟩
  ·exact List.mem_singleton.mp hx▸⟨by exact HW y,c⟩
 refine cH (b8 (aB rfl) (X5.at .nodes (aM (S.s b))) ib rfl rfl (aG (aB rfl) aI) (oY (N:=N) X5 I3 (S.s b) (S.c O) (HW y) c λaj ak X6 E6 I6 G=>⟨rfl,?_⟩));refine cH (b8 (aB rfl) (X6.at .nodes (aM (G.stage▸S.s b))) kK rfl rfl (aG (aB rfl) aI) (p8 (N:=N) X6 I6 (G.stage▸S.s b) (G.calls▸S.c O) (HW y) c λY aa X7 E7 I7 U7=>⟨rfl,?_⟩));refine cY (aB rfl) (k Y aa f X7 ?_ I7 y c (h4 c) (((S.sm.up.trans G).trans U7).cast λj=>?_))
 ·exact(((bv.new hr).trans E1).trans (E2.trans E3)).trans (((bv.new D).trans ((bv.new hp).trans E5)).trans (E6.trans E7))
 ·unfold cT;by_cases e:j=f
  ·rw [eX e,eX e]
  ·rw [if_neg e,if_neg e,G.cont];unfold cT;by_cases e:j=19
   ·rw [eX e,eX e,S.cont,A]
   ·rw [if_neg e,if_neg e,S.cont]
def rL(X:aW g s st)(I:Inv g st none)(b:14<=st.stage)(M:st.calls≠0)(u:20<=n)(h:n<g.B)(O:bt (cont st 19) n=true)
  (k:∀c st',aW g c st'->bv g s st c st'->Inv g st' none->Up st st' (cT (cont st) 19 (flip (cont st 19) n))->Q .none c):tb.cf (N+5) 408 [.ref g.nodes,.int n] Q s:=by
 have w:=I.B26;refine jO (dH (rC (t:=true) (AY (nS X b (aB rfl) rfl) (aB rfl) (nS X b (aB rfl) rfl) u (SR h))) rfl ?_);refine fL (b8 (mR X b (aB rfl)) (X.at .plan (aM b)) b9 rfl rfl (aG (aB rfl) aI) (dr X b (GC u) (l_8 h w) λr U=>za (R:=λm=>aZ _ _ _ _ m _) (H.put_same ..) rfl (by decide) ?_));refine gL (N:=N+1) (n:=19) (X.new U) I b rfl (aB rfl) (by decide) (Uw u h) λaa C D E1 y A=>?_
 have B:=y.held 19 rfl;have Y:=y.len 19 B;rw [((A.cont 19).symm.trans (bU B))] at O;have hq:OP (oct (C.data 19) (n.toNat/8)) ((2^(n.toNat%8):Nat):Int)=((2^(n.toNat%8):Nat):Int):=by rw [xx,O];rfl
 refine db (v:=.bool true) (oN (mf (cC (aE (aB rfl) (D.at (.buf 19) B) rfl rfl rfl) (aB rfl) (jJ (D.at (.dat 19) B) rfl (by rw [Y];exact Ul h w) (by rw [Y];decide))) (aB rfl)) aN (fZ (by rw [hq];exact congrArg _ (lO tP)))) ?_;refine lM (N:=N+2) D y (A.s b) rfl rfl (aU.cln I y A) λab ac X3 E3 I3 S3=>?_
 have S:=A.trans S3;refine dH (rC (t:=true) (tV rfl)) rfl ?_;refine cH (lr (aB rfl) (X3.at .nodes (aM (S.s b))) rfl rfl ck (bJ (gj (aG (aB rfl) aI) rfl λp hp=>cW (N:=N+2) (xs:= [19]) (X3.new hp) I3 (S.s b) (S.c M) (H.put_same ..) (by decide) ⟨19,19,λz hz=>by simpa using hz⟩ (λx hx=>?_) λae X5 E5=>⟨rfl,?_⟩)))
 ·exact List.mem_singleton.mp hx▸⟨by decide,by exact Uw u h⟩
 refine cH (b8 (aB rfl) (X5.at .nodes (aM (S.s b))) ib rfl rfl (aG (aB rfl) aI) (oY (N:=N) X5 I3 (S.s b) (S.c M) (HW u) h λG J X6 E6 I6 U6=>⟨rfl,bE (k G J X6 ?_ I6 ((S.sm.up.trans U6).cast λj=>?_))⟩))
 ·exact(((bv.new U).trans E1).trans E3).trans (((bv.new hp).trans E5).trans E6)
 ·unfold cT;rw [S.cont,S.cont]
noncomputable def frees(b:List UInt8)(i:Nat):Nat:=(oS i).countP λ(k:Nat)=> !bt b (20+(k:Int))
def xB{b:List UInt8}{i:Nat}:frees b (i+1)=frees b i+if bt b (20+(i:Int)) then 0 else 1:=by
 unfold frees;rw [Wm,Zz,XY,List.countP_nil,Wv];rcases bt b (20+(i:Int)) with⟨⟩<;>rfl
def qX(X:aW g s st)(I:Inv g st none)(O:14<=st.stage)
  (k:∀j st',aW g j st'->bv g s st j st'->Inv g st' none->aU st st'->Q (.int (frees (cont st 19) (g.B-20).toNat)) j):tb.cf (N+4) 415 [.ref g.nodes] Q s:=by
 have x:=I.B26;refine jb (db aN (Dz (pk (aG (nS X O (aB rfl) rfl) (aG (nS X O (aB rfl) rfl) aI)) ⟨rfl,by decide,by decide,by exact Lj I.B24,by exact ML x,λr A=>?_⟩)));show(match sq (.ref r) (s.put r (.rng 20 g.B)) with|some k=>_|none=>False);refine tY (H.put_same ..)▸ ?_;refine ji (g.B-20).toNat (λi=>.int (20+(i:Int))) (λi m j=>∃st',aW g j st'/\bv g s st j st'/\Inv g st' none/\aU st st'/\aC m 0=some (.ref g.nodes)/\aC m 1=some (.int (frees (cont st 19) i)))
  (λi m j J B=>?_) (λm j J=>?_) (λi m j y B I' kI=>⟨_,rfl,?_⟩) (λm j y=>?_) ⟨st,(X.new (o:=.rng 20 g.B) A),bv.new A,I,.rfl,rfl,rfl⟩
 ·exact congrArg _ (eX (by exact Fo B))
 ·show some (if _ then _ else _)=_;rw [if_neg (by exact TV)]
 ·refine LB y λC z E1 U Y D h1=>?_
  have v:=Y.s O;refine fL (b8 (mR z v (aB (aP D))) (z.at .plan (aM v)) b9 rfl rfl (aG (aB ct) aI) (dr z v (Int.natCast_nonneg _) (Ur B x) λr A=>za (R:=λm=>aZ _ _ _ _ m _) (H.put_same ..) rfl (by decide) ?_));refine gL (N:=N) (n:=19) (z.new A) U v (aP (aP (aP (aP D)))) (aB (aP (aP ct))) (by decide) (L0 B) λG w X2 E2 I2 S2=>?_
  have S:=Y.trans S2;have hn:=I2.held 19 rfl;have p:=(S.cont 19).symm.trans (bU hn);have hl:=I2.len 19 hn;have fin:∀(P:Fl->Fs->H->Prop) (u:Fs),(∀m s,I' m s->P .next m s)->aC u 0=some (.ref g.nodes)->aC u 6=some (.ref (w.abuf 19))->aC u 1=some (.int (frees (cont st 19) (i+1)))->aZ (tb.cx (N+3)) (N+3) (.cons (.ex (.mc (.attr (.v 0) 22) 111 (.cons (.v 6) .nil))) .nil) P u G:=λP u hP a b c=>
   lM (N:=N+1) X2 I2 (S.s O) a b (aU.cln U I2 S2) λab aa X3 E3 I3 S3=>bE (hP _ _ (kI _ _ ⟨aa,X3,E1.trans ((bv.new A).trans (E2.trans E3)),I3,S.trans S3,a,c⟩))
  have M:∀u:Fs,aC u 6=some (.ref (w.abuf 19))->aC u 4=some (.int ((20+(i:Int)).toNat/8:Nat))->aC u 5=some (.int (2^((20+(i:Int)).toNat%8):Nat))->fc u G (.cmp .Eq (.bin .BitAnd (.sub (.attr (.v 6) 28) (.v 4)) (.v 5)) (.k (.int 0))) _:=λu a b c=>
   jV (bj (mf (cC (aE (aB a) (X2.at (.buf 19) hn) rfl rfl rfl) (aB b) (jJ (X2.at (.dat 19) hn) rfl (by rw [hl];exact S7 B x) (by rw [hl];decide))) (aB c)) (congrArg V.int (xx (b:=w.data 19) (n:=20+(i:Int))))) aN
  have sc:=xB (b:=cont st 19) (i:=i);rw [p] at sc;cases hb:bt (w.data 19) (20+(i:Int)) with
  |true=>
   refine dH (M _ ct (aP (aP ct)) (aP ct)) (by rw [hb];exact decide_eq_false tP) (fin _ _ (λJ J h=>h) (aP (aP (aP (aP (aP D))))) ct ?_);rw [p,sc,hb,<-p];exact aP (aP (aP (aP (aP h1))))
  |false=>
   refine dS (M _ ct (aP (aP ct)) (aP ct)) (by rw [hb];rfl) (db (aY (aB (aP (aP (aP (aP (aP h1)))))) aN) (bE (Q:=mG _ _ _ _) (fin _ _ (λJ J h=>h) (aP (aP (aP (aP (aP (aP D)))))) (aP ct) ?_)));rw [p,sc,hb,<-p];exact ct
 ·refine LB y λC z E1 U Y D h1=>?_
  exact cY (aB h1) (k j C z E1 U Y)
end
end
section
structure Mp(B:Int)(bn:Nat->Int)(nb:Int)(bits:Int->Bool):Prop where
 rng:∀i,bn i=0\/20<=bn i/\bn i<B
 rngN:nb=0\/20<=nb/\nb<B
 inj:∀i j,bn i≠0->bn i=bn j->i=j
 injN:∀i,bn i≠0->bn i≠nb
 bit:∀k,20<=k->k<B->(bits k=true↔k=nb\/∃i,bn i=k)
 lim:∀i,bn i≠0->(i:Int)<B-21
noncomputable def us(bn:Nat->Int)(i:Nat)(r:Int):Nat->Int:=λj=>if j=i then r else bn j
noncomputable def N7(f:Int->Bool)(r:Int)(t:Bool):Int->Bool:=λk=>if k=r then t else f k
section
variable{B g r:Int}{bn:Nat->Int}{c:Int->Bool}{i:Nat}
def Mp.free(M:Mp B bn g c)(C:24<=B)(s:(i:Int)<B-21)(u:bn i=0):∃f,20<=f/\f<B/\c f=false:=by
 refine BS λv=>?_
 have:=bZ (l:=(oS (B-20).toNat).map λ(k:Nat)=>20+(k:Int)) (L:=g::((oS (B-21).toNat).erase i).map bn)
  (List.pairwise_map.mpr (List.nodup_range.imp λh e=>h (Mz e))) λx w=>by
   refine bp (List.mem_map.mp w) λk p b=>?_
   subst b;have p:=List.mem_range.mp p;have m:∀k,20<=k->k<B->c k=true:=λk y z=>by
    generalize h:c k=A;induction A with
    |true=>rfl
    |false=>exact absurd ⟨k,y,z,h⟩ v
   rcases(M.bit (20+(k:Int)) (Jm) (Fo p)).mp (m _ (Jm) (Fo p)) with e|⟨j,r⟩
   ·rw [e];exact FS
   ·have:=M.lim j (QO r);exact ES _ (List.mem_map.mpr ⟨j,(Xg λe=>by subst e;exact TY u r).mpr (List.mem_range.mpr (Hs this)),r⟩)
 rw [eS,tS,UP,eS,WJ (List.mem_range.mpr (by exact Hs s)),tS] at this;exact UK s this
set_option tactic.hygienic true in
def Mp.take(M:Mp B bn g c)(x:(i:Int)<B-21)(y:bn i=0)(m:20<=r)(u:r<B)(p:c r=false):Mp B (us bn i r) g (N7 c r true):=by
 have v:∀j,bn j≠r:=λj e=>by have p:=(M.bit r m u).mpr (.inr ⟨j,e⟩)▸p;exact xF p
 have z:g≠r:=λe=>by rw [(M.bit r m u).mpr (.inl e.symm)] at p;exact xF p
 refine⟨λj=>?_,M.rngN,λj k=>?_,λj=>?_,λk w A=>?_,λj=>?_⟩
 ·unfold us;split
  ·exact .inr ⟨m,u⟩
  ·exact M.rng j
 ·unfold us;by_cases s:j=i
  ·by_cases b:k=i
   ·intro _ _;rw [s,b]
   ·rw [eX s,if_neg b];intro _ e;exact absurd e.symm (v k)
  ·by_cases b:k=i
   ·rw [if_neg s,eX b];intro _ e;exact absurd e (v j)
   ·rw [if_neg s,if_neg b];exact M.inj j k
 ·unfold us;split
  ·intro _ e;exact z e.symm
  ·exact M.injN j
 ·unfold N7;by_cases e:k=r
  ·rw [eX e];exact⟨λJ=>.inr ⟨i,(eX rfl).trans e.symm⟩,λJ=>rfl⟩
  ·rw [if_neg e,M.bit k w A];constructor
   ·rintro (h|⟨j,h⟩)
    ·exact .inl h
    ·exact .inr ⟨j,(if_neg (λe=>by subst e;exact TX w y h)).trans h⟩
   ·rintro (h|⟨j,h⟩)
    ·exact .inl h
    ·unfold us at h;by_cases b:j=i
     ·rw [eX b] at h;exact absurd h.symm e
     ·rw [if_neg b] at h;exact .inr ⟨j,h⟩
 ·unfold us;split
  ·rename_i e;intro _;exact e▸x
  ·exact M.lim j
def Mp.names(M:Mp B bn 0 c)(b:20<=r)(g:r<B)(m:c r=false):Mp B bn r (N7 c r true):=by
 refine⟨M.rng,.inr ⟨b,g⟩,M.inj,λj J=>(λj e=>by exact nomatch ((M.bit r b g).mpr (.inr ⟨j,e⟩)▸m):∀j,bn j≠r) j,λk p s=>?_,M.lim⟩;unfold N7;by_cases e:k=r
 ·rw [eX e];exact⟨λJ=>.inl e,λJ=>rfl⟩
 ·rw [if_neg e,M.bit k p s];constructor
  ·rintro (h|h)
   ·lia
   ·exact .inr h
  ·rintro (h|h)
   ·exact absurd h e
   ·exact .inr h
def Mp.cong(M:Mp B bn g c){f:Int->Bool}(h:∀k,20<=k->k<B->f k=c k):Mp B bn g f:=⟨M.rng,M.rngN,M.inj,M.injN,λk a b=>by exact h k a b▸M.bit k a b,M.lim⟩
set_option tactic.hygienic true in
def Mp.count(M:Mp B bn g c)(O:24<=B):(oS (B-20).toNat).countP (λ(k:Nat)=>c (20+(k:Int)))=(oS (B-21).toNat).countP (λi=>decide (bn i≠0))+(if g=0 then 0 else 1):=by
 have e1:(oS (B-20).toNat).countP (λ(k:Nat)=>c (20+(k:Int)))=(((oS (B-20).toNat).map λ(k:Nat)=>20+(k:Int)).filter c).length:=by
  rw [<-Wn,aaz];rfl
 have z:(oS (B-21).toNat).countP (λi=>decide (bn i≠0))+(if g=0 then 0 else 1)=((if g=0 then [] else [g])++((oS (B-21).toNat).filter λi=>decide (bn i≠0)).map bn).length:=by
  rw [pS,eS,<-Wn];split<;>simp [Nat.add_comm]
 refine e1▸ ?_;rw [z];have A:((if g=0 then [] else [g])++((oS (B-21).toNat).filter λi=>decide (bn i≠0)).map bn).Nodup:=by
  refine List.nodup_append.mpr ⟨by split<;>simp,List.pairwise_map.mpr ((List.nodup_range.filter _).imp_of_mem λ{a b} C v h e=>h (M.inj a b (by exact EX (List.mem_filter.mp C).2) e)),λx p y D e=>?_⟩;refine bp (List.mem_map.mp D) λj u r=>?_
  subst r;have:=EX (List.mem_filter.mp u).2;split at p
  ·exact nomatch p
  ·exact M.injN j this (e.symm.trans (List.mem_singleton.mp p))
 refine Nat.le_antisymm (bZ ((List.pairwise_map.mpr (List.nodup_range.imp λh e=>h (Mz e)):List.Nodup _).filter _) λx p=>?_) (bZ A λx p=>?_)
 ·obtain⟨p,v⟩:=List.mem_filter.mp p;refine bp (List.mem_map.mp p) λk G s=>?_
  subst s;rcases(M.bit _ (by exact Jm) (by exact Fo (List.mem_range.mp G))).mp v with e|⟨j,u⟩
  ·refine VF _ ?_;rw [if_neg (by exact Ue e),e];exact .head _
  ·have w:bn j≠0:=by exact QO u
   exact VA _ (List.mem_map.mpr ⟨j,List.mem_filter.mpr ⟨List.mem_range.mpr (Hs (M.lim j w)),lO w⟩,u⟩)
 ·have m:20<=x/\x<B/\c x=true:=by
   rcases List.mem_append.mp p with h|h
   ·split at h
    ·exact nomatch h
    ·rename_i J;refine List.mem_singleton.mp h▸ ?_;obtain⟨a,b⟩:=M.rngN.resolve_left J;exact⟨a,b,(M.bit g a b).mpr (.inl rfl)⟩
   ·obtain⟨j,u,rfl⟩:=List.mem_map.mp h;obtain⟨a,b⟩:=(M.rng j).resolve_left (EX (List.mem_filter.mp u).2);exact⟨a,b,(M.bit _ a b).mpr (.inr ⟨j,rfl⟩)⟩
  exact List.mem_filter.mpr ⟨List.mem_map.mpr ⟨(x-20).toNat,List.mem_range.mpr (L2 m.1 m.2.1),by exact NY m.1 m.2.1⟩,m.2.2⟩
def Mp.none{f:Int->Bool}(h:∀k,20<=k->k<B->f k=false):Mp B (λJ=>0) 0 f:=⟨λJ=>.inl rfl,.inl rfl,λJ J h=>absurd rfl h,λJ h=>absurd rfl h,λk c g=>by exact h k c g▸⟨(λh=>fT h),λh=>h.elim (λh=>by lia) λb=>by obtain⟨_,h⟩:=b;exact by lia⟩,λJ h=>absurd rfl h⟩
end
end
section
section
variable{g:Fx}{A:H}{st st':St}{N:Nat}{Q:V->H->Prop}{P:Fl->Fs->H->Prop}{n:Int}{m:Fs}{b:List UInt8}{ss:Ss}{e:E}{i j:Int}{p:iS}{k w:Nat}
def i8(hp:A p=some (.ba b))(m:i=(k:Int))(r:j=(w:Int))(c:k+1<b.length)(g:b.length<=1000)(q:Q .none (A.put p (.ba (bk b k w)))):tb.cf (N+1) 130 [.ref p,.int i,.int j] Q A:=by
 subst m r;have s:OP (Int.fdiv (w:Int) (2^(8:Int).toNat)) 255=((w/256%256:Nat):Int):=by
  rw [Int.fdiv_eq_ediv_of_nonneg _ (by decide),xK (by exact(Int.natCast_nonneg _:(0:Int)<=(w:Int)/256))];rfl
 have h:OP (w:Int) 255=((w%256:Nat):Int):=by exact(xK (Int.natCast_nonneg _))
 refine vg (r8 (bj (mf (aB rfl) aN) (congrArg V.int h)) (aB rfl) (aB rfl) (AJ hp ⟨by exact Un,by exact Kx c g⟩ (XM ‹_›) ⟨by exact Int.natCast_nonneg _,by exact Tt⟩ (gD (by assumption) (by decide)) ?_));refine r8 (bj (mf (zk (aB rfl) aN (by decide)) aN) (congrArg V.int s)) (aB rfl) (aY (aB rfl) aN) (AJ (H.put_same ..) ⟨by exact Int.natCast_nonneg _,by exact OD c g⟩ (by rw [Wo];assumption) ⟨by(clear h;exact Int.natCast_nonneg _),by exact TG⟩ (by rw [Wo];exact gD (by assumption) (by decide)) (bE ?_));rw [pL,(by rfl:((k:Int)+1).toNat=k+1)];exact q
def oe(hp:A p=some (.ba b))(h:i=(k:Int))(m:j=(w:Int))(c:k+3<b.length)(g:b.length<=1000)(q:Q .none (A.put p (.ba (bO b k w)))):tb.cf (N+2) 137 [.ref p,.int i,.int j] Q A:=by
 subst h m;have r:OP (Int.fdiv (w:Int) (2^(16:Int).toNat)) 65535=((w/65536%65536:Nat):Int):=by
  rw [Int.fdiv_eq_ediv_of_nonneg _ (by decide),w5 (by exact(Int.natCast_nonneg _:(0:Int)<=(w:Int)/65536))];rfl
 refine wj (cH (kN (aG (aB rfl) (aG (aB rfl) (aG (bj (mf (aB rfl) aN) (congrArg V.int (by exact(w5 (Int.natCast_nonneg _)):OP (w:Int) 65535=((w%65536:Nat):Int)))) aI))) iI iX (i8 hp rfl rfl (KF c) g ⟨rfl,?_⟩)));refine cH (kN (aG (aB rfl) (aG (aY (aB rfl) aN) (aG (bj (mf (zk (aB rfl) aN (by decide)) aN) (congrArg V.int r)) aI))) iI iX (i8 (k:=k+2) (H.put_same ..) rfl rfl (by rw [aV];exact T2 c) (by rw [aV];exact TU g) ⟨rfl,bE ?_⟩));rw [pL];exact q
noncomputable def hK(b:List UInt8)(a:Nat):List Int->List UInt8
 | []=>b
 |x::r=>hK (bO b a x.toNat) (a+4) r
theorem gG:∀ {l:List Int} {b:List UInt8} {a:Nat},(hK b a l).length=b.length
 | [],_,_=>rfl
 |x::r,b,a=>by unfold hK;rw [gG,bP]
theorem sp:∀ {l:List Int} {b:List UInt8} {a:Nat} {x:Int},hK b a (l++ [x])=bO (hK b a l) (a+4*l.length) x.toNat
 | [],b,a,x=>rfl
 |y::r,b,a,x=>by
  show hK (bO b a y.toNat) (a+4) (r++ [x])=_;rw [sp,UP,show a+4+4*r.length=a+4*(r.length+1) by exact TP];rfl
theorem jK:∀ {l:List Int} {b:List UInt8} {a c:Nat},a+4*l.length<=b.length->c<a\/a+4*l.length<=c->oct (hK b a l) c=oct b c
 | [],_,_,_,_,_=>rfl
 |x::r,b,a,c,h,g=>by
  rw [UP] at h g;unfold hK;exact(jK (by rw [bP];exact H8 h) (by exact Tj g)).trans ((cD (by exact Sl h)).trans ((if_neg (by exact Ti g))))
def zf{b c:List UInt8}{i:Nat}(h:∀j,i<=j->j<i+4->oct b j=oct c j):dK b i=dK c i:=by
 delta dK fh;rw [h i (by exact Uy) (by exact T6),h (i+1) (NM _ _) (by exact Ui),h (i+2) (NM _ _) (WH _),h (i+2+1) (by exact Tm) (Wj _)]
theorem wi:∀ {l:List Int} {b:List UInt8} {a i:Nat} (g:i<l.length),a+4*l.length<=b.length->(∀x∈l,0<=x/\x<4294967296)->(dK (hK b a l) (a+4*i):Int)=l[i]
 |x::r,b,a,0,g,h,k=>by
  have:=k x FS;rw [UP] at h;unfold hK;rw [zf (c:=bO b a x.toNat) λj s m=>jK (by rw [bP];exact H8 h) (by exact UN m),Nat.mul_zero,abA,gT (by exact Sl h) (by exact Pu this)];exact Tc this
 |x::r,b,a,i+1,g,h,k=>by
  rw [UP] at h;rw [show a+4*(i+1)=a+4+4*i by exact UL];exact wi (by simpa using g) (by rw [bP];exact H8 h) λy p=>k y (ES _ p)
noncomputable def jN(b:List UInt8)(a:Nat)(s:Nd):List UInt8:=hK (bO (bk (bk (bk (bk b a 2) (a+2) 0) (a+4) 0) (a+6) 1) (a+8) s.size.toNat) (a+12) s.places
structure Pl(g:Fx)(s:Nd):Prop where
 kd:s.kind=2
 mj:s.major=0
 mi:s.minor=0
 lk:s.links=1
 sz:0<=s.size/\s.size<4294967296
 d:g.d=1\/g.d=2
 len:(s.places.length:Int)=g.d+1
 pos:∀x∈s.places,0<=x/\x<4294967296
def mA(h:g.d=1\/g.d=2):∃r:Nat,bV g.d=r/\(r=20\/r=24)/\(r:Int)=16+4*g.d/\Int.fdiv 64 (bV g.d)=if g.d=1 then 3 else 2:=by
 rcases h with h|h<;>rw [h]
 ·exact⟨20,rfl,.inl rfl,rfl,rfl⟩
 ·exact⟨24,rfl,.inr rfl,rfl,rfl⟩
def ny(X:aW g A st){z:Nat}(c:z<=st.stage)(b:g.d=1\/g.d=2)(k:∀r,A r=none->Q (.ref r) (A.put r (.tuple [.int 18,.int (bV g.d)]))):tb.cf (N+1) 194 [.ref g.plan,.int 1] Q A:=by
 refine pg (cO (C5 (aG (bj (w:=.int 18) (aY (aE (aB rfl) (X.at .plan (Tl _)) rfl rfl rfl) (gP (aB rfl) (aE (aB rfl) (X.at .plan (Tl _)) rfl rfl rfl) ?_ ?_)) ?_) (aG (bj (w:=.int (bV g.d)) (cy (i5 (aB rfl) (aE (aB rfl) (X.at .plan (Tl _)) rfl rfl rfl) ?_) (aE (aB rfl) (X.at .plan (Tl _)) rfl rfl rfl) ?_) ?_) aI)) rfl k))
 ·rcases b with h|h<;>rw [h]<;>decide
 ·rcases b with h|h<;>rw [h]<;>exact Ab (by decide)
 ·rcases b with h|h<;>rw [h]<;>rfl
 ·rcases b with h|h<;>rw [h]<;>decide
 ·rcases b with h|h<;>rw [h]<;>exact .of_left (Ex (by decide) (by decide))
 ·rcases b with h|h<;>rw [h]<;>rfl
set_option tactic.hygienic true in
def IG{o:AO}(h:A p=some o):A.put p o=A:=by
 funext q;unfold H.put;split
 ·rename_i e;rw [e,h]
 ·rfl
def jB(c:i=(k:Int))(g:j=(w:Int))(h:k+1<b.length)(m:b.length<=1000)(q:Q .none (A.put p (.ba (bk b k w)))):tb.cf (N+1) 130 [.ref p,.int i,.int j] Q (A.put p (.ba b)):=i8 (H.put_same ..) c g h m (by rw [pL];exact q)
def sH(c:i=(k:Int))(g:j=(w:Int))(h:k+3<b.length)(m:b.length<=1000)(q:Q .none (A.put p (.ba (bO b k w)))):tb.cf (N+2) 137 [.ref p,.int i,.int j] Q (A.put p (.ba b)):=oe (H.put_same ..) c g h m (by rw [pL];exact q)
def Ah{a:E}{u c:E}{f:iS}(b:f=130\/f=137)(g:Ev m A a (.ref p))(h:Ev m A u (.int i))(r:Ev m A c (.int j))(k:tb.cf N f [.ref p,.int i,.int j] (λv A=>v.noRef=true/\aZ (tb.cx N) N ss P m A) A):aZ (tb.cx N) N (.cons (.ex (.call (.g (.ref f)) (.cons a (.cons u (.cons c .nil))))) ss) P m A:=
 cH (kN (aG g (aG h (aG r aI))) (by rcases b with e|e<;>rw [e];exact iI;exact nG) (by rcases b with e|e<;>rw [e];exact iX;exact oQ) k)
def xI{M:iS}(L:Pl g st.toNd)(hN:A M=some (ob g st .node))(hP:A st.aplaces=some (.list (st.places.map .int)))(h1:M≠p)(h2:st.aplaces≠p)(u:b.length=64)(q:Q .none (A.put p (.ba (jN b (bV g.d).toNat st.toNd)))):tb.cf (N+3) 241 [.ref M,.ref p,.int (bV g.d)] Q (A.put p (.ba b)):=by
 refine se (mA L.d) λr hr j B J=>?_
 rw [hr] at q⊢;rw [Int.toNat_natCast] at q;have s:∀ {x:AO},(A.put p x) M=some (ob g st .node):=λ{x}=>(H.put_ne _ _ h1).trans hN
 have G:∀ {x:AO},(A.put p x) st.aplaces=some (.list (st.places.map .int)):=λ{x}=>(H.put_ne _ _ h2).trans hP
 refine pb (Ah (.inl rfl) (aB rfl) (aB rfl) (aE (aB rfl) s rfl rfl rfl) (jB (k:=r) (w:=2) rfl L.kd (Ii j u) (kX u) ⟨rfl,?_⟩));refine Ah (.inl rfl) (aB rfl) (aY (aB rfl) aN) (aE (aB rfl) s rfl rfl rfl) (jB (k:=r+2) (w:=0) rfl L.mj (by rw [aV];exact HV j u) (by rw [aV];exact kX u) ⟨rfl,?_⟩);refine Ah (.inl rfl) (aB rfl) (aY (aB rfl) aN) (aE (aB rfl) s rfl rfl rfl) (jB (k:=r+4) (w:=0) rfl L.mi (by simp only [aV];exact HG j u) (by simp only [aV];exact kX u) ⟨rfl,?_⟩);refine Ah (.inl rfl) (aB rfl) (aY (aB rfl) aN) (aE (aB rfl) s rfl rfl rfl) (jB (k:=r+6) (w:=1) rfl L.lk (by simp only [aV];exact Ih j u) (by simp only [aV];exact kX u) ⟨rfl,?_⟩);refine Ah (.inr rfl) (aB rfl) (aY (aB rfl) aN) (aE (aB rfl) s rfl rfl rfl) (sH (k:=r+8) (w:=st.size.toNat) rfl (Tg L.sz) (by simp only [aV];exact Fy j u) (by simp only [aV];exact kX u) ⟨rfl,?_⟩);have v:(bO (bk (bk (bk (bk b r 2) (r+2) 0) (r+4) 0) (r+6) 1) (r+8) st.size.toNat).length=64:=by simp only [bP,aV];exact u
 unfold jN at q
 revert q v;refine Mw (bO (bk (bk (bk (bk b r 2) (r+2) 0) (r+4) 0) (r+6) 1) (r+8) st.size.toNat) λc q v=>?_
 have z:=L.len;refine Bm (aE (aB rfl) s rfl rfl rfl) G (uc (xs:=st.places.map .int) (by rw [eS];exact TC z B j) (λi m y=>y=A.put p (.ba (hK c (r+12) (st.places.take i)))/\aC m 1=some (.ref p)/\aC m 2=some (.int r)) (λi m y h=>by rw [h.1];exact G) (λi m y D C I' kI=>?_) (λm y C=>?_) ⟨rfl,rfl,rfl⟩)
 ·refine eK C λh O U=>?_
  subst h;have D:i<st.places.length:=by simpa using D
  have Y:=L.pos _ (US D);rw [HD];refine Ah (.inr rfl) (aB (aP (aP O))) (aY (aY (aB (aP (aP U))) sP) (cy aN (aB (aP ct)) (.of_left (Ex (by decide) (by decide))))) (aB ct) (sH (k:=r+12+4*i) (w:=st.places[i].toNat) (by(clear Y;rfl)) (RU Y ‹_› D) (by rw [gG];exact Ua B z j D v) (by rw [gG];exact kX v) ⟨rfl,bE (kI _ _ ⟨?_,aP (aP O),aP (aP U)⟩)⟩);rw [Gd D,sp,Ps,UO (by(clear B;exact XM ‹_›))]
 ·obtain⟨h,_,_⟩:=C;subst h;rw [eS,UV];exact q
def sD(X:aW g A st)(I:Inv g st none)(h:14<=st.stage)(J:st.calls≠0)(L:Pl g st.toNd)
  (k:∀v st',aW g v st'->bv g A st v st'->Inv g st' none->Up st st' (cT (cont st) 18 (jN (cont st 18) (bV g.d).toNat st.toNd))->Q .none v):tb.cf (N+4) 352 [.ref g.nodes,.ref g.node] Q A:=by
 have w:=I.B24;refine o9 (fL (b8 (mR X h (aB rfl)) (X.at .plan (aM h)) gg rfl rfl (aG (aE (aB rfl) (X.at .node (aM h)) rfl rfl rfl) aI) (ny X h L.d λr M=>za (R:=λm=>aZ _ _ _ _ m _) (H.put_same ..) rfl (by decide) ?_)));have O:=X.new (o:=.tuple [.int 18,.int (bV g.d)]) M;refine cH (lr (aB rfl) (O.at .nodes (aM h)) rfl rfl ck (bJ (gj (aG (aB rfl) aI) rfl λp hp=>cW (N:=N+1) (xs:= [18]) (O.new hp) I h J (H.put_same ..) (by decide) ⟨18,18,λz hz=>by simpa using hz⟩ (λx hx=>?_) λaa X5 E5=>⟨rfl,?_⟩)))
 ·rw [List.mem_singleton.mp hx];exact⟨by decide,by exact zX w⟩
 refine gL (n:=18) X5 I h rfl (aB rfl) (by decide) (zX w) λab y s E1 C B=>?_
 have u:=C.held 18 rfl;have U:=C.len 18 u;have Y:=congrArg Hi.toNd B.hi;have c:=B.s h;refine cH (b8 (aB rfl) (s.at .node (aM c)) qS rfl rfl (aG (aE (aB rfl) (s.at (.buf 18) u) rfl rfl rfl) (aG (aB rfl) aI)) ?_);rw [<-IG (s.at (.dat 18) u)];refine xI (N:=N) (st:=y) (b:=y.data 18) (Y▸L) (s.at .node (aM c)) (s.at .places (aM c)) (λe=>nomatch s.inj .node (.dat 18) (aM c) u e) (λe=>nomatch s.inj .places (.dat 18) (aM c) u e) U ⟨rfl,?_⟩;refine zy (P:=λA=>aZ _ _ _ _ _ A) s u λac X2 E2=>?_
 refine Cf (N:=N) X2 (C.dt ?_) c (by decide) (zX w) (B.c J) rfl rfl λD G X3 E3 I3 S3=>bE (k D G X3 ((((bv.new M).trans ((bv.new hp).trans E5)).trans E1).trans (E2.trans E3)) I3 ((lA B u S3).cast λj=>?_))
 ·unfold jN;rw [gG,bP];simp only [aV];exact U
 ·rw [Y,<-B.cont 18,bU u]
end
end
section
noncomputable def wu(c:Int->List UInt8)(r:Int):Int->List UInt8:=cT (cT c 19 (flip (c 19) r)) r bM
section
variable{g:Fx}{u:H}{st st':St}{N:Nat}{Q:V->H->Prop}{P:Fl->Fs->H->Prop}{n:Int}{m:Fs}{b:List UInt8}{ss:Ss}{e:E}{p:Int}{k:Nat}
def qg(X:aW g u st)(I:Inv g st none)(w:14<=st.stage)(z:18<=p)(A:p<g.B)(B:k<16){mk:Bool}(x:mk=false\/dK (cont st p) (4*k)≠0)
  (q:∀b st',aW g b st'->bv g u st b st'->Inv g st' none->aU st st'->Q (.int (dK (cont st p) (4*k))) b):tb.cf (N+6) 429 [.ref g.nodes,.int p,.int k,.bool mk] Q u:=by
 refine dP (gL (N:=N+2) X I w rfl (aB rfl) z A λC D r G c j=>?_);have m:=c.held p rfl;have y:=c.len p m;rw [((j.cont p).symm.trans (bU m))] at q x;refine bX (kN (aG (aE (aB rfl) (r.at (.buf p) m) rfl rfl rfl) (aG (cy aN (aB rfl) (.of_left (Ex (by decide) (by decide)))) aI)) eE eV (eJ (N:=N+3) (k:=4*k) (r.at (.dat p) m) rfl (Ei B y) (kX y) ?_));refine lM (N:=N+3) r c (j.s w) rfl rfl (aU.cln I c j) λs v M O U Y=>?_
 refine dH (ip (jV (aB rfl) aN) λJ=>tV rfl) ?_ (cY (aB rfl) (q s v M (G.trans O) U (j.trans Y)));rcases x with h|h
 ·rw [h,Vq]
 ·rw [decide_eq_false (by exact Us h),Ys]
def yd(X:aW g u st)(I:Inv g st none)(G:14<=st.stage)(hc:st.calls≠0)(y:20<=p)(M:p<g.B)(hk:k<16)(hw:dK (cont st p) (4*k)=0)(c:bt (cont st 19) p=true)(hf:∃f,20<=f/\f<g.B/\bt (cont st 19) f=false)
  (q:∀m st' r,aW g m st'->bv g u st m st'->Inv g st' none->20<=r->r<g.B->bt (cont st 19) r=false->Up st st' (cT (wu (cont st) r) p (bO (cont st p) (4*k) r.toNat))->Q (.int r) m):tb.cf (N+6) 429 [.ref g.nodes,.int p,.int k,.bool true] Q u:=by
 refine dP (gL (N:=N+2) X I G rfl (aB rfl) (HW y) M λaf ag O E1 z A=>?_);have B:=z.held p rfl;have hl:=z.len p B;refine bX (kN (aG (aE (aB rfl) (O.at (.buf p) B) rfl rfl rfl) (aG (cy aN (aB rfl) (.of_left (Ex (by decide) (by decide)))) aI)) eE eV (eJ (N:=N+3) (k:=4*k) (O.at (.dat p) B) (JI) (Ei hk hl) (kX hl) ?_));refine((A.cont p).symm.trans (bU B))▸ ?_;rw [hw];refine lM (N:=N+3) O z (A.s G) rfl rfl (aU.cln I z A) λah ai X2 E2 I2 S2=>?_
 have S:=A.trans S2;have h:=S.s G;refine dS (ip (s:=true) (t:=true) (tT (jV (aB rfl) aN) rfl) λJ=>tV rfl) rfl ?_;refine bX (b8 (aB rfl) (X2.at .nodes (aM h)) c7 rfl rfl aI (gl (N:=N) X2 I2 h (S.c hc) (by rw [S.cont];exact hf) λaj ak r X3 E3 I3 r1 r2 U v=>?_));rw [S.cont] at U;refine gL (N:=N+2) X3 I3 (v.stage▸h) rfl (aB rfl) (HW y) M λal Y X4 E4 I4 C=>?_
 have b:=I4.held p rfl;have aa:p≠r:=λe=>by rw [e] at c;have c:=U▸c;exact fT c
 have ab:Y.data p=cont st p:=by
  rw [<-bU b,C.cont,v.cont];unfold cT;rw [if_neg aa,if_neg (by exact Tf y),S.cont]
 have x:=I4.len p b;refine cH (kN (aG (aE (aB rfl) (X4.at (.buf p) b) rfl rfl rfl) (aG (cy aN (aB rfl) (.of_left (Ex (by decide) (by decide)))) (aG (aB rfl) aI))) nG oQ (oe (N:=N+3) (k:=4*k) (w:=r.toNat) (X4.at (.dat p) b) (JI) (T7 r1) (Ei hk x) (by lia) ⟨rfl,zy (P:=λu=>aZ _ _ _ _ _ u) X4 b λam X5 E5=>?_⟩));refine Cf (N:=N+2) X5 (I4.dt (by rw [bP];exact x)) (C.s (v.stage▸h)) (HW y) M (C.c (v.calls▸S.c hc)) rfl rfl λac ae X6 E6 I6 S6=>?_
 refine bE (Q:=mG _ _ _ _) (cY (aB rfl) (q ac ae r X6 (((E1.trans E2).trans (E3.trans E4)).trans (E5.trans E6)) I6 r1 r2 U (((S.sm.up.trans v).trans (lA C b S6)).cast λj=>?_)));unfold wu;rw [ab];unfold cT;by_cases e:j=p
 ·rw [eX e,eX e]
 ·rw [if_neg e,if_neg e,v.cont];unfold cT;by_cases D:j=r
  ·rw [eX D,eX D]
  ·rw [if_neg D,if_neg D,S.cont,S.cont]
end
end
section
noncomputable def at0(pl:List Int)(i:Nat):Int:=pl[i]?.getD 0
noncomputable def tv(d:Nat)(pl:List Int)(c:Int->List UInt8)(i:Nat):Int:=if i<d then at0 pl i else if at0 pl d=0 then 0 else(dK (c (at0 pl d)) (4*(i-d)):Nat)
structure Fi(g:Fx)(st:St)(d:Nat)(bn:Nat->Int)(oc:Nat->Nat):Prop where
 hd:g.d=d
 L:Pl g st.toNd
 b:∀i,tv d st.places (cont st) i=bn i
 mp:Mp g.B bn (at0 st.places d) (bt (cont st 19))
 o:∀i,oc i=if bn (i/64)=0 then 0 else oct (cont st (bn (i/64))) (i%64)
def rM(d:Nat)(pl:List Int)(bn:Nat->Int):Prop:=at0 pl d≠0->∃i,d<=i/\bn i≠0
def jy{pl:List Int}{i j:Nat}{r:Int}(h:i<pl.length):at0 (pl.set i r) j=if i=j then r else at0 pl j:=by
 unfold at0;rw [aai];by_cases e:i=j
 ·subst e;rw [eX rfl,eX rfl,eX h];rfl
 ·rw [if_neg e,if_neg e]
def jG(i:Nat):oct bM i=0:=by
 delta oct bM;refine U1▸ ?_;split<;>rfl
def xH(i:Nat):dK bM i=0:=by delta dK fh;simp only [jG]
section
variable{g:Fx}{st st':St}{d:Nat}{bn:Nat->Int}{oc:Nat->Nat}{r:Int}{pl:List Int}{hd:Option Int}
def Fi.next(F:Fi g st d bn oc)(k:st'.toNd={st.toNd with places:=pl})(p:pl.length=st.places.length)(hp:∀x∈pl,x∈st.places\/x=r)(m:20<=r/\r<g.B)(s:g.B<=26){j:Nat->Int}(u:∀i,tv d pl (cont st') i=j i)(v:Mp g.B j (at0 pl d) (bt (cont st' 19)))
  (w:∀i,j i=bn i/\(bn i≠0->cont st' (bn i)=cont st (bn i))\/bn i=0/\j i=r/\cont st' r=bM):Fi g st' d j oc:=by
 have e:st'.places=pl:=by rw [k]
 refine⟨F.hd,?_,by refine e▸ ?_;exact u,by refine e▸ ?_;exact v,λi=>?_⟩
 ·have L:=F.L;rw [k];refine⟨L.kd,L.mj,L.mi,L.lk,L.sz,L.d,by exact p▸L.len,λx y=>?_⟩;rcases hp x y with h|h
  ·exact L.pos x h
  ·exact Tx m h s
 ·refine F.o i▸ ?_;rcases w (i/64) with⟨a,b⟩|⟨a,b,c⟩
  ·rw [a];by_cases e:bn (i/64)=0
   ·rw [eX e,eX e]
   ·rw [if_neg e,if_neg e,b e]
  ·refine(eX a).trans ?_;rw [b,if_neg (by exact Tr m),c,jG]
def qF(I:Inv g st hd)(b:20<=r)(c:r<g.B)(h:bt (cont st 19) r=false){k:Int}(j:0<=k):bt (flip (cont st 19) r) k=N7 (bt (cont st 19)) r true k:=by
 rw [yN (by rw [dG I];exact Ul c I.B26) (by exact GC b) j,h];rfl
def p5{c:Int->List UInt8}{k:Int}(h:k≠r)(b:k≠19):wu c r k=c k:=by exact(if_neg h).trans ((if_neg b))
def yj{c:Int->List UInt8}:wu c r r=bM:=eX rfl
def uy{c:Int->List UInt8}(h:20<=r):wu c r 19=flip (c 19) r:=by exact(if_neg (by exact Th h)).trans ((eX rfl))
def Fi.nr(F:Fi g st d bn oc)(b:20<=r)(c:r<g.B)(h:bt (cont st 19) r=false):(∀i,bn i≠r)/\at0 st.places d≠r:=
 ⟨λi e=>Vp (((F.mp.bit r b c).mpr (.inr ⟨i,e⟩)).symm.trans h),λe=>Vp (((F.mp.bit r b c).mpr (.inl e.symm)).symm.trans h)⟩
def Fi.n19(F:Fi g st d bn oc)(i:Nat):bn i≠0->bn i≠19:=λh=>by exact LN ((F.mp.rng i).resolve_left h)
def Fi.lenN(F:Fi g st d bn oc):st.places.length=d+1:=by have:=F.L.len;exact MF ‹_› F.hd
def Fi.bd(F:Fi g st d bn oc){i:Nat}(h:i<d):at0 st.places i=bn i:=by exact F.b i▸(eX h).symm
def Fi.b0(F:Fi g st d bn oc){i:Nat}(h:¬i<d)(b:at0 st.places d=0):bn i=0:=by refine(F.b i).symm.trans ?_;exact(if_neg h).trans ((eX b))
def Fi.bw(F:Fi g st d bn oc){i:Nat}(h:¬i<d)(b:at0 st.places d≠0):bn i=(dK (cont st (at0 st.places d)) (4*(i-d)):Nat):=by refine(F.b i).symm.trans ?_;exact(if_neg h).trans ((if_neg b))
def Fi.direct(F:Fi g st d bn oc)(I:Inv g st hd){i:Nat}(s:i<d)(u:(i:Int)<g.B-21)(w:bn i=0)(c:20<=r)(m:r<g.B)(v:bt (cont st 19) r=false)
  (A:st'.toNd={st.toNd with places:=st.places.set i r}) (p:∀k,cont st' k=wu (cont st) r k):Fi g st' d (us bn i r) oc:=by
 obtain⟨B,C⟩:=F.nr c m v;have y:=F.lenN;have z:at0 (st.places.set i r) d=at0 st.places d:=by exact(jy (by exact MU s y)).trans ((if_neg (by exact TS ‹_›)))
 refine F.next A (by simp) (λx D=>(YH D)) ⟨c,m⟩ I.B26 (λj=>?_) ?_ λj=>?_
 ·delta us tv;by_cases h:j<d
  ·rw [eX h,jy (by exact MU s y),F.bd h];by_cases e:i=j
   ·rw [eX e,eX e.symm]
   ·rw [if_neg e,if_neg (NS e)]
  ·rw [if_neg h,z,if_neg (by exact TZ s h:¬j=i)];by_cases e:at0 st.places d=0
   ·rw [eX e,F.b0 h e]
   ·rw [if_neg e,p,p5 C (by exact LN (F.mp.rngN.resolve_left e))];exact F.bw h e▸rfl
 ·rw [z,((p 19).trans (uy c))];exact(F.mp.take u w c m v).cong λk a b=>qF I c m v (GC a)
 ·unfold us;by_cases e:j=i
  ·rw [eX e];exact .inr ⟨e▸w,rfl,(p r).trans yj⟩
  ·rw [if_neg e];exact .inl ⟨rfl,λh=>by rw [p,p5 (B j) (F.n19 j h)]⟩
theorem Fi.names(F:Fi g st d bn oc)(I:Inv g st hd)(p:at0 st.places d=0)(c:20<=r)(m:r<g.B)(s:bt (cont st 19) r=false)
  (y:st'.toNd={st.toNd with places:=st.places.set d r}) (u:∀k,cont st' k=wu (cont st) r k):Fi g st' d bn oc:=by
 obtain⟨z,A⟩:=F.nr c m s;have v:=F.lenN;have w:at0 (st.places.set d r) d=r:=by exact(jy (by exact AE v)).trans ((eX rfl))
 have M:=F.mp;rw [p] at M;refine F.next y (by simp) (λx B=>(YH B)) ⟨c,m⟩ I.B26 (λj=>?_) ?_ λj=>.inl ⟨rfl,λh=>by rw [u,p5 (z j) (F.n19 j h)]⟩
 ·unfold tv;by_cases h:j<d
  ·rw [eX h,jy (by exact AE v),F.bd h,if_neg (by exact XJ ‹_›)]
  ·rw [if_neg h,w,if_neg (by exact Ug p A),u,yj,xH,F.b0 h p];rfl
 ·rw [w,((u 19).trans (uy c))];exact(M.names c m s).cong λk a b=>qF I c m s (GC a)
def Fi.named(F:Fi g st d bn oc)(I:Inv g st hd){i:Nat}(z:¬i<d)(p:(i:Int)<g.B-21)(s:at0 st.places d≠0)(A:bn i=0)(c:20<=r)(u:r<g.B)(w:bt (cont st 19) r=false)
  (C:st'.toNd=st.toNd) (B:∀k,cont st' k=cT (wu (cont st) r) (at0 st.places d) (bO (cont st (at0 st.places d)) (4*(i-d)) r.toNat) k):Fi g st' d (us bn i r) oc:=by
 obtain⟨D,G⟩:=F.nr c u w;have m:=I.B26;have y:=λ{k} h=>(B k).trans (if_neg h)
 have v:=dG I (at0 st.places d);refine F.next (pl:=st.places) C rfl (λx J=>.inl J) ⟨c,u⟩ m (λj=>?_) ?_ λj=>?_
 ·delta us tv;by_cases h:j<d
  ·rw [eX h,if_neg (by exact Ty h z),F.bd h]
  ·rw [if_neg h,if_neg s,B];unfold cT;rw [eX rfl];by_cases e:j=i
   ·rw [eX e,e,gT (by exact RL p v m) (by exact UD u m)];exact Ux c
   ·rw [if_neg e,nA (by exact RL p v m) (by exact S0 h e z),F.bw h s]
 have M:=F.mp.rngN.resolve_left s
 ·exact((y (TB M)).trans (uy c))▸(F.mp.take p A c u w).cong λk a b=>qF I c u w (GC a)
 ·unfold us;by_cases e:j=i
  ·rw [eX e];exact .inr ⟨e▸A,rfl,(y G.symm).trans yj⟩
  ·rw [if_neg e];exact .inl ⟨rfl,λh=>by exact(y (F.mp.injN j h)).trans ((p5 (D j) (F.n19 j h)))⟩
def Fi.wr(F:Fi g st d bn oc){i:Nat}{b:List UInt8}(m:bn i≠0)(r:st'.toNd=st.toNd)(s:∀k,cont st' k=cT (cont st) (bn i) b k):Fi g st' d bn λj=>if j/64=i then oct b (j%64) else oc j:=by
 have p:=λ{k} h=>(s k).trans (if_neg h)
 have u:st'.places=st.places:=by exact r▸rfl
 refine⟨F.hd,r▸F.L,λj=>?_,by rw [u,p ((F.n19 i m).symm)];exact F.mp,λj=>?_⟩
 ·rw [u,<-F.b j];unfold tv;split
  ·rfl
  ·split
   ·rfl
   ·rw [p (F.mp.injN i m).symm]
 ·by_cases e:j/64=i
  ·rw [eX e,e,if_neg m,s];unfold cT;rw [eX rfl]
  ·rw [if_neg e,F.o j];by_cases c:bn (j/64)=0
   ·rw [eX c,eX c]
   ·rw [if_neg c,if_neg c,p λh=>e (F.mp.inj _ _ c h)]
set_option tactic.hygienic true in
def Fi.same(F:Fi g st d bn oc)(m:st'.toNd=st.toNd)(c:∀k,k≠18->cont st' k=cont st k):Fi g st' d bn oc:=by
 have r:∀i,bn i≠0->bn i≠18:=λi h=>by exact JN ((F.mp.rng i).resolve_left h)
 have p:st'.places=st.places:=by exact m▸rfl
 refine⟨F.hd,m▸F.L,λj=>?_,by rw [p,c 19 (by decide)];exact F.mp,λj=>?_⟩
 ·rw [p,<-F.b j];unfold tv;split
  ·rfl
  ·split
   ·rfl
   ·rename_i h;rw [c _ (by exact JN (F.mp.rngN.resolve_left h))]
 ·rw [F.o j];by_cases b:bn (j/64)=0
  ·rw [eX b,eX b]
  ·rw [if_neg b,if_neg b,c _ (r _ b)]
end
end
section
structure Pr(st st':St):Prop where
 nd:st'.toNd={st.toNd with places:=st'.places}
 lat:st'.latest=st.latest
 kep:st'.kept=st.kept
 unf:st'.unfl=st.unfl
theorem Pr.trans{a b c:St}(h:Pr a b)(k:Pr b c):Pr a c:=⟨by rw [k.nd,h.nd],k.lat.trans h.lat,k.kep.trans h.kep,k.unf.trans h.unf⟩
def Up.pr{a b:St}{f:Int->List UInt8}(h:Up a b f):Pr a b:=⟨by exact congrArg Nd.places h.nd▸h.nd,h.lat,h.kep,h.unf⟩
theorem Pr.calls{a b:St}(h:Pr a b):b.calls=a.calls:=by have:=congrArg Nd.calls h.nd;exact this
theorem Pr.stage{a b:St}(h:Pr a b):b.stage=a.stage:=by have:=congrArg Nd.stage h.nd;exact this
theorem Pr.size{a b:St}(h:Pr a b):b.size=a.size:=by have:=congrArg Nd.size h.nd;exact this
section
variable{g:Fx}{p:H}{st st':St}{N:Nat}{Q:V->H->Prop}{P:Fl->Fs->H->Prop}{n:Int}{m:Fs}{b:List UInt8}{u:Ss}{e o j:E}{nb:Int}{d i k:Nat}{bn:Nat->Int}{oc:Nat->Nat}{x:Cx}{s:Nat}
def wv(h:xE x s m e (λv b=>Dx x s (.sub o j) v (λJ m p=>aZ x s u P m p) m b) p):aZ x s (.cons (.asg (.sub o j) e) u) P m p:=h
def sZ{a b v:V}{R:Unit->Fs->H->Prop}(c:Ev m p o a)(g:Ev m p j b)(k:cq a b v (λJ p=>R () m p) p):Dx x s (.sub o j) v R m p:=c _ _ _ (g _ _ _ k)
def mH(X:aW g p st)(c:14<=st.stage)(j:aC m 1=some (.ref g.node))(k:Ev m p e (.int (i:Int)))(h:i<st.places.length)(b:st.places.length<=100):Ev m p (.sub (.attr (.v 1) 20) e) (.int (at0 st.places i)):=
 cC (aE (aB j) (X.at .node (aM c)) rfl rfl rfl) k λQ q=>wU (i:=(i:Int)) (X.at .places (aM c)) ⟨by exact Int.natCast_nonneg _,by exact GG h b⟩ (by rw [Int.toNat_natCast,PR];unfold at0;exact yS h▸rfl) Q q
def kPl{r:Int}{R:H->Prop}(X:aW g p st)(j:14<=st.stage)(m:i<st.places.length)(c:st.places.length<=100)(k:∀b,aW g b {st with places:=st.places.set i r}->bv g p st b {st with places:=st.places.set i r}->R b):cq (.ref st.aplaces) (.int (i:Int)) (.int r) (λJ p=>R p) p:=
 CP (X.at .places (aM j)) ⟨by exact Int.natCast_nonneg _,by exact GG m c⟩ (by rw [eS];exact m) (cU (P:=R) X .places (aM j) {st with places:=st.places.set i r} (by exact aa5▸rfl) (λJ J=>rfl) (λJ h=>h) (by walk_at "hob") X.tup (λh=>nomatch h) k)
def jc(X:aW g p st)(b:14<=st.stage)(q:Q (.int (g.d+16)) p):tb.cf (N+1) 166 [.ref g.plan] Q p:=
 iM (cY (aY (aE (aB rfl) (X.at .plan (aM b)) rfl rfl rfl) (aE (aB rfl) (X.at .plan (aM b)) rfl rfl rfl)) q)
def N4{l r:E}{b:VY}{A B:Ss}{v:V}(g:xE x s m l (λa p=>cr b v a (λv p=>bH v (λc p=>if c then aZ x s A (mG x s u P) m p else aZ x s B (mG x s u P) m p) p) p) p)(h:Ev m p r v):aZ x s (.cons (.ite (.cmp b r l) A B) u) P m p:=DM (h _ _ _ g)
def nX(X:aW g p st)(b:14<=st.stage)(c:aC m 0=some (.ref g.nodes))(h:aC m 2=some (.int (i:Int)))(j:(i:Int)<g.d+16)(k:aZ (tb.cx (N+1)) (N+1) u P m p):aZ (tb.cx (N+1)) (N+1) (.cons (.ite (.cmp .GtE (.v 2) (.mc (.attr (.v 0) 23) 100 .nil)) (.cons .dead .nil) .nil) u) P m p:=
 N4 (b8 (mR X b (aB c)) (X.at .plan (aM b)) ew rfl rfl aI (jc X b (fZ (t:=false) (by exact congrArg _ (decide_eq_false (by exact Uf j))) _ k))) (aB h)
def xw(X:aW g p st)(I:Inv g st none)(m:14<=st.stage)(F:Fi g st d bn oc)(u:i<d+16)
  (q:∀j st',aW g j st'->bv g p st j st'->Inv g st' none->aU st st'->Q (.int (bn i)) j):tb.cf (N+7) 422 [.ref g.nodes,.ref g.node,.int i,.bool false] Q p:=by
 have x:=F.lenN;have r:=F.hd;have k:st.places.length<=100:=by have:=F.L.d;exact Ch x r this
 refine fH (db (nS X m (aB rfl) rfl) ?_);by_cases h:i<d
 ·refine dS (pB (aB rfl) (aB rfl)) (lO (N6 h r)) ?_;refine dH (ip (jV (mH X m rfl (aB rfl) (by lia) k) aN) λJ=>tV rfl) (Vq _) (cY (mH X m rfl (aB rfl) (by lia) k) ?_);exact F.bd h▸q p st X .rfl I .rfl
 ·refine dH (pB (aB rfl) (aB rfl)) (decide_eq_false (Lv r h)) (nX (N:=N+5) X m rfl rfl (Uv u r) ?_);by_cases s:at0 st.places d=0
  ·refine dS (jV (mH X m rfl (bj (aB rfl) (congrArg V.int r)) (by lia) k) aN) (lO s) (dS (rC (t:=false) (tV rfl)) rfl (cY aN ?_));have:=q p st X .rfl I .rfl;rw [F.b0 h s] at this;exact this
  ·refine dH (jV (mH X m rfl (bj (aB rfl) (congrArg V.int r)) (by lia) k) aN) (decide_eq_false s) (cO ?_);have v:=F.mp.rngN.resolve_left s;refine b8 (aB rfl) (X.at .nodes (aM m)) ej rfl rfl (aG (mH X m rfl (bj (aB rfl) (congrArg V.int r)) (by lia) k) (aG (bj (w:=.int ((i-d:Nat):Int)) (cI (aB rfl) (aB rfl)) (congrArg V.int (by rw [r];exact JU h))) (aG (aB rfl) aI))) (qg (N:=N) X I m (zL v) v.2 (Um u) (.inl rfl) λj st' a b c y=>?_);exact F.bw h s▸q j st' a b c y
def yk(X:aW g p st)(I:Inv g st none)(x:14<=st.stage)(hc:st.calls≠0)(F:Fi g st d bn oc)(hi:(i:Int)<g.B-21)
  (q:∀ab st' z,aW g ab st'->bv g p st ab st'->Inv g st' none->Pr st st'->Fi g st' d z oc->z i≠0->(∀j,j≠i->z j=bn j)->(rM d st.places bn->rM d st'.places z)->Q (.int (z i)) ab):tb.cf (N+7) 422 [.ref g.nodes,.ref g.node,.int i,.bool true] Q p:=by
 have hl:=F.lenN;have G:=F.hd;have O:=I.B24;have ae:=I.B26;have U:=F.L.d;have A:st.places.length<=100:=by exact Ch hl G U
 refine fH (db (nS X x (aB rfl) rfl) ?_);by_cases h:i<d
 ·refine dS (pB (aB rfl) (aB rfl)) (lO (N6 h G)) ?_;have t1:=jV (mH X x (m:=bB [(0,V.ref g.nodes),(1,V.ref g.node),(2,V.int i),(3,V.bool true)] 4 (.int g.d)) rfl (aB (i:=2) rfl) (by lia) A) (aN (v:=.int 0));by_cases s:bn i=0
  ·refine dS (ip (t:=true) (tT t1 (lO ((F.bd h).trans s))) λJ=>tV rfl) rfl ?_;refine wv (b8 (aB rfl) (X.at .nodes (aM x)) c7 rfl rfl aI (gl (N:=N+1) X I x hc (F.mp.free O hi s) λy b r M E1 I1 r1 r2 r3 B=>?_));have c:=B.stage▸x;have C:=congrArg Nd.places B.nd;refine sZ (aE (aB rfl) (M.at .node (aM c)) rfl rfl rfl) (aB rfl) (kPl (i:=i) M c (by rw [C];(clear C c r3 r2 r1 s A U ae O q hi hc x;lia)) (by rw [C];omega) λu Y E2=>?_);have F2:Fi g {b with places:=b.places.set i r} d (us bn i r) oc:=F.direct I h hi s r1 r2 r3 (by exact B.nd▸rfl) B.cont;refine bE (Q:=mG _ _ _ _) (cY (mH Y c rfl (aB rfl) (by rw [Wo,C];lia) (by rw [Wo,C];omega)) ?_);exact F2.bd h▸q u _ _ Y (E1.trans E2) {I1 with} (B.pr.trans ⟨rfl,rfl,rfl,rfl⟩) F2 (by unfold us;rw [eX rfl];lia) (λj hj=>if_neg hj) λhN D=>by
    have e:at0 (b.places.set i r) d=at0 st.places d:=by rw [jy (by rw [C];lia),if_neg (by exact TS ‹_›),C]
    refine bp (hN (by exact e▸D)) λj h1 h2=>?_
    exact⟨j,h1,by unfold us;rw [if_neg (by exact UG h h1)];exact h2⟩
  ·refine dH (ip t1 λJ=>tV rfl) (by rw [decide_eq_false (λe=>s ((F.bd h).symm.trans e)),Ys]) (cY (mH X x rfl (aB rfl) (by lia) A) ?_);exact F.bd h▸q p st bn X .rfl I ⟨rfl,rfl,rfl,rfl⟩ F s (λJ J=>rfl) id
 ·refine dH (pB (aB rfl) (aB rfl)) (decide_eq_false (Lv G h)) (nX (N:=N+5) X x rfl rfl (TR hi U ae) ?_);have aa:∀(y:H) (b:St) (mm:Fs),mm=bB [(0,V.ref g.nodes),(1,V.ref g.node),(2,V.int i),(3,V.bool true)] 4 (.int g.d)->aW g y b->bv g p st y b->Inv g b none->Pr st b->Fi g b d bn oc->at0 b.places d≠0->
    aZ (tb.cx (N+6)) (N+6) (.cons (.ret (.mc (.v 0) 121 (.cons (.sub (.attr (.v 1) 20) (.v 4)) (.cons (.bin .Sub (.v 2) (.v 4)) (.cons (.v 3) .nil))))) .nil) (uv Q) mm y:=λy b mm hm M E1 I1 P1 F1 D=>by
   subst hm;have af:=F1.lenN;have hr:=F1.mp.rngN.resolve_left D;have c:=P1.stage▸x;refine cO (b8 (aB rfl) (M.at .nodes (aM c)) ej rfl rfl (aG (mH (m:=bB [(0,V.ref g.nodes),(1,V.ref g.node),(2,V.int i),(3,V.bool true)] 4 (.int g.d)) M c rfl (bj (aB (i:=4) rfl) (congrArg V.int G)) (AE af) (Ch af G U)) (aG (bj (w:=.int ((i-d:Nat):Int)) (cI (aB rfl) (aB rfl)) (congrArg V.int (by rw [G];exact JU h))) (aG (aB rfl) aI))) ?_);have hw:=F1.bw h D;by_cases s:bn i=0
   ·refine yd (N:=N) M I1 c (P1.calls▸hc) hr.1 hr.2 (by lia) (UB hw s) ((F1.mp.bit _ hr.1 hr.2).mpr (.inl rfl)) (F1.mp.free O hi s) λu ac r Y E2 I2 r1 r2 r3 U2=>?_
    have:=q u ac (us bn i r) Y (E1.trans E2) I2 (P1.trans U2.pr) (F1.named I1 h hi D s r1 r2 r3 U2.nd U2.cont) (by unfold us;rw [eX rfl];lia) (λj hj=>if_neg hj) λJ J=>⟨i,by exact Nat.not_lt.mp ‹_›,by unfold us;rw [eX rfl];lia⟩
    rw [show us bn i r i=r from eX rfl] at this;exact this
   ·refine qg (N:=N) M I1 c (zL hr) hr.2 (by lia) (.inr (TJ hw s)) λu ac Y E2 I2 S2=>?_
    exact hw▸q u ac bn Y (E1.trans E2) I2 (P1.trans S2.sm.up.pr) (F1.same S2.sm.nd λk J=>S2.cont k) s (λJ J=>rfl) λJ J=>⟨i,by exact Em h,s⟩
  by_cases s:at0 st.places d=0
  ·refine dS (jV (mH X x rfl (bj (aB rfl) (congrArg V.int G)) (by lia) A) aN) (lO s) (dH (rC (t:=true) (tV rfl)) rfl ?_);refine wv (b8 (aB rfl) (X.at .nodes (aM x)) c7 rfl rfl aI (gl (N:=N+1) X I x hc (F.mp.free O hi (F.b0 h s)) λy b r M E1 I1 r1 r2 r3 B=>?_));have c:=B.stage▸x;have C:=congrArg Nd.places B.nd;refine sZ (aE (aB rfl) (M.at .node (aM c)) rfl rfl rfl) (bj (aB rfl) (congrArg V.int G)) (kPl (i:=d) M c (by rw [C];(clear c r2 r1 h G;lia)) (by rw [C];omega) λu Y E2=>?_);have F2:Fi g {b with places:=b.places.set d r} d bn oc:=F.names I s r1 r2 r3 (by rw [<-B.nd]) B.cont;exact bE (Q:=mG _ _ _ _) (aa u _ _ rfl Y (E1.trans E2) {I1 with} (B.pr.trans ⟨rfl,rfl,rfl,rfl⟩) F2 (by rw [jy (by rw [C];lia),eX rfl];lia))
  ·refine dH (jV (mH X x rfl (bj (aB rfl) (congrArg V.int G)) (by lia) A) aN) (decide_eq_false s) (aa p st _ rfl X .rfl I ⟨rfl,rfl,rfl,rfl⟩ F s)
end
end
section
def lV{a b:List UInt8}{k:Nat}:oct (a++b) k=if k<a.length then oct a k else oct b (k-a.length):=by
 unfold oct;rw [List.getElem?_append];split<;>rfl
def qv{a:List UInt8}{k n:Nat}:oct (a.take n) k=if k<n then oct a k else 0:=by
 unfold oct;rw [List.getElem?_take];split<;>rfl
def p9{a:List UInt8}{k n:Nat}:oct (a.drop n) k=oct a (n+k):=by
 unfold oct;rw [List.getElem?_drop]
def xq{b r:List UInt8}{s k:Nat}(h:s+r.length<=b.length):oct (b.take s++r++b.drop (s+r.length)) k=if s<=k/\k<s+r.length then oct r (k-s) else oct b k:=by
 refine(lV).trans ?_;rw [lV,pS,(by exact(Ps).trans (Uz h):(b.take s).length=s)];by_cases g:k<s
 ·rw [eX (by exact gD ‹_› (NM _ _)),eX g,qv,eX g,if_neg (by exact KB g)]
 ·by_cases c:k<s+r.length
  ·rw [eX c,if_neg g,eX ⟨by exact Nat.not_lt.mp ‹_›,c⟩]
  ·rw [if_neg c,if_neg (by exact OC c),p9];congr 1;exact RQ c
section
variable{g:Fx}{y:H}{st st':St}{N:Nat}{Q:V->H->Prop}{P:Fl->Fs->H->Prop}{n:Int}{m:Fs}{b bs:List UInt8}{ss:Ss}{e o j:E}{nb:Int}{d i k p u off:Nat}{bn:Nat->Int}{oc:Nat->Nat}{x:Cx}{nn:Nat}
def lW{c:VP}{l r:E}{a:V}{R:V->H->Prop}(g:Ev m y l a)(h:xE x nn m r (λb y=>qG c a b R y) y):xE x nn m (.bin c l r) R y:=g _ _ _ h
def UJ{lo b:Nat}(h:lo<=b)(c:b<=bs.length)(g:bs.length<=1000000)(Q:V->H->Prop)(q:Q (.bytes ((bs.take b).drop lo)) y):jP (.bytes bs) (.int (lo:Int)) (.int (b:Int)) Q y:=by
 delta jP dm mL mP cM;dsimp only;rw [if_neg (by exact Int.not_lt.mpr (Int.natCast_nonneg _)),if_neg (by exact DF),Int.toNat_natCast,Int.toNat_natCast,UO (by exact gD ‹_› ‹_›),UO c];exact⟨g,q⟩
def yi{a b:Int}(Q:V->H->Prop)(q:Q (.int (if b<a then b else a)) y):w7 "min" [.int a,.int b] Q y:=by
 exact q
noncomputable def gM(oc:Nat->Nat)(off u:Nat)(bs:List UInt8):Nat->Nat:=λj=>if off<=j/\j<off+u then oct bs (j-off) else oc j
def Fi.oeq{oc':Nat->Nat}(F:Fi g st d bn oc)(h:∀i,oc i=oc' i):Fi g st d bn oc':=⟨F.hd,F.L,F.b,F.mp,λi=>(h i).symm.trans (F.o i)⟩
def rr(X:aW g y st)(I:Inv g st none)(hs:14<=st.stage)(hc:st.calls≠0)(p:u<bs.length)(hb:bs.length<=1000)(F:Fi g st d bn (gM oc off u bs))(hi:(off+bs.length:Int)<=64*(g.B-21))
  (q:∀σ' st' bn' (m:Nat),aW g σ' st'->bv g y st σ' st'->Inv g st' none->Pr st st'->Fi g st' d bn' (gM oc off (u+m) bs)->0<m->u+m<=bs.length->(off+u)%64+m<=64->bn' ((off+u)/64)≠0->(∀j,j≠(off+u)/64->bn' j=bn j)->(rM d st.places bn->rM d st'.places bn')->Q (.int m) σ'):tb.cf (N+8) 450 [.ref g.nodes,.ref g.node,.int (off+u:Nat),.bytes bs,.int u] Q y:=by
 have ab:=I.B26;refine jT (sTr (bX (b8 (aB rfl) (X.at .nodes (aM hs)) ia rfl rfl (aG (aB rfl) (aG (bj (gP (aB rfl) (nS X hs (aB rfl) rfl) (by decide) (Ab (by decide))) (congrArg V.int (by exact(Int.fdiv_eq_ediv_of_nonneg _ (by decide)):Int.fdiv ((off+u:Nat):Int) 64=(((off+u)/64:Nat):Int)))) (aG aN aI))) (yk (N:=N) X I hs hc F (SY hi p) λag ac A X1 E1 I1 P1 F1 h1 h2 hN=>?_))));have hr:=(F1.mp.rng ((off+u)/64)).resolve_left h1;have B:=P1.stage▸hs;refine bE (Q:=mG _ _ _ _) (db (bj (i5 (aB rfl) (nS X1 B (aB rfl) rfl) (by decide)) (congrArg V.int (by exact(Int.fmod_eq_emod_of_nonneg _ (by decide)):Int.fmod ((off+u:Nat):Int) 64=(((off+u)%64:Nat):Int)))) ?_);obtain⟨m,x,G,z,O⟩:∃m:Nat,(if ((bs.length:Int)-(u:Int))<64-(((off+u)%64:Nat):Int) then(bs.length:Int)-(u:Int) else 64-(((off+u)%64:Nat):Int))=m/\0<m/\u+m<=bs.length/\(off+u)%64+m<=64:=by
  split
  ·exact⟨bs.length-u,by exact Po p,by exact Kz p,by exact Qw p,by exact Nl ‹_›⟩
  ·exact⟨64-(off+u)%64,by exact Tn,by exact Uh,by exact Kj ‹_›,by exact Uj⟩
 refine db (v:=.int m) (cp (aG (cI (nS X1 B (aB rfl) rfl) (aB rfl)) (aG (cI (cp (aG (aB rfl) aI) (k7 (gD (by assumption) (by decide)))) (aB rfl)) aI)) λQ q=>yi Q (by exact x▸q)) ?_;refine gL (N:=N+4) X1 I1 B rfl (aB rfl) (zL hr) hr.2 λah J X2 E2 I2 S2=>?_
 have M:=I2.held _ rfl;have Y:=I2.len _ M;have C:(Xl u (WQ (u+m) bs)).length=m:=by rw [VL,Ps];exact Lz x p
 refine Ho (Py (aB rfl) (aB rfl) (bj (w:=.int (u+m:Nat)) (aY (aB rfl) (aB rfl)) (congrArg V.int rfl)) (UJ (NM _ _) z (Q6 hi ab))) (aE (aB rfl) (X2.at (.buf _) M) rfl rfl rfl) (aB rfl) (aY (aB rfl) (aB rfl)) (Hr (a:=(off+u)%64) (c:=(off+u)%64+m) (X2.at (.dat _) M) (Bg Y) ?_ ?_ ⟨by exact NM _ _,by exact LF C⟩ (zy (P:=λy=>aZ _ _ _ _ _ y) X2 M λai X3 E3=>?_))
 ·show some (cM _ _)=_;unfold cM;rw [if_neg (by exact Int.not_lt.mpr (Int.natCast_nonneg _)),Y,Int.toNat_natCast,UO (by(clear G;exact gD (NM _ _) ‹_›))]
 ·show some (cM _ _)=_;unfold cM;rw [if_neg (by(clear G;exact Int.not_lt.mpr (Int.natCast_nonneg _))),Y,show((((off+u)%64:Nat):Int)+(m:Int)).toNat=(off+u)%64+m by rfl,UO O]
 have ae:(WQ ((off+u)%64) (J.data (A ((off+u)/64)))++Xl u (WQ (u+m) bs)++Xl ((off+u)%64+m) (J.data (A ((off+u)/64)))).length=64:=by
  rw [pS,pS,Ps,C,VL];exact Rv x z Y
 refine Cf (N:=N+4) X3 (I2.dt ae) (S2.s B) (zL hr) hr.2 (S2.c (P1.calls▸hc)) rfl rfl λaf aa X4 E4 I4 S4=>?_
 have U:=lA S2 M S4;refine cY (aB rfl) (q af aa A m X4 ((E1.trans E2).trans (E3.trans E4)) I4 (P1.trans U.pr) ((F1.wr h1 U.nd U.cont).oeq λj=>?_) G z O h1 h2 λh=>by rw [show aa.places=ac.places from congrArg Nd.places U.nd];exact hN h);have hd:=xq (b:=J.data (A ((off+u)/64))) (r:=Xl u (WQ (u+m) bs)) (s:=(off+u)%64) (k:=j%64) (K5 x z C Y);rw [C] at hd;unfold gM;by_cases e:j/64=(off+u)/64
 ·rw [eX e,hd];by_cases h5:(off+u)%64<=j%64/\j%64<(off+u)%64+m
  ·rw [eX h5,eX (by exact Pc h5 e),p9,qv,eX (by exact Pe h5)];congr 1;exact MX h5 e
  ·have o:=F1.o j;rw [e,if_neg h1,<-S2.cont,bU M] at o;refine(if_neg h5).trans ?_;rw [<-o];unfold gM;by_cases D:off<=j/\j<off+u
   ·rw [eX D,eX (by exact Gg D)]
   ·rw [if_neg D,if_neg (by lia)]
 ·rw [if_neg e];by_cases D:off<=j/\j<off+u
  ·rw [eX D,eX (by exact Gg D)]
  ·rw [if_neg D,if_neg (by exact KQ x z D e)]
end
end
section
structure Wr(st st':St):Prop where
 nd:st'.toNd={st.toNd with aplaces:=st'.aplaces,places:=st'.places,size:=st'.size}
 lat:st'.latest=st.latest
 kep:st'.kept=st.kept
 unf:st'.unfl=st.unfl
theorem Wr.trans{a b c:St}(h:Wr a b)(k:Wr b c):Wr a c:=⟨by rw [k.nd,h.nd],k.lat.trans h.lat,k.kep.trans h.kep,k.unf.trans h.unf⟩
def Pr.wr{a b:St}(h:Pr a b):Wr a b:=⟨by rw [h.size,show b.aplaces=a.aplaces from(congrArg Nd.aplaces h.nd:)];exact h.nd,h.lat,h.kep,h.unf⟩
theorem Wr.calls{a b:St}(h:Wr a b):b.calls=a.calls:=by have:=congrArg Nd.calls h.nd;exact this
theorem Wr.stage{a b:St}(h:Wr a b):b.stage=a.stage:=by have:=congrArg Nd.stage h.nd;exact this
def kP(g:Fx)(st:St):Prop:=∃b:List UInt8,b.length=64/\cont st 18=jN b (bV g.d).toNat st.toNd
section
variable{g:Fx}{u:H}{st st':St}{N:Nat}{Q:V->H->Prop}{P:Fl->Fs->H->Prop}{n:Int}{m:Fs}{b bs:List UInt8}{ss:Ss}{e o j:E}{nb:Int}{d i k p y off:Nat}{bn:Nat->Int}{oc:Nat->Nat}{x:Cx}{nn:Nat}
def lU(X:aW g u st)(b:14<=st.stage)(q:Q (.int (64*(g.d+16))) u):tb.cf (N+2) 173 [.ref g.plan] Q u:=
 kR (cO (lW (aE (aB rfl) (X.at .plan (aM b)) rfl rfl rfl) (b8 (aB rfl) (X.at .plan (aM b)) ew rfl rfl aI (jc X b ⟨.of_left (Ex (by decide) (by decide)),q⟩))))
def Up.fi(F:Fi g st d bn oc){f:List UInt8}(U:Up st st' (cT (L04.cont st) 18 f)):Fi g st' d bn oc:=F.same U.nd λk h=>(U.cont k).trans (if_neg h)
inductive WrI(g:Fx)(st:St)(σ:H)(d:Nat)(bn:Nat->Int)(oc:Nat->Nat)(off:Nat)(bs:List UInt8)(z:Nat)(m:Fs)(σ':H):Prop
 |mk (st':St) (bn':Nat->Int) (dn:Nat) (h0:z=bs.length-dn) (h1:dn<=bs.length) (h2:aW g σ' st') (h3:bv g σ st σ' st') (h4:Inv g st' none) (h5:Pr st st') (h6:Fi g st' d bn' (gM oc off dn bs)) (h7:(∀i,bn' i≠0↔bn i≠0\/(0<dn/\off<64*i+64/\64*i<off+dn))) (h8:aC m 0=some (.ref g.nodes)) (h9:aC m 1=some (.ref g.node)) (h10:aC m 2=some (.int (off:Int))) (h11:aC m 3=some (.bytes bs)) (h12:aC m 4=some (.int (dn:Int))) (h13:aC m 5=some (.bool (decide (0<dn)))) (h14:(rM d st.places bn->rM d st'.places bn'))
def AQ(X:aW g u st)(I:Inv g st none)(G:14<=st.stage)(hc:st.calls≠0)(F:Fi g st d bn oc)(B:0<bs.length)(hb:bs.length<=1000)(hi:(off+bs.length:Int)<=64*(g.B-21))(hsz:st.size<=10000)
  (q:∀k st' M,aW g k st'->bv g u st k st'->Inv g st' none->Wr st st'->Fi g st' d M (gM oc off bs.length bs)->(∀i,M i≠0↔bn i≠0\/(off<64*i+64/\64*i<off+bs.length))->st'.size=(if (off+bs.length:Int)>st.size then(off+bs.length:Int) else st.size)->kP g st'->(rM d st.places bn->rM d st'.places M)->Q (.int bs.length) k):tb.cf (N+9) 443 [.ref g.nodes,.ref g.node,.int off,.bytes bs] Q u:=by
 have O:=I.B26;refine qB (dH (pB (aB rfl) aN) (decide_eq_false (by exact Int.not_lt.mpr (Int.natCast_nonneg _))) ?_);refine N4 (b8 (mR X G (aB rfl)) (X.at .plan (aM G)) gw rfl rfl aI (lU (N:=N+6) X G (fZ (t:=false) (by show some (decide _)=_;rw [decide_eq_false (by exact M9 hi F.L.d O)]) _ ?_))) (aY (aB rfl) (cp (aG (aB rfl) aI) (k7 (gD (by assumption) (by decide)))));refine cH (lr (aB rfl) (X.at .nodes (aM G)) rfl rfl ck (bJ (gj aI rfl λpp hp=>cW (N:=N+6) (xs:= []) (X.new hp) I G hc (H.put_same ..) (by decide) ⟨0,0,λz hz=>nM hz⟩ (λx hx=>nM hx) λan X0 E0=>⟨rfl,?_⟩)));refine fL (C5 (aG aN (aG aN aI)) rfl λr hr=>za (R:=λm=>aZ _ _ _ _ m _) (H.put_same ..) rfl (by decide) ?_);refine IP (λz m k=>WrI g st u d bn oc off bs z m k)
  bs.length ⟨st,bn,0,rfl,Tl _,X0.new hr,((bv.new hp).trans E0).trans (bv.new hr),I,⟨rfl,rfl,rfl,rfl⟩,F.oeq λi=>?_,λi=>⟨.inl,λh=>h.elim id λh=>nL h.1⟩,rfl,rfl,rfl,rfl,rfl,rfl,id⟩ λz m U hh I' kI=>?_
 ·unfold gM;rw [if_neg (by exact ND)]
 obtain⟨p,ab,y,hz,ac,A,E1,I1,P1,Y,ae,m0,m1,m2,m3,D,m5,hN⟩:=hh;have c:=P1.stage▸G;have t1:=pB (σ:=U) (aB D) (cp (t:= "len") (v:=.int bs.length) (aG (aB m3) aI) (k7 (Q6 hi O)));by_cases aa:y<bs.length
 ·refine wY (tT t1 (lO (by(clear ac;exact Int.ofNat_lt.mpr ‹_›)))) (oh (b8 (vx A c (aB m0)) (A.at .jour (aM c)) oH rfl rfl aI (yC (N:=N+7) A (aM c) (by have:=I1.nums8;exact gD (by assumption) (by decide)) (aE (aB m0) (A.at .nodes (aM c)) rfl rfl rfl _ _ _ (fZ (t:=true) (by show some (decide _)=_;rw [lO (by exact Og I1.nums8)]) _ ?_)))));refine db aN (bX (b8 (aB (aP m0)) (A.at .nodes (aM c)) mD rfl rfl (aG (aB (aP m1)) (aG (bj (w:=.int (off+y:Nat)) (aY (aB (aP m2)) (aB (aP D))) (congrArg V.int rfl)) (aG (aB (aP m3)) (aG (aB (aP D)) aI)))) (rr (N:=N) A I1 c (P1.calls▸hc) aa hb Y hi λj b aj pt X2 E2 I2 P2 F2 p0 p1 p2 h1 h2 ak=>?_)));refine dH (jV (aB ct) aN) (decide_eq_false (GO p0)) (db (bj (w:=.int (y+pt:Nat)) (aY (aB (aP (aP D))) (aB ct)) (congrArg V.int (Qi))) (bE (kI (bs.length-(y+pt)) _ _ (FY p0 aa hz) ⟨b,aj,y+pt,rfl,p1,X2,E1.trans E2,I2,P1.trans P2,F2,λi=>?_,aP (aP (aP m0)),aP (aP (aP m1)),aP (aP (aP m2)),aP (aP (aP m3)),ct,aP (aP ?_),λh=>ak (hN h)⟩)))
  ·by_cases e:i=(off+y)/64
   ·exact⟨λJ=>.inr ⟨by exact Bb p0,by exact Pd e,by exact KK p0 e⟩,λJ=>by exact e▸h1⟩
   ·rw [h2 i e,ae i];constructor
    ·rintro (h|h)
     ·exact .inl h
     ·exact .inr ⟨by exact Bb p0,by exact Rs h,by exact Mn h⟩
    ·rintro (h|h)
     ·exact .inl h
     ·exact .inr ⟨by exact Qn p2 h e,by exact Lh h,by exact KJ p2 h e⟩
  ·rw [lO (by exact Bb p0)];exact ct
 ·have af:y=bs.length:=by exact N5 ac aa
  subst af;refine ip (s:=false) (t:=true) (by rw [decide_eq_false (by exact Kh)] at t1;exact t1) (λh=>fT h) _ _ _ ?_;have t2:=ip (t:=decide (((off:Int)+(bs.length:Int))>p.size)) (tT (Am (aB D) (aN (σ:=U) (v:=.int 0))) (lO (by exact Int.ofNat_lt.mpr ‹_›))) λJ=>Am (aY (aB m2) (aB D)) (aE (i:=19) (aB m1) (A.at .node (aM c)) rfl rfl rfl)
  have fin:∀(P:Fl->Fs->H->Prop) (j:H) (b:St),(∀v m u,uv Q (.ret v) m u->P (.ret v) m u)->aW g j b->bv g u st j b->Inv g b none->Wr st b->Fi g b d ab (gM oc off bs.length bs)->b.places=p.places->b.size=(if (off+bs.length:Int)>st.size then(off+bs.length:Int) else st.size)->
    aZ (tb.cx (N+8)) (N+8) (.cons (.ite (.or2 (.v 5) (.cmp .Gt (.mc (.attr (.v 0) 21) 106 .nil) (.k (.int 0)))) (.cons (.ex (.mc (.v 0) 105 (.cons (.v 1) .nil))) .nil) .nil) (.cons (.ret (.v 4)) .nil)) P m j:=λP j b hP X2 E2 I2 W2 F2 al ag=>by
   refine dS (SQ (t:=false) (tV m5) λh=>by have h:=lO B▸h;exact xF h) (by rw [lO B];rfl) ?_;have ah:=W2.stage▸G;refine cH (b8 (aB m0) (X2.at .nodes (aM ah)) kn rfl rfl (aG (aB m1) aI) (sD (N:=N+4) X2 I2 ah (W2.calls▸hc) F2.L λam ai X3 E3 I3 U3=>⟨rfl,?_⟩));refine bE (Q:=mG _ _ _ _) (cY (aB D) (hP _ _ _ (q am ai ab X3 (E2.trans E3) I3 (W2.trans U3.pr.wr) (Up.fi F2 U3) (λi=>(ae i).trans ?_) ?_ ⟨cont b 18,dG I2 18,?_⟩ λh=>by rw [show ai.places=b.places from congrArg Nd.places U3.nd,al];exact hN h)))
   ·constructor
    ·rintro (h|h)
     ·exact .inl h
     ·exact .inr h.2
    ·rintro (h|h)
     ·exact .inl h
     ·exact .inr ⟨B,h⟩
   ·exact congrArg Nd.size U3.nd▸ag
   ·rw [U3.nd,U3.cont];exact eX rfl
  have ez:=P1.size;by_cases C:((off:Int)+(bs.length:Int))>p.size
  ·refine dS t2 (by exact(lO C)) (sX (aY (aB m2) (aB D)) (aB m1) (A.at .node (aM c)) rfl rfl (cU (P:=λu=>aZ _ _ _ _ _ u) A .node (aM c) {p with size:=(off:Int)+(bs.length:Int)} rfl (λJ J=>rfl) (λJ h=>h) (by walk_at "hob") A.tup (λh=>nomatch h) λj X2 E2=>?_));refine bE (Q:=mG _ _ _ _) (fin _ j _ (λJ J J h=>h) X2 (E1.trans E2) {I1 with} (P1.wr.trans ⟨rfl,rfl,rfl,rfl⟩) ⟨Y.hd,{Y.L with sz:=⟨by(clear B;exact Int.natCast_nonneg _),by exact SI hi O⟩},Y.b,Y.mp,Y.o⟩ rfl ?_);rw [eX (by exact Qp C ez)]
  ·refine dH t2 (by exact(decide_eq_false C)) (fin _ U p (λJ J J h=>h) A E1 I1 P1.wr Y rfl (by rw [if_neg (by exact Si ez C)];exact ez))
end
end
section
def jA(g:Fx)(u:H)(st:St)(r:iS)(o:AO):Prop:=u r=some o/\¬gh g st r
section
variable{g:Fx}{u y:H}{st st':St}{N:Nat}{Q:V->H->Prop}{P:Fl->Fs->H->Prop}{n:Int}{m:Fs}{b bs:List UInt8}{ss:Ss}{e o j:E}{nb:Int}{d i k p dn off cnt s:Nat}{bn:Nat->Int}{oc:Nat->Nat}{x:Cx}{nn:Nat}{r c:iS}{ob':AO}
def jA.ext(h:jA g u st r ob')(E:bv g u st y st'):jA g y st' r ob':=by
 have b:u r≠none:=by exact h.1▸λh=>sN h
 exact⟨(E.out r b h.2).trans h.1,λc=>(E.grow r c).elim h.2 b⟩
def jA.new(X:aW g u st)(b:u r=none):jA g (u.put r ob') st r ob':=⟨H.put_same ..,X.fresh b⟩
def jA.ne(h:jA g u st r ob')(b:u c=none):c≠r:=λe=>by rw [e] at b;exact sN (h.1▸b)
def aW.own(X:aW g u st)(h:jA g u st r (.ba b)){o:AO}:aW g (u.put r o) st:=X.other
 (λq c=>H.put_ne u o λe=>by
  by_cases j:q=.plan
  ·subst j;have:=X.at .plan c;rw [e] at this;have this:=h.1▸this;exact oI AO.ctorIdx this rfl
  ·exact h.2 ⟨q,c,j,e⟩)
 (λt k=>H.put_ne u o λe=>by have:=X.tup t k;rw [e] at this;have this:=h.1▸this;exact oI AO.ctorIdx this rfl)
def eBa{c:Es}{R:V->H->Prop}(g:Ev m u o (.ref r))(hp:u r=some (.ba b))(k:lf x nn m c (λvs u=>Fm x nn (.ref r) .ba 202 vs R u) u):xE x nn m (.mc o 202 c) R u:=g _ _ _ (by
 have:et x u (.ref r) 202=some .ba:=by unfold et;dsimp only;rw [hp];rfl
 exact this▸k)
def My{R:V->H->Prop}(hp:u r=some (.ba b))(h:u c=some (.ba bs))(g:c≠r)(j:b.length<=1000000)(m:bs.length<=1000000)(k:R .none (u.put r (.ba (b++bs)))):Fm x nn (.ref r) .ba 202 [.ref c] R u:=by
 show(match u r with|some ob=>jd .ba r ob 202 [.ref c] R u|none=>False);refine hp▸ ?_;refine⟨j,?_⟩;show(match u c with|some (.ba p)=>c≠r/\p.length<=1000000/\_|_=>False);exact h▸⟨g,m,k⟩
def Na{lo g:E}{l h:Nat}{R:V->H->Prop}(j:Ev m u o (.ref r))(p:Ev m u lo (.int (l:Int)))(s:Ev m u g (.int (h:Int)))(hp:u r=some (.ba b))(y:l<=h)(v:h<=b.length)(w:b.length<=1000000)(k:∀c,u c=none->R (.ref c) (u.put c (.ba ((b.take h).drop l)))):xE x nn m (.slc o lo g) R u:=j _ _ _ (p _ _ _ (s _ _ _ (by
 unfold jP;dsimp only;rw [hp];refine⟨w,?_⟩;delta dm mL mP cM;dsimp only;rw [if_neg (by exact Int.not_lt.mpr (Int.natCast_nonneg _)),if_neg (by exact DF),Int.toNat_natCast,Int.toNat_natCast,UO (by exact gD ‹_› ‹_›),UO v]
 exact k)))
noncomputable def rd(oc:Nat->Nat)(off n:Nat):List UInt8:=(oS n).map λi=>Tk (oc (off+i))
def bu:(rd oc off k).length=k:=by unfold rd;rw [eS,tS]
def ni{j:Nat}(h:j<(rd oc off k).length):(rd oc off k)[j]=Tk (oc (off+j)):=by simp [rd]
def tF{t:Bool}(h:fc m u e t)(w:t=false):fc m u e false:=w▸h
def HQ:rd oc off (k+i)=rd oc off k++rd oc (off+k) i:=by
 unfold rd;rw [Yt,Lo,VK]
 congr 1
 refine Ws λj J=>?_
 show Tk (oc (off+(k+j)))=Tk (oc (off+k+j));rw [abc]
def Fn(h:∀j,off<=j->j<off+k->oc j=0):rd oc off k=oR k 0:=by
 refine Wf (by rw [bu,vS]) λj b c=>?_
 rw [ni,W0,h _ (NM _ _) (by rw [bu] at b;exact VR ‹_› _)];rfl
def Jj(g:s+k<=b.length)(h:∀j,j<k->oc (off+j)=oct b (s+j)):rd oc off k=(b.take (s+k)).drop s:=by
 refine Wf (by refine bu▸ ?_;rw [VL,Ps];exact PN g) λj m p=>?_
 have c:=m;rw [bu] at c;rw [ni,h _ c,aaj,Wa];unfold oct;rw [yS (by lia)];simp
inductive RdI(g:Fx)(st:St)(σ:H)(off T:Nat)(r:iS)(oc:Nat->Nat)(z:Nat)(m:Fs)(σ':H):Prop
 |mk (st':St) (at':Nat) (h0:z=T-at') (h1:off<=at') (h2:(off<=T->at'<=T)) (h3:(T<=off->at'=off)) (h4:aW g σ' st') (h5:bv g σ st σ' st') (h6:Inv g st' none) (h7:aU st st') (h8:jA g σ' st' r (.ba (rd oc off (at'-off)))) (h9:aC m 0=some (.ref g.nodes)) (h10:aC m 1=some (.ref g.node)) (h11:aC m 2=some (.int (at':Int))) (h12:aC m 4=some (.int (T:Int))) (h13:aC m 5=some (.ref r))
def EP(X:aW g u st)(I:Inv g st none)(hs:14<=st.stage)(F:Fi g st d bn oc)(hsz:st.size=(s:Int))(ab:(s:Int)<=64*(g.B-21))(am:off<=10000)(M:cnt<=10000)
  (q:∀y st',aW g y st'->bv g u st y st'->Inv g st' none->aU st st'->Q (.bytes (rd oc off (min s (off+cnt)-off))) y):tb.cf (N+8) 436 [.ref g.nodes,.ref g.node,.int off,.int cnt] Q u:=by
 have ag:=I.B26;have hd:=F.hd;refine rD (dH (DP (tF (pB (aB rfl) aN) (decide_eq_false (DF))) (tF (pB (aB rfl) aN) (decide_eq_false (DF)))) rfl ?_);refine db (v:=.int (min s (off+cnt):Nat)) (cp (aG (aE (aB rfl) (X.at .node (aM hs)) rfl rfl rfl) (aG (aY (aB rfl) (aB rfl)) aI)) λQ q=>yi Q ?_) (bX (pk aI λr hr=>?_))
 ·have e:(if ((off:Int)+(cnt:Int))<st.size then(off:Int)+(cnt:Int) else st.size)=((min s (off+cnt):Nat):Int):=by rw [hsz];split<;>(clear hd hsz hs;omega)
  exact e▸q
 generalize hT:min s (off+cnt)=T;rw [hT] at q;refine IP (λz m y=>RdI g st u off T r oc z m y)
  (T-off) ⟨st,off,rfl,oP _,id,λJ=>rfl,X.new hr,bv.new hr,I,.rfl,by rw [abz];exact jA.new X hr,rfl,rfl,rfl,rfl,rfl⟩ λz m ac ah I' kI=>?_
 obtain⟨ai,p,hz,h1,h2,h3,X1,E1,I1,S1,O1,O,m1,m2,m4,m5⟩:=ah;have G:=S1.s hs;refine pB (aB m2) (aB m4) _ _ _ ?_;by_cases D:p<T
 ·rw [lO (by(clear hz q;exact Int.ofNat_lt.mpr ‹_›))];have hq:Int.fdiv (p:Int) 64=((p/64:Nat):Int):=by exact(Int.fdiv_eq_ediv_of_nonneg _ (by decide))
  have hm:Int.fmod (p:Int) 64=((p%64:Nat):Int):=by exact(Int.fmod_eq_emod_of_nonneg _ (by decide))
  obtain⟨A,B,p0,p1,p2⟩:∃A:Nat,(if ((T:Int)-(p:Int))<64-((p%64:Nat):Int) then(T:Int)-(p:Int) else 64-((p%64:Nat):Int))=A/\0<A/\p+A<=T/\p%64+A<=64:=by
   split
   ·exact⟨T-p,by exact Po D,by exact Kz D,by exact Qw D,by exact Np ‹_›⟩
   ·exact⟨64-p%64,by exact Nq,by exact Kr,by exact La ‹_›,by exact N2⟩
  refine db (bj (i5 (aB m2) (nS X1 G (aB O) rfl) (by decide)) (congrArg V.int hm)) (db (v:=.int A) (cp (aG (cI (nS X1 G (aB (aP O)) rfl) (aB ct)) (aG (cI (aB (aP m4)) (aB (aP m2))) aI)) λQ q=>yi Q (by exact B▸q)) ?_);refine bX (b8 (aB (aP (aP O))) (X1.at .nodes (aM G)) ia rfl rfl (aG (aB (aP (aP m1))) (aG (bj (gP (aB (aP (aP m2))) (nS X1 G (aB (aP (aP O))) rfl) (by decide) (Ab (by decide))) (congrArg V.int hq)) (aG aN aI))) (xw (N:=N) X1 I1 G (F.same S1.sm.nd λk J=>S1.cont k) (KG hT ab p0 p1 ag) λan aj X2 E2 I2 S2=>?_));have S:=S1.trans S2;have O2:=O1.ext E2;have F2:=F.same S.sm.nd λk J=>S.cont k
  have U:(rd oc off (p-off)).length<=1000000:=by rw [bu];exact MS B hT M
  have fin:∀(P:Fl->Fs->H->Prop) (Y:Fs) (C:H) (x:St),(∀m u,I' m u->P .next m u)->aC Y 0=some (.ref g.nodes)->aC Y 1=some (.ref g.node)->aC Y 2=some (.int (p:Int))->aC Y 4=some (.int (T:Int))->aC Y 5=some (.ref r)->aC Y 7=some (.int (A:Int))->aW g C x->bv g u st C x->Inv g x none->aU st x->jA g C x r (.ba (rd oc off (p-off)++rd oc p A))->
    aZ (tb.cx (N+7)) (N+7) (.cons (.asg (.v 2) (.bin .Add (.v 2) (.v 7))) .nil) P Y C:=λP Y C x hP n0 n1 n2 n4 n5 n7 X3 E3 I3 S3 O3=>
   have ak:=by
    have:=HQ (oc:=oc) (off:=off) (k:=p-off) (i:=A);rw [show p-off+A=p+A-off by exact Kf h1,show off+(p-off)=p by exact Mg h1] at this;exact this
   db (bj (w:=.int (p+A:Nat)) (aY (aB n2) (aB n7)) (congrArg V.int rfl)) (bE (hP _ _ (kI (T-(p+A)) _ _ (FY p0 D hz) ⟨x,p+A,rfl,by(clear p0;exact gD ‹_› (NM _ _)),λJ=>p1,λh=>by exact Ph p0 p1 h1 h,X3,E3,I3,S3,by exact ak▸O3,aP n0,aP n1,ct,aP n4,aP n5⟩)))
  by_cases h0:bn (p/64)=0
  ·refine dS (jV (aB ct) aN) (lO h0) ?_;refine cH (CI (r:=rd oc p A) (aB (aP (aP (aP m5)))) O2.1 (aG (wh (aG (aB (aP ct)) aI) λQ q=>⟨by(clear p0;exact Int.natCast_nonneg _),by exact NU B p1,?_⟩) aI) U (by exact bu▸GH B p1) ⟨rfl,?_⟩)
   ·rw [Fn λj h4 h5=>by
     have:=F2.o j;rw [show j/64=p/64 by exact JA B h5 h4,eX h0] at this
     exact this] at q
    exact q
   ·exact bE (Q:=mG _ _ _ _) (fin _ _ _ aj (λJ J h=>h) (aP (aP (aP O))) (aP (aP (aP m1))) (aP (aP (aP m2))) (aP (aP (aP m4))) (aP (aP (aP m5))) (aP ct) (X2.own O2) ((E1.trans E2).raw hr) I2 S ⟨H.put_same ..,O2.2⟩)
  have ae:=S.s hs
  ·have af:=(F2.mp.rng _).resolve_left h0;refine BW (jV (aB ct) aN) (decide_eq_false h0) ?_;refine gL (N:=N+4) X2 I2 ae (aP (aP (aP O))) (aB ct) (zL af) af.2 λC x X3 E3 I3 S3=>?_
   have O3:=O2.ext E3;have hn:=I3.held _ rfl;have hl:=I3.len _ hn;refine cH (eBa (aB (aP (aP (aP (aP m5))))) O3.1 (bJ (Na (l:=p%64) (h:=p%64+A) (aE (aB ct) (X3.at (.buf _) hn) rfl rfl rfl) (aB (aP (aP (aP ct)))) (bj (aY (aB (aP (aP (aP ct)))) (aB (aP (aP ct)))) (congrArg V.int rfl)) (X3.at (.dat _) hn) (NM _ _) (FQ B hl) (Bg hl) λc hc=>?_)));have O4:jA g (C.put c (.ba ((WQ (p%64+A) (x.data (bn (p/64)))).drop (p%64)))) x r (.ba (rd oc off (p-off))):=⟨(H.put_ne _ _ (O3.ne hc).symm).trans O3.1,O3.2⟩
   have o:=λj (hj:j<A)=>F2.o (p+j)
   have X4:=X3.new (o:=.ba ((WQ (p%64+A) (x.data (bn (p/64)))).drop (p%64))) hc;have aa:rd oc p A=(WQ (p%64+A) (x.data (bn (p/64)))).drop (p%64):=Jj (FQ B hl) λj hj=>by
    rw [o j hj,show(p+j)/64=p/64 by exact OQ B hj,if_neg h0,((S3.cont (bn (p/64))).symm.trans (bU hn)),show(p+j)%64=p%64+j by exact KX B hj]
   refine My O4.1 (H.put_same ..) (O3.ne hc) U (by rw [<-aa,bu];exact GH B p1) ⟨rfl,?_⟩;rw [<-aa] at O4 X4⊢;refine lM (N:=N+5) (X4.own O4 (o:=.ba (rd oc off (p-off)++rd oc p A))) I3 (S3.s ae) (aP (aP (aP (aP O)))) ct (aU.cln I2 I3 S3) λao al X6 E6 I6 S6=>?_
   have O5:jA g ((C.put c (.ba (rd oc p A))).put r (.ba (rd oc off (p-off)++rd oc p A))) x r (.ba (rd oc off (p-off)++rd oc p A)):=⟨H.put_same ..,O3.2⟩
   exact bE (Q:=mG _ _ _ _) (fin _ _ _ al (λJ J h=>h) (aP (aP (aP (aP O)))) (aP (aP (aP (aP m1)))) (aP (aP (aP (aP m2)))) (aP (aP (aP (aP m4)))) (aP (aP (aP (aP m5)))) (aP (aP ct)) X6 (((((E1.trans E2).trans E3).trans (bv.new hc)).raw hr).trans E6) I6 ((S.trans S3).trans S6) (O5.ext E6))
 ·rw [decide_eq_false (by exact Jz D)];refine cO (pk (aG (aB m5) aI) ?_);show(match ac r with|some (.ba b)=>b.length<=1000000/\_|some (.list xs)=>_|_=>False);refine O1.1▸ ?_;refine⟨by rw [bu];exact Rr hT h2 M h3,?_⟩;exact(by exact PM h2 h3 D:p-off=T-off)▸q ac ai X1 E1 I1 S1
end
end
section
section
variable{g:Fx}{A w:H}{st st':St}{N:Nat}{Q:V->H->Prop}{P:Fl->Fs->H->Prop}{n:Int}{m:Fs}{b bs:List UInt8}{ss:Ss}{e o j:E}{B:Int}{d i k p dn off cnt s:Nat}{bn:Nat->Int}{oc:Nat->Nat}{x:Cx}{nn:Nat}{r c:iS}{ob':AO}
def iE{b j t:E}{c:List Nat}{R:V->H->Prop}(p:gS m c=true)(h:xE x nn m j (λv A=>match sq v A with
   |some k=>iO k (λA u=>c9 A c u m) (λg=>xT x nn g t) (λg=>xE x nn g b) R A
   |none=>False) A):xE x nn m (.comp b c j t) R A:=⟨p,h⟩
def nz(l:List Int):List Int:=l.filter λx=>decide (x≠0)
def FR{y:E}{j:Nat}{xs:List Int}{R:V->H->Prop}(D:gS m [j]=true)(p:Ev m A y (.ref r))(B:A r=some (.list (xs.map .int)))(G:xs.length<=1000)(k:∀c,A c=none->R (.ref c) (A.put c (.list ((nz xs).map .int)))):xE x nn m (.comp (.v j) [j] y (.cmp .NotEq (.v j) (.k (.int 0)))) R A:=by
 refine iE D (p _ _ _ ?_);refine ly B▸ ?_;refine lG (xs:=xs.map .int) (by rw [eS];exact gD (by assumption) (by decide)) (λi b w=>w=A/\b=(nz (xs.take i)).map .int) (λi b w h=>by exact h.1▸B) (λi b w s g M C=>⟨_,rfl,?_⟩) (λb w g c J=>?_) ⟨rfl,rfl⟩
 ·obtain⟨u,v⟩:=g;subst u v;have s:i<xs.length:=by simpa using s
  have e:nz (xs.take (i+1))=nz (xs.take i)++if xs[i]=0 then [] else [xs[i]]:=by
   unfold nz;rw [Gd s,V0]
   congr 1
   by_cases h:xs[i]=0
   ·rw [eX h,WP (by simp [h])];rfl
   ·rw [if_neg h,V4 (by exact eX h)];rfl
  rw [HD];refine GI (aB ct) aN _ _ _ ?_;by_cases h:xs[i]=0
  ·rw [decide_eq_false (λz=>z h)];refine C _ _ ⟨rfl,?_⟩;rw [e,eX h,U9]
  ·rw [lO h];refine SP (aB ct) ⟨?_,C _ _ ⟨rfl,?_⟩⟩
   ·rw [eS];exact gD (Ve ..) (gD (Xh ..) (AW G))
   ·rw [e,if_neg h,Lo];rfl
 ·obtain⟨u,v⟩:=g;subst u v;rw [eS,UV];exact k c J
noncomputable def le(b:List UInt8):List Int:=nz ((oS 16).map λi=>((dK b (4*i):Nat):Int))
def wz(X:aW g A st)(I:Inv g st none)(U:14<=st.stage)(h0:18<=B)(hB:B<g.B)
  (q:∀w st' p,aW g w st'->bv g A st w st'->Inv g st' none->aU st st'->jA g w st' p (.list ((le (cont st B)).map .int))->Q (.ref p) w):tb.cf (N+4) 460 [.ref g.nodes,.int B] Q A:=by
 refine mz (gL (N:=N) X I U rfl (aB rfl) h0 hB λs h Y E1 v x=>?_);have u:=x.s U;have y:=v.held B rfl;have hl:=v.len B y;have q:=((x.cont B).symm.trans (bU y))▸q;refine bX (iE rfl (pk (aG (nS Y u (aB rfl) rfl) aI) ⟨by decide,by decide,λr hr=>?_⟩));have z:=Y.new (o:=.rng 0 16) hr;show(match sq (.ref r) (s.put r (.rng 0 16)) with|some k=>_|none=>False);refine tY (H.put_same ..)▸ ?_;refine dM 16 (λi=>.int (0+(i:Int))) (λi b w=>w=s.put r (.rng 0 16)/\b=((oS i).map λi=>((dK (h.data B) (4*i):Nat):Int)).map .int) (λi b w J C=>?_) (λb w J=>?_) (λi b w j C I' kI=>⟨_,rfl,tK _ _ _ ?_⟩) (λb w j c D=>?_) ⟨rfl,rfl⟩
 ·exact congrArg _ (eX (by exact Li C))
 ·rfl
 ·obtain⟨G,M⟩:=j;subst G M;refine kN (aG (aE (aB rfl) (z.at (.buf B) y) rfl rfl rfl) (aG (cy aN (aB rfl) (.of_left (Ex (by decide) (by decide)))) aI)) eE eV (eJ (N:=N+1) (k:=4*i) (z.at (.dat B) y) (QV) (Ei C hl) (kX hl) ⟨?_,kI _ _ ⟨rfl,?_⟩⟩)
  ·rw [eS,eS,tS];exact Mo C
  ·rw [Wm,Lo,Lo];rfl
 ·obtain⟨G,M⟩:=j;subst G M;refine lM (N:=N+1) (z.new (o:=.list (((oS 16).map λi=>((dK (h.data B) (4*i):Nat):Int)).map .int)) D) v u rfl rfl (aU.cln I v x) λaa O X4 E4 I4 S4=>cO (FR rfl (aB rfl) ((jA.new (ob':=.list (((oS 16).map λi=>((dK (h.data B) (4*i):Nat):Int)).map .int)) z D).ext E4).1 (by rw [eS,tS];decide) λc2 m=>?_)
  exact q _ O c2 (X4.new m) (((E1.trans (bv.new hr)).trans (bv.new D)).trans (E4.trans (bv.new m))) I4 (x.trans S4) (jA.new X4 m)
noncomputable def gK(d:Nat)(bn:Nat->Int)(B:Int):List Int:=nz ((oS (d+16)).map bn)++if B=0 then [] else [B]
def ve(l:List Nat)(f:Nat->Int):nz (l.map f)=(l.filter λi=>decide (f i≠0)).map f:=by
 refine(List.filter_map).trans ?_;rfl
set_option tactic.hygienic true in
def vp(F:Fi g st d bn oc)(I:Inv g st none){k:Int}:k∈gK d bn (at0 st.places d)↔k≠0/\(k=at0 st.places d\/∃i,bn i=k):=by
 unfold gK;rw [Yi,ve,abd];constructor
 ·rintro (⟨i,c,rfl⟩|h)
  ·exact⟨EX (List.mem_filter.mp c).2,.inr ⟨i,rfl⟩⟩
  ·split at h
   ·exact nM h
   ·rename_i b;have:=List.mem_singleton.mp h;exact⟨this▸b,.inl this⟩
 ·rintro ⟨b,h|⟨i,rfl⟩⟩
  ·rw [if_neg (h▸b)];exact .inr (List.mem_singleton.mpr h)
  ·exact .inl ⟨i,List.mem_filter.mpr ⟨List.mem_range.mpr (Q4 (F.mp.lim i b) I.B26),lO b⟩,rfl⟩
def rc(F:Fi g st d bn oc):(gK d bn (at0 st.places d)).Nodup:=by
 unfold gK;rw [ve];refine List.nodup_append.mpr ⟨List.pairwise_map.mpr ((List.nodup_range.filter _).imp_of_mem λ{a b} k r h e=>h (F.mp.inj a b (EX (List.mem_filter.mp k).2) e)),by split<;>simp,λx m y j e=>?_⟩;refine bp (List.mem_map.mp m) λi p c=>?_
 subst c;split at j
 ·exact nM j
 ·exact F.mp.injN i (EX (List.mem_filter.mp p).2) (e.trans (List.mem_singleton.mp j))
def y8(F:Fi g st d bn oc)(I:Inv g st none){k:Int}(h:k∈gK d bn (at0 st.places d)):20<=k/\k<g.B/\bt (cont st 19) k=true:=by
 obtain⟨c,h⟩:=(vp F I).mp h;have b:20<=k/\k<g.B:=by
  rcases h with h|⟨i,h⟩
  ·exact h▸F.mp.rngN.resolve_left (h▸c)
  ·exact h▸(F.mp.rng i).resolve_left (h▸c)
 exact⟨b.1,b.2,(F.mp.bit k b.1 b.2).mpr h⟩
def Af(F:Fi g st d bn oc):st.places=(oS d).map bn++ [at0 st.places d]:=by
 have b:=F.lenN;refine Wf (by rw [pS,eS,tS];exact b) λi c j=>?_
 have e:at0 st.places i=st.places[i]:=by unfold at0;rw [yS c];rfl
 by_cases h:i<d
 ·rw [List.getElem_append_left (by simpa using h),HD,Xt,<-F.bd h,e]
 ·obtain rfl:i=d:=by exact Jv c b h
  rw [List.getElem_append_right (by simp),List.getElem_singleton,e]
def xO(F:Fi g st d bn oc):gK d bn (at0 st.places d)=if at0 st.places d=0 then nz ((oS d).map bn) else nz ((oS d).map bn)++le (cont st (at0 st.places d))++ [at0 st.places d]:=by
 unfold gK;rw [Yt,Lo,VK];show List.filter _ (_++_)++_=_;rw [V0];by_cases h:at0 st.places d=0
 ·rw [eX h,eX h,U9];have:(Wz (bn∘λx=>d+x) (oS 16)).filter (λx=>decide (x≠0))= []:=List.filter_eq_nil_iff.mpr λx c=>by
   refine bp (List.mem_map.mp c) λi J b=>?_
   subst b;show ¬decide (bn (d+i)≠0)=true;rw [F.b0 (by exact Gc) h];decide
  rw [this,U9];rfl
 ·rw [if_neg h,if_neg h];have:Wz (bn∘λx=>d+x) (oS 16)=(oS 16).map λi=>((dK (cont st (at0 st.places d)) (4*i):Nat):Int):=Ws λi J=>by
   show bn (d+i)=_;rw [F.bw (by exact Gc) h,show d+i-d=i by exact Ou]
  rw [this];rfl
noncomputable def vG(b:List UInt8):List Int->List UInt8
 | []=>b
 |k::r=>vG (flip b k) r
def BO:(flip b n).length=b.length:=by exact(Wo)
theorem sA:∀ {l:List Int} {b:List UInt8} {k:Int},vG b (l++ [k])=flip (vG b l) k
 | [],_,_=>rfl
 |x::r,b,k=>sA (l:=r)
theorem qC:∀ {l:List Int} {b:List UInt8} {k:Int},b.length=64->(∀x∈l,0<=x/\x<32)->l.Nodup->0<=k->bt (vG b l) k=if k∈l then !bt b k else bt b k
 | [],b,k,_,_,_,_=>by rfl
 |x::r,b,k,j,m,c,p=>by
  have s:=m x FS;have c:=List.nodup_cons.mp c;refine(qC (BO.trans j) (λy u=>m y (ES _ u)) c.2 p).trans ?_;rw [yN (by exact Ov s j) s.1 p];by_cases e:k=x
  ·subst e;rw [eX rfl,if_neg c.1,eX FS]
  ·rw [if_neg e];by_cases g:k∈r
   ·rw [eX g,eX (ES _ g)]
   ·rw [if_neg g,if_neg λh=>(List.mem_cons.mp h).elim e g]
end
end
section
section
variable{g:Fx}{u σ':H}{st st':St}{N:Nat}{Q:V->H->Prop}{P:Fl->Fs->H->Prop}{n:Int}{m:Fs}{b bs:List UInt8}{ss:Ss}{e o j:E}{nb:Int}{d i k p dn off cnt s:Nat}{bn:Nat->Int}{oc:Nat->Nat}{x:Cx}{nn:Nat}{r c:iS}{ob':AO}
def jS{c:VP}{l r:E}{R:V->H->Prop}(h:xE x nn m l (λa u=>xE x nn m r (λb u=>qG c a b R u) u) u):xE x nn m (.bin c l r) R u:=h
def va{lo b:E}{a l h:V}{R:V->H->Prop}(c:Ev m u o a)(g:Ev m u lo l)(j:Ev m u b h)(k:jP a l h R u):xE x nn m (.slc o lo b) R u:=c _ _ _ (g _ _ _ (j _ _ _ k))
def zY{a b:iS}{xs ys:List V}{R:V->H->Prop}(g:u a=some (.list xs))(h:u b=some (.list ys))(j:xs.length+ys.length<=1000000)(k:∀c,u c=none->R (.ref c) (u.put c (.list (xs++ys)))):qG .Add (.ref a) (.ref b) R u:=by
 show listAt u a λxs=>listAt u b λys=>_
 unfold listAt;refine g▸ ?_;exact h▸⟨j,k⟩
def Kp{l h:V}{xs ys:List V}{R:V->H->Prop}(hp:u r=some (.list xs))(b:xs.length<=1000000)(g:dm xs l h=some ys)(k:∀c,u c=none->R (.ref c) (u.put c (.list ys))):jP (.ref r) l h R u:=by
 unfold jP;dsimp only;rw [hp];dsimp only;exact g▸⟨b,k⟩
def Ck{xs:List V}{v:V}:dm (xs++ [v]) .none (.int (-1))=some xs:=by
 delta dm mL mP cM;dsimp only;rw [eX (by decide),pS];rw [(by exact Gm:(-1+((xs.length+ [v].length:Nat):Int)).toNat=xs.length)];simp
def Dl{xs:List V}{v:V}:dm (xs++ [v]) (.int (-1)) .none=some [v]:=by
 delta dm mL mP cM;dsimp only;rw [eX (by decide),pS];rw [(by exact Gm:(-1+((xs.length+ [v].length:Nat):Int)).toNat=xs.length),WW (by simp)];simp
def BQ{a b:List Int}:nz (a++b)=nz a++nz b:=V0 ..
def vr(F:Fi g st d bn oc)(I:Inv g st none):(gK d bn (at0 st.places d)).length<=6:=by
 exact bZ (L:= [20,21,22,23,24,25]) (rc F) λk b=>by
  refine eK (y8 F I b) λc h J=>?_
  simp only [VT,WM,or_false];exact NZ c h I.B26
def xt(X:aW g u st)(I:Inv g st none)(x:14<=st.stage)(F:Fi g st d bn oc)
  (q:∀σ' st' r,aW g σ' st'->bv g u st σ' st'->Inv g st' none->aU st st'->jA g σ' st' r (.list ((gK d bn (at0 st.places d)).map .int))->aZ (tb.cx (N+4)) (N+4) ss P (bB (bB [(0,V.ref g.nodes),(1,V.ref g.node)] 2 (.int g.d)) 3 (.ref r)) σ'):
  aZ (tb.cx (N+4)) (N+4) (.cons (.asg (.v 3) (.comp (.v 5) [5] (.attr (.v 1) 20) (.cmp .NotEq (.v 5) (.k (.int 0))))) (.cons (.ite (.cmp .NotEq (.sub (.attr (.v 1) 20) (.v 2)) (.k (.int 0))) (.cons (.asg (.v 3) (.bin .Add (.bin .Add (.slc (.v 3) (.k .none) (.neg (.k (.int 1)))) (.mc (.v 0) 124 (.cons (.sub (.attr (.v 1) 20) (.v 2)) .nil))) (.slc (.v 3) (.neg (.k (.int 1))) (.k .none)))) .nil) .nil) ss)) P
   (bB [(0,V.ref g.nodes),(1,V.ref g.node)] 2 (.int g.d)) u:=by
 have A:=F.hd;have j:=F.L.d;have B:=F.lenN;refine bX (FR rfl (aE (aB rfl) (X.at .node (aM x)) rfl rfl rfl) (X.at .places (aM x)) (Mv B A j) λJ b=>?_);have y:=X.new (o:=.list ((nz st.places).map .int)) b;have C:jA g (u.put J (.list ((nz st.places).map .int))) st J (.list ((nz st.places).map .int)):=jA.new X b;have D:=GI (mH (m:=bB (bB [(0,V.ref g.nodes),(1,V.ref g.node)] 2 (.int g.d)) 3 (.ref J)) y x rfl (bj (aB (i:=2) rfl) (congrArg V.int A)) (by exact AE B:d<st.places.length) (Ch B A j)) (aN (v:=.int 0));have M:=xO F;have pe:=Af F;by_cases k:at0 st.places d=0
 ·refine dH D (decide_eq_false λh=>h k) ?_;have e:nz st.places=gK d bn (at0 st.places d):=by
   have z:nz [at0 st.places d]= []:=by rw [k];rfl
   rw [M,eX k];refine(congrArg nz pe).trans ?_;rw [BQ,z,U9]
  rw [e] at C y⊢;exact q _ st J y (bv.new b) I .rfl C
 have G:=vr F I
 ·have hr:=F.mp.rngN.resolve_left k;have e:(nz st.places).map V.int=(nz ((oS d).map bn)).map .int++ [.int (at0 st.places d)]:=by
   have:nz [at0 st.places d]= [at0 st.places d]:=V4 (by simpa using k);have:=congrArg nz pe;rw [BQ,‹nz [at0 st.places d]=_›] at this;rw [this,Lo];rfl
  rw [if_neg k] at M;have O:(nz ((oS d).map bn)).length+(le (cont st (at0 st.places d))).length+1<=6:=by rw [M] at G;simpa [abc] using G
  refine dS D (lO k) ?_;rw [e] at C y⊢;refine bX (jS (jS (va (aB rfl) aN (GS aN) (Kp C.1 (by rw [pS,eS,Op];exact Gh O) Ck λa U=>?_))));have X2:=y.new (o:=.list ((nz ((oS d).map bn)).map .int)) U;refine b8 (aB rfl) (X2.at .nodes (aM x)) pq rfl rfl (aG (mH X2 x rfl (bj (aB rfl) (congrArg V.int A)) (by exact AE B:d<st.places.length) (Ch B A j)) aI) (wz (N:=N) X2 I x (zL hr) hr.2 λab aa p X3 E3 I3 S3 O3=>?_);refine zY ((jA.new (ob':=.list ((nz ((oS d).map bn)).map .int)) y U).ext E3).1 O3.1 (by rw [eS,eS];exact Qe O) λc Y=>?_
  have X4:=X3.new (o:=.list ((nz ((oS d).map bn)).map .int++(le (cont st (at0 st.places d))).map .int)) Y;have O2:=C.ext (bv.new (o:=.list ((nz ((oS d).map bn)).map .int)) U);refine va (aB rfl) (GS aN) aN (Kp ((O2.ext E3).ext (bv.new (o:=.list ((nz ((oS d).map bn)).map .int++(le (cont st (at0 st.places d))).map .int)) Y)).1 (by rw [pS,eS,Op];exact Gh O) Dl λa2 s=>?_);refine zY ((jA.new (ob':=.list ((nz ((oS d).map bn)).map .int++(le (cont st (at0 st.places d))).map .int)) X3 Y).ext (bv.new (o:=.list [.int (at0 st.places d)]) s)).1 (H.put_same ..) (by rw [pS,eS,eS,Op];exact JK O) λc2 w=>bE (Q:=mG _ _ _ _) ?_
  have e2:(nz ((oS d).map bn)).map V.int++(le (cont st (at0 st.places d))).map V.int++ [.int (at0 st.places d)]=(gK d bn (at0 st.places d)).map .int:=by rw [M,Lo,Lo];rfl
  refine e2▸ ?_;have X5:=X4.new (o:=.list [.int (at0 st.places d)]) s;exact q _ aa c2 (X5.new w) (((((bv.new b).trans (bv.new U)).trans E3).trans (bv.new Y)).trans ((bv.new s).trans (bv.new w))) I3 S3 (jA.new X5 w)
end
end
section
section
variable{g:Fx}{y w:H}{st st':St}{N:Nat}{Q:V->H->Prop}{P:Fl->Fs->H->Prop}{n:Int}{m:Fs}{b bs:List UInt8}{ss:Ss}{e o j:E}{nb:Int}{d i k p dn off cnt s:Nat}{bn:Nat->Int}{oc:Nat->Nat}{x:Cx}{nn:Nat}{r c:iS}{ob':AO}
def PL{b:Es}{R:V->H->Prop}(h:lf x nn m b (λvs y=>vs.length<=1000/\fresh (.list vs) R y) y):xE x nn m (.lst b) R y:=h
def yo{L:List Int}(X:aW g y st)(I:Inv g st none)(b:14<=st.stage)(hc:st.calls≠0)(hd:g.d=1\/g.d=2)(O:jA g y st r (.list (L.map .int)))(hL:∀x∈L,20<=x/\x<g.B)(hl:L.length<=6)
  (M:aC m 0=some (.ref g.nodes)) (m1:aC m 1=some (.ref g.node)) (m3:aC m 3=some (.ref r)) (m6:gS m [6]=true)
  (q:∀w,aW g w st->bv g y st w st->aZ (tb.cx (N+2)) (N+2) ss P m w):
  aZ (tb.cx (N+2)) (N+2) (.cons (.ex (.mc (.v 0) 113 (.cons (.bin .Add (.lst (.cons (.sub (.mc (.attr (.v 0) 23) 109 (.cons (.attr (.v 1) 13) .nil)) (.k (.int 0))) .nil)) (.comp (.sub (.mc (.attr (.v 0) 23) 115 (.cons (.v 6) .nil)) (.k (.int 0))) [6] (.v 3) (.k (.bool true)))) .nil))) ss) P m y:=by
 have Q:=I.B26;have C:=I.B24;refine cH (lr (aB M) (X.at .nodes (aM b)) rfl rfl ck (bJ (jS (PL (bJ (EO (b8 (mR X b (aB M)) (X.at .plan (aM b)) gg rfl rfl (aG (aE (aB m1) (X.at .node (aM b)) rfl rfl rfl) aI) (ny X b hd λa U=>aN _ _ _ (sf (v:=.int 18) (H.put_same ..) ⟨by decide,by decide⟩ rfl _ ⟨by decide,λc j=>?_⟩)))))))));have X1:=X.new (o:=.tuple [.int 18,.int (bV g.d)]) U;have X2:=X1.new (o:=.list [.int 18]) j;have O2:=(O.ext (bv.new (o:=.tuple [.int 18,.int (bV g.d)]) U)).ext (bv.new (o:=.list [.int 18]) j);refine iE m6 (aB m3 _ _ _ ?_);refine ly O2.1▸ ?_;refine lG (xs:=L.map .int) (by rw [eS];exact gD (by assumption) (by decide)) (λi k w=>aW g w st/\bv g y st w st/\jA g w st r (.list (L.map .int))/\jA g w st c (.list [.int 18])/\k=oR i (.int 19)) (λi k w h=>h.2.2.1.1) (λi k w A p I' kI=>⟨_,rfl,tK _ _ _ ?_⟩) (λk w p c2 s=>?_) ⟨X2,((bv.new (g:=g) (st:=st) (o:=.tuple [.int 18,.int (bV g.d)]) U).trans (bv.new (o:=.list [.int 18]) j)),O2,(jA.new (ob':=.list [.int 18]) X1 j),rfl⟩
 ·refine nj p λB Y O3 C3 h=>?_
  have A:i<L.length:=by simpa using A
  have G:=hL _ (US A);subst h;rw [HD];refine EO (b8 (mR B b (aB (aP M))) (B.at .plan (aM b)) b9 rfl rfl (aG (aB ct) aI) (dr B b (On G ‹_› A) (Pn G Q ‹_› A) λu J=>aN _ _ _ (sf (v:=.int 19) (H.put_same ..) ⟨by decide,by decide⟩ rfl _ ⟨by rw [vS];exact MH A hl,kI _ _ ⟨B.new J,Y.trans (bv.new J),O3.ext (bv.new J),C3.ext (bv.new J),?_⟩⟩)));rw [List.replicate_succ']
 ·refine nj p λB Y O3 C3 h=>?_
  subst h;refine zY (C3.ext (bv.new (o:=.list (oR (L.map V.int).length (.int 19))) s)).1 (H.put_same ..) (by rw [vS,eS,Op];exact OW hl) λc3 D=>?_
  refine cW (N:=N) (xs:=18::oR (L.map V.int).length 19) ((B.new (o:=.list (oR (L.map V.int).length (.int 19))) s).new D) I b hc (by rw [IS,ZA];exact H.put_same ..) (by rw [UP,vS,eS];exact Vu (by assumption) (by decide)) ⟨18,19,λz hz=>(List.mem_cons.mp hz).imp id VU⟩ (λx G=>?_) λaa X5 E5=>⟨rfl,q aa X5 ((Y.trans (bv.new s)).trans ((bv.new D).trans E5))⟩
  rcases List.mem_cons.mp G with rfl|h
  ·exact⟨by decide,by exact zX C⟩
  ·exact VU h▸⟨by decide,by exact yD C⟩
noncomputable def St.emp(st:St)(c:iS)(d:Nat)(z:Int):St:={st with aplaces:=c,places:=oR (d+1) 0,size:=z}
inductive TrI(g:Fx)(st:St)(σ:H)(L:List Int)(r:iS)(i:Nat)(m:Fs)(σ':H):Prop
 |mk (st':St) (h0:aW g σ' st') (h1:bv g σ st σ' st') (h2:Inv g st' none) (h3:Up st st' (cT (cont st) 19 (vG (cont st 19) (L.take i)))) (h4:jA g σ' st' r (.list (L.map .int))) (h5:aC m 0=some (.ref g.nodes)) (h6:aC m 1=some (.ref g.node)) (h7:aC m 2=some (.int g.d))
def wC(X:aW g y st)(I:Inv g st none)(hs:14<=st.stage)(hc:st.calls≠0)(F:Fi g st d bn oc)
  (q:∀w st',aW g w st'->bv g y st w st'->Inv g st' none->Wr st st'->Fi g st' d (λJ=>0) (λJ=>0)->st'.size=0->kP g st'->at0 st'.places d=0->Q .none w):tb.cf (N+6) 455 [.ref g.nodes,.ref g.node] Q y:=by
 have aa:=I.B26;refine mt (db (nS X hs (aB rfl) rfl) (xt (N:=N+1) X I hs F λak af r X1 E1 I1 S1 O1=>?_));have ab:=S1.s hs;have hl:=vr F I;have A:=λk D h2 h3=>(vp F I).mpr ⟨by exact UH D,(F.mp.bit k D h2).mp h3⟩
 have s:∀k∈gK d bn (at0 st.places d),20<=k/\k<g.B/\bt (cont st 19) k=true:=λk h=>y8 F I h
 have B:=rc F
 revert O1 hl A s B;refine Mw (gK d bn (at0 st.places d)) λL O1 hl A s B=>?_
 have M:=F.L.d;refine yo (N:=N+3) X1 I1 ab (S1.c hc) M O1 (λx G=>⟨(s x G).1,(s x G).2.1⟩) hl rfl rfl rfl rfl λal X2 E2=>?_
 have O2:=O1.ext E2;refine BU (aB rfl) (ly O2.1) (fU (xs:=L.map .int) (by rw [eS];exact Nv hl) (λi m w=>TrI g st y L r i m w) (λi m w C=>by obtain⟨_,_,_,_,_,O,_⟩:=C;exact O.1) (λi m w U C I' kI=>⟨_,rfl,?_⟩) (λm w C=>?_) ⟨af,X2,E1.trans E2,I1,S1.sm.up.cast λk=>?_,O2,rfl,rfl,rfl⟩)
 ·obtain⟨b,X3,E3,I3,u,O3,m0,m1,m2⟩:=C;have U:i<L.length:=by simpa using U
  refine eK (s _ (US U)) λD h2 h3=>?_
  rw [HD];have ac:=(u.cont 19).trans (eX rfl);have Y:bt (cont b 19) L[i]=true:=by
   rw [ac,qC (dG I 19) (λx G=>by have:=s x (VE G);exact FZ this.1 this.2.1 aa) (B.sublist (List.take_sublist ..)) (by exact JJ D U),if_neg,h3];intro hm;obtain⟨j,hj,e⟩:=Xq hm;rw [Wa] at e;rw [Ps] at hj;have:=(WO B).mp e;exact Cw U hj this
  have p:=u.stage▸hs;refine cH (b8 (aB (aP m0)) (X3.at .nodes (aM p)) l5 rfl rfl (aG (aB ct) aI) (rL (N:=N) X3 I3 p (u.calls▸hc) D h2 Y λam ag X4 E4 I4 U4=>⟨rfl,bE (kI _ _ ⟨ag,X4,E3.trans E4,I4,(u.trans U4).cast λk=>?_,O3.ext E4,aP m0,aP m1,aP m2⟩)⟩));rw [ac,Gd U,sA];unfold cT;by_cases e:k=19
  ·rw [eX e,eX e]
  ·rw [if_neg e,if_neg e,u.cont];exact if_neg e
 have hd:=F.hd
 ·obtain⟨b,X3,E3,I3,u,O3,m0,m1,m2⟩:=C;rw [eS] at u;have u:=UV▸u;have p:=u.stage▸hs;have hz:∀k,20<=k->k<g.B->bt (cont b 19) k=false:=λk D h2=>by
   rw [((u.cont 19).trans (eX rfl)),qC (dG I 19) (λx G=>by have:=s x G;exact FZ this.1 this.2.1 aa) B (by exact GC D)];generalize Y:bt (cont st 19) k=zz;induction zz with
   |true=>rw [eX (A k D h2 Y)];rfl
   |false=>rw [if_neg λh=>by have Y:=(s k h).2.2▸Y;cases Y]
  refine cz (jS (gj (aG aN aI) rfl λa ha=>aY (aB m2) aN _ _ _ ?_));show listAt _ a λxs=>(∃v,xs= [v])/\_
  unfold listAt;rw [H.put_same];refine⟨⟨_,rfl⟩,by exact Lu M,by exact LZ M,λc ae=>?_⟩;have X4:=X3.new (o:=.list [.int 0]) ha;have ah:(oR (g.d+1).toNat [V.int 0]).flatten=(oR (d+1) (0:Int)).map .int:=by
   rw [ZA,hd,show((d:Int)+1).toNat=d+1 by(clear p hl ab;rfl)];exact List.flatten_replicate_singleton
  refine dN (aB m1) ((X4.new (o:=.list (oR (g.d+1).toNat [V.int 0]).flatten) ae).at .node (aM p)) rfl rfl ?_;refine ah▸ ?_;refine LV (P:=λy=>aZ _ _ _ _ _ y) X4 .node .places ae (aM p) (λh=>nomatch h) (b.emp c d b.size) rfl rfl rfl ?_ (λJ h=>h) ?_ X4.tup (λh=>nomatch h) λan X6 E6=>?_
  ·exact An (by kernel_rfl) (λJ=>rfl) λJ=>rfl
  ·exact EE (by kernel_rfl) (λJ=>rfl) λJ=>rfl
  refine sX aN (aB m1) (X6.at .node (aM p)) rfl rfl (cU (P:=λy=>aZ _ _ _ _ _ y) X6 .node (aM p) (b.emp c d 0) rfl (λJ J=>rfl) (λJ h=>h) (by walk_at "hob") X6.tup (λh=>nomatch h) λao X7 E7=>?_);have z:∀i,at0 (oR (d+1) (0:Int)) i=0:=λi=>by
   unfold at0;rw [U1];split<;>rfl
  have L3:=u.nd▸F.L;have L7:Pl g ((b.emp c d 0):St).toNd:=⟨L3.kd,L3.mj,L3.mi,L3.lk,⟨Int.le_refl 0,by show(0:Int)<4294967296;decide⟩,L3.d,by show((oR (d+1) (0:Int)).length:Int)=_;rw [vS,hd];rfl,λx G=>by rw [VU G];exact⟨by decide,by decide⟩⟩
  have F7:Fi g ((b.emp c d 0):St) d (λJ=>0) (λJ=>0):=by
   refine⟨hd,L7,λi=>?_,?_,λi=>rfl⟩
   ·show(if i<d then at0 (oR (d+1) 0) i else if at0 (oR (d+1) 0) d=0 then(0:Int) else _)=0;rw [z,z,eX rfl];split<;>rfl
   ·show Mp _ _ (at0 (oR (d+1) 0) d) _;rw [z];exact Mp.none hz
  refine cH (b8 (aB m0) (X7.at .nodes (aM p)) kn rfl rfl (aG (aB m1) aI) (sD (N:=N+1) X7 {I3 with} p (u.calls▸hc) L7 λai aj X8 E8 I8 U8=>⟨rfl,bE (q ai aj X8 (E3.trans ((bv.new ha).trans (E6.trans (E7.trans E8)))) I8 (u.pr.wr.trans ((⟨rfl,rfl,rfl,rfl⟩:Wr b (b.emp c d 0)).trans U8.pr.wr)) (Up.fi F7 U8) (congrArg Nd.size U8.nd) ⟨cont b 18,dG I3 18,?_⟩ (by exact congrArg Nd.places U8.nd▸z d))⟩));rw [U8.nd,U8.cont];exact eX rfl
 ·unfold cT;by_cases e:k=19
  ·rw [eX e,e];rfl
  ·rw [if_neg e]
end
end
section
noncomputable def St.wc(st:St)(r:iS)(n:Int)(b:List UInt8):St:={st.wr r n b with cw:=st.cw+1}
structure Dk(st:St):Prop where
 fld:st.latest=iw st.kept st.unfl
 kk:∀k,st.kept k≠none->0<=k/\k<100000
 uk:∀t∈st.unfl,0<=t.2.1/\t.2.1<100000
structure Jn(st st':St):Prop where
 nd:st'.toNd=st.toNd
 nums:st'.nums=st.nums
 anums:st'.anums=st.anums
section
variable{g:Fx}{s p:H}{st st':St}{N:Nat}{Q:V->H->Prop}{P:Fl->Fs->H->Prop}{n:Int}{m:Fs}{b bs:List UInt8}{ss:Ss}{e o j:E}{i k:Nat}{x:Cx}{nn:Nat}{r c:iS}
theorem Jn.trans{a b c:St}(h:Jn a b)(k:Jn b c):Jn a c:=⟨k.nd.trans h.nd,k.nums.trans h.nums,k.anums.trans h.anums⟩
def aU.jn{a b:St}(S:aU a b):Jn a b:=⟨S.sm.nd,congrArg (λx=>x.nums) S.hi,congrArg (λx=>x.anums) S.hi⟩
def aU.dk{a b:St}(S:aU a b)(D:Dk a):Dk b:=by
 have c:=S.sm.kep;have g:=S.sm.unf;exact⟨by rw [S.sm.lat,c,g];exact D.fld,by rw [c];exact D.kk,by exact g▸D.uk⟩
def wX(X:aW g s st)(c:st.has n=true)(h:(st.data n).length=64)(q:Q (.bytes (st.data n)) s):tb.cf (N+1) 495 [.ref (st.abuf n)] Q s:=by
 refine mX (cO (pk (aG (aE (aB rfl) (X.at (.buf n) c) rfl rfl rfl) aI) ?_));show(match s (st.adat n) with|some (.ba b)=>b.length<=1000000/\_|some (.list j)=>_|_=>False);rw [show s (st.adat n)=some (.ba (st.data n)) from X.at (.dat n) c];exact⟨by rw [h];decide,q⟩
def yH(X:aW g s st)(I:Inv g st none)(b:18<=n)(u:n<g.B)
  (q:∀p st',aW g p st'->bv g s st p st'->Inv g st' none->aU st st'->Q (.bytes (cont st n)) p):tb.cf (N+4) 649 [.ref g.cache,.int n] Q s:=by
 refine r9 (bX (b8 (aB rfl) (X.at .cache (aM I.stg)) kY rfl rfl (aG (aB rfl) aI) (mU X I (v9 b) u (ui b u I.B26) λv w h x c k=>?_)));have j:=c.held n rfl;refine bX (b8 (aB rfl) (h.at (.buf n) j) kq rfl rfl aI (wX (N:=N+2) h j (c.len n j) ?_));refine cH (b8 (aB rfl) (h.at .cache (aM c.stg)) eO rfl rfl (aG (aB rfl) aI) (gi (N:=N+1) h c (aU.cln I c k) λm r y z A B=>⟨rfl,cY (aB rfl) ?_⟩));rw [<-bU j,k.cont];exact q m r y (x.trans z) A (k.trans B)
def Hk(X:aW g s st)(h:st.has n=true)(j:(st.data n).length=64)(m:b.length=64)(k:∀p,aW g p (st.dt n b)->bv g s st p (st.dt n b)->Q .none p):tb.cf (N+1) 523 [.ref (st.abuf n),.bytes b] Q s:=by
 refine rb (dH (GI (cp (aG (aB rfl) aI) (k7 (by rw [m];decide))) (cp (aG (aE (aB rfl) (X.at (.buf n) h) rfl rfl rfl) aI) (H3 (X.at (.dat n) h) (by rw [j];decide)))) (by rw [m,j];rfl) ?_);refine Ho (aB rfl) (aE (aB rfl) (X.at (.buf n) h) rfl rfl rfl) aN aN (Hr (a:=0) (c:=64) (X.at (.dat n) h) (by rw [j];decide) rfl (by show some _=_;rw [j]) ⟨by decide,m⟩ ?_);have:(st.data n).take 0++b++(st.data n).drop 64=b:=by rw [V9 (by rw [j];exact oP _)];exact U9 _
 rw [this];exact zy (P:=λs=>aZ _ _ _ _ _ s) X h λp r u=>bE (k p r u)
theorem Inv.wr(I:Inv g st (some n))(p:0<=n)(s:n<g.B)(u:b.length=64):Inv g (st.wr r n b) (some n):=by
 refine{I with lenL:=λk c h=>?_,keyL:=λk h=>?_,clean:=λk v w x m y=>?_}
 ·have h:(if k=n then some b else st.latest k)=some c:=h;by_cases e:k=n
  ·have h:=eX e▸h;obtain rfl:=eQ h;exact u
  ·rw [if_neg e] at h;exact I.lenL k c h
 have j:=I.B26
 ·have h:(if k=n then some b else st.latest k)≠none:=h;by_cases e:k=n
  ·exact Rt p e s j
  ·rw [if_neg e] at h;exact I.keyL k h
 ·show st.data k=(if k=n then some b else st.latest k).getD bM;rw [if_neg λe=>m (by exact e▸rfl)];exact I.clean k v w x m y
def FG(X:aW g s st)(I:Inv g st (some n))(v:0<=n)(w:n<g.B)(x:st.unfl.length<=1000)
  (k:∀p r,aW g p (st.wc r n (st.data n))->bv g s st p (st.wc r n (st.data n))->Q .none p):tb.cf (N+3) 635 [.ref g.cache,.ref (st.abuf n)] Q s:=by
 have b:=I.stg;have c:=I.held n rfl;have u:=I.len n c;refine qf (cH (b8 (aB rfl) (X.at .cache (aM b)) cF rfl rfl (aG (aB rfl) aI) (jF X (aM b) c (by rw [I.hold n,eX rfl];decide) ⟨rfl,?_⟩)));refine cH (lr (aE (aB rfl) (X.at .cache (aM b)) rfl rfl rfl) (X.at .disk (aM b)) rfl rfl eb (cn (aE (aB rfl) (X.at (.buf n) c) rfl rfl rfl) (bJ (b8 (aB rfl) (X.at (.buf n) c) kq rfl rfl aI (wX (N:=N+1) X c u (pK (N:=N) X (aM b) v w I.B26 u I.keyL x λy r j z=>⟨rfl,?_⟩))))));refine px (aB rfl) (j.at .cache (aM b)) rfl rfl rfl aN (.inl ⟨rfl,rfl⟩) (cU (P:=λs=>aZ _ _ _ _ _ s) j .cache (aM b) (st.wc r n (st.data n)) rfl (λJ J=>rfl) (λJ h=>h) (by walk_at "hob") j.tup (λh=>nomatch h) λm A B=>bE (k m r A (z.trans B)))
structure Pk(st st':St)(n:Int)(b:List UInt8):Prop where
 jn:Jn st st'
 cont:∀k,L04.cont st' k=cT (L04.cont st) n b k
 lat:∀k,st'.latest k=if k=n then some b else st.latest k
 ul:st'.unfl.length=st.unfl.length+1
 kep:st'.kept=st.kept
def uJ(X:aW g s st)(I:Inv g st none)(D:Dk st)(u:0<=n)(v:n<g.B)(z:n∈rx)(w:b.length=64)(hu:st.unfl.length<=1000)
  (q:∀p st',aW g p st'->bv g s st p st'->Inv g st' none->Dk st'->Pk st st' n b->Q .none p):tb.cf (N+4) 656 [.ref g.cache,.int n,.bytes b] Q s:=by
 have x:=I.stg;refine rS (cH (b8 (aB rfl) (X.at .cache (aM x)) fJ rfl rfl (aG (aB rfl) aI) (yT (N:=N+2) X (aM x) u v ⟨rfl,?_⟩)));refine dH (GI (cp (aG (aB rfl) aI) (k7 (by rw [w];decide))) (aE (aB rfl) (X.at .cache (aM x)) rfl rfl rfl)) (by rw [w];rfl) ?_;refine bX (b8 (aB rfl) (X.at .cache (aM x)) kY rfl rfl (aG (aB rfl) aI) (mU X I u v z λaa c U E1 A j=>?_));have Y:=j.sm.unf;have y:=A.held n rfl;refine cH (b8 (aB rfl) (U.at (.buf n) y) wT rfl rfl (aG (aB rfl) aI) (Hk (N:=N+2) U y (A.len n y) w λab X2 E2=>⟨rfl,?_⟩));have B:=A.dt w;refine cH (b8 (aB rfl) (X2.at .cache (aM B.stg)) tG rfl rfl (aG (aB rfl) aI) (FG (N:=N) (st:=c.dt n b) X2 B u v (by show c.unfl.length<=1000;rw [Y];exact hu) λac r C E3=>⟨rfl,?_⟩));have ed:(c.dt n b).data n=b:=eX rfl;rw [ed] at C E3;have G:=j.dk D;have I3:Inv g ((c.dt n b).wc r n b) (some n):={B.wr (r:=r) u v w with}
 refine cH (b8 (aB rfl) (C.at .cache (aM I3.stg)) eO rfl rfl (aG (aB rfl) aI) (gi (N:=N+1) (st:=(c.dt n b).wc r n b) C I3 (λJ J=>.inr ?_) λM O X4 E4 I4 m=>⟨rfl,bE (q M O X4 ((E1.trans E2).trans (E3.trans E4)) I4 (m.dk ⟨?_,G.kk,λt ht=>?_⟩) ⟨j.jn.trans ((⟨rfl,rfl,rfl⟩:Jn c ((c.dt n b).wc r n b)).trans m.jn),λk=>?_,λk=>?_,?_,?_⟩)⟩))
 ·show(if n=n then b else c.data n)=(if n=n then some b else c.latest n).getD bM;refine(eX rfl).trans ?_;rw [eX rfl];rfl
 ·show(λk=>if k=n then some b else c.latest k)=iw c.kept (c.unfl++ [(r,n,b)]);rw [G.fld];unfold iw;rw [XC];rfl
 ·rcases List.mem_append.mp ht with h|h
  ·exact G.uk t h
  ·rw [List.mem_singleton.mp h];exact⟨u,by exact zh v I.B26⟩
 ·rw [m.cont];have e:cont ((c.dt n b).wc r n b) k=cT (cont c) n b k:=by
   delta cont cT;by_cases e:k=n
   ·subst e;refine WV ?_ (eX rfl).symm;exact(eX y).trans ((eX rfl))
   ·refine WV ?_ (if_neg e).symm;show(if c.has k then(if k=n then b else c.data k) else(if k=n then some b else c.latest k).getD bM)=_;rw [if_neg e,if_neg e]
  refine(e).trans ?_;unfold cT;rw [j.cont]
 ·rw [m.sm.lat];show(if k=n then some b else c.latest k)=_;rw [j.sm.lat]
 ·rw [m.sm.unf];show(c.unfl++ [(r,n,b)]).length=_;rw [pS,Y];rfl
 ·exact(m.sm.kep).trans (j.sm.kep)
def EW(X:aW g s st)(I:Inv g st none)(D:Dk st)(j:st.unfl.length<=1000)
  (q:∀p st',aW g p st'->bv g s st p st'->Inv g st' none->Dk st'->Jn st st'->(∀n,cont st' n=cont st n)->st'.latest=st.latest->st'.kept=st.latest->st'.unfl= []->Q .none p):tb.cf (N+3) 642 [.ref g.cache] Q s:=by
 have b:=I.stg;refine qJ (cH (b8 (aE (aB rfl) (X.at .cache (aM b)) rfl rfl rfl) (X.at .disk (aM b)) lK rfl rfl aI (yX (N:=N) X (aM b) D.fld j D.kk D.uk λc r k m=>⟨rfl,bE (q c _ k m {I with} ⟨rfl,I.keyL,λt h=>nM h⟩ ⟨rfl,rfl,rfl⟩ (λJ=>rfl) rfl rfl rfl)⟩)))
end
end
section
section
variable{g:Fx}{A s:H}{st st':St}{N:Nat}{Q:V->H->Prop}{P:Fl->Fs->H->Prop}{n:Int}{m:Fs}{b bs:List UInt8}{ss:Ss}{e o j:E}{i k:Nat}{x:Cx}{nn:Nat}{r c p:iS}
def Dm{xs:List V}(h:A r=some (.list xs))(c:xs.length<=1000000)(g:octets? xs=some b)(Q:V->H->Prop)(q:Q (.bytes b) A):zA "bytes" [.ref r] Q A:=by
 show(match A r with|some (.ba b)=>_|some (.list xs)=>xs.length<=1000000/\(match octets? xs with|some b=>Q (.bytes b) A|none=>False)|_=>False);rw [h];dsimp only;exact g▸⟨c,q⟩
def UA(h:A r=some (.ba b))(c:b.length<=1000000)(Q:V->H->Prop)(q:Q (.bytes b) A):zA "bytes" [.ref r] Q A:=by
 show(match A r with|some (.ba b)=>b.length<=1000000/\Q (.bytes b) A|some (.list g)=>_|_=>False);refine h▸ ?_;exact⟨c,q⟩
def Ac(h:n=(k:Int))(b:k<=1000000)(Q:V->H->Prop)(q:Q (.bytes (oR k 0)) A):zA "bytes" [.int n] Q A:=by
 subst h;exact⟨by exact Int.natCast_nonneg _,by exact Int.ofNat_le.mpr ‹_›,by exact q⟩
theorem kA{f:Nat->Nat}(c:∀i,f i<256):∀l:List Nat,octets? (l.map λi=>V.int (f i))=some (l.map λi=>Tk (f i))
 | []=>rfl
 |i::l=>by
  have g:octet? (.int (f i))=some (Tk (f i)):=by unfold octet?;dsimp only;rw [eX (by exact KP (c i)),Int.toNat_natCast]
  rw [IS,IS];show(match octet? _,octets? _ with|some b,some bs=>some (b::bs)|_,_=>none)=_;rw [g,kA c l]
def Gs{xs:List V}(h:A r=some (.list xs))(b:xs.length<=1000000)(Q:V->H->Prop)(q:∀c,A c=none->Q (.ref c) (A.put c (.list xs))):zA "list" [.ref r] Q A:=by
 show(match A r with|some (.rng lo g)=>_|some (.list xs)=>xs.length<=1000000/\fresh (.list xs) Q A|_=>False);refine h▸ ?_;exact⟨b,q⟩
def dU{a c:iS}{o:AO}(h:A a=some o)(b:A c=none):a≠c:=λe=>by rw [e,b] at h;exact nN h
def dA{t:String}{b:Es}{R:V->H->Prop}(k:lf x nn m b (λvs s=>zA t vs R s) A):xE x nn m (.call (.g (.ty t)) b) R A:=k
inductive PhI(g:Fx)(st:St)(σ:H)(r u:iS)(L:List Int)(i:Nat)(m:Fs)(σ':H):Prop
 |mk (acc:List UInt8) (h0:aW g σ' st) (h1:bv g σ st σ' st) (h2:jA g σ' st r (.ba acc)) (h3:jA g σ' st u (.list (L.map .int))) (h4:acc.length=4*i) (h5:aC m 1=some (.int 64)) (h6:aC m 2=some (.ref r)) (h7:aC m 4=none)
def qQ{xs:List Int}(X:aW g A st)(hp:A p=some (.list (xs.map .int)))(hl:xs.length<=8)(hx:∀x∈xs,0<=x)(q:∀s b,aW g s st->bv g A st s st->b.length=64->Q (.bytes b) s):tb.cf (N+1) 794 [.ref p,.int 64] Q A:=by
 have O:(xs.map V.int).length<=1000000:=by rw [eS];exact gD (by assumption) (by decide)
 refine qs (dH (Am (cy sP (aY (cp (aG (aB rfl) aI) (lenL hp O)) aN) (.of_left (Ex (by decide) (by decide)))) (aB rfl)) (decide_eq_false (by rw [eS];exact LH hl)) (bX (pk aI λr hr=>?_)));have G:(A.put r (.ba [])) p=some (.list (xs.map .int)):=(H.put_ne _ _ λe=>by rw [e,hr] at hp;exact nN hp).trans hp;have O1:=jA.new (ob':=.ba []) X hr;refine Dz (jS (gj (aG (cp (aG (aB rfl) aI) (lenL G O)) aI) rfl λa ha=>?_));have X2:=(X.new (o:=.ba []) hr).new (o:=.list [.int (xs.map V.int).length]) ha;refine pk (aG (aB rfl) aI) (Gs ((H.put_ne _ _ λe=>by rw [e,ha] at G;exact nN G).trans G) O _ λc hc=>?_);have X3:=X2.new (o:=.list (xs.map .int)) hc;refine zY (ys:=xs.map .int) ((H.put_ne _ _ (dU (H.put_same ..) hc)).trans (H.put_same ..)) (H.put_same ..) (by rw [eS,Op];exact Su hl) λu hu=>?_
 have X4:=X3.new (o:=.list ([.int (xs.map V.int).length]++xs.map .int)) hu;have O4:=((O1.ext (bv.new (o:=.list [.int (xs.map V.int).length]) ha)).ext (bv.new (o:=.list (xs.map .int)) hc)).ext (bv.new (o:=.list ([.int (xs.map V.int).length]++xs.map .int)) hu);have U4:=jA.new (ob':=.list ([.int (xs.map V.int).length]++xs.map .int)) X3 hu;have E4:=(((bv.new (g:=g) (st:=st) (o:=.ba []) hr).trans (bv.new (o:=.list [.int (xs.map V.int).length]) ha)).trans (bv.new (o:=.list (xs.map .int)) hc)).trans (bv.new (o:=.list ([.int (xs.map V.int).length]++xs.map .int)) hu);have eL: [V.int (xs.map V.int).length]++xs.map .int=((xs.length:Int)::xs).map V.int:=by rw [eS];rfl
 rw [eL] at X4 O4 U4 E4⊢;rw [ly (H.put_same ..)];have aa:∀x∈(xs.length:Int)::xs,0<=x:=λx h=>(List.mem_cons.mp h).elim (λe=>by exact R9 e) (hx x)
 have D:((xs.length:Int)::xs).length<=9:=by exact VH ‹_› _
 generalize ac:(xs.length:Int)::xs=L at X4 O4 U4 E4 aa D⊢;refine fU (xs:=L.map .int) (by rw [eS];exact gD (by assumption) (by decide)) (λi m s=>PhI g st A r u L i m s) (λi m s B=>by obtain⟨_,_,_,_,U,_⟩:=B;exact U.1) (λi m s M B I' kI=>⟨_,rfl,?_⟩) (λm s B=>?_) ⟨[],X4,E4,O4,U4,rfl,rfl,rfl,rfl⟩
 ·obtain⟨j,X5,E5,O5,U5,C,m1,m2,m4⟩:=B;have M:i<L.length:=by simpa using M
  have hv:=aa _ (US M);rw [HD]
  revert hv;refine Mw (L[i]) λv hv=>?_
  let w:Nat->Nat:=λi=>(Int.fdiv v (2^(8*(i:Int)).toNat)%256).toNat
  have hw:∀i,w i<256:=λi=>by exact RN
  have ab:∀i:Nat,OP (Int.fdiv v (2^(8*(0+(i:Int))).toNat)) 255=(w i:Int):=λi=>by
   have h2:(0:Int)<=2^(8*(0+(i:Int))).toNat:=Int.le_of_lt (Int.pow_pos (by decide));have:0<=Int.fdiv v (2^(8*(0+(i:Int))).toNat):=by rw [Int.fdiv_eq_ediv_of_nonneg _ h2];exact Int.ediv_nonneg hv h2
   rw [xK this];rw [Int.zero_add];exact K7
  refine cH (eBa (aB (aP m2)) O5.1 (bJ (dA (bJ (iE (by show((aC _ 4).isNone&&true)=true;rw [aP m4];rfl) (pk (aG sP aI) ⟨by decide,by decide,λy hy=>?_⟩))))));have X6:=X5.new (o:=.rng 0 4) hy;have O6:=O5.ext (bv.new (o:=.rng 0 4) hy);show(match sq (.ref y) _ with|some k=>_|none=>False);refine tY (H.put_same ..)▸ ?_;refine dM 4 (λi=>.int (0+(i:Int))) (λi j Y=>Y=s.put y (.rng 0 4)/\j=(oS i).map λi=>V.int (w i)) (λi j s J M=>?_) (λj s J=>rfl) (λi j Y B M I' kI=>⟨_,rfl,tK _ _ _ ?_⟩) (λj Y B z hz=>?_) ⟨rfl,rfl⟩
  ·exact congrArg _ (eX (by exact K9 M))
  ·obtain⟨h1,h2⟩:=B;subst h1 h2;refine SP (bj (mf (zk (aB (aP ct)) (cy aN (aB ct) (.of_left (Ex (by decide) (by decide)))) (Int.natCast_nonneg _)) aN) (congrArg V.int (ab i))) ⟨by rw [eS,tS];exact PG M,kI _ _ ⟨rfl,?_⟩⟩;rw [Wm,Lo];rfl
  ·obtain⟨h1,h2⟩:=B;subst h1 h2;have O7:=O6.ext (bv.new (o:=.list ((oS 4).map λi=>V.int (w i))) hz);have U7:=(U5.ext (bv.new (o:=.rng 0 4) hy)).ext (bv.new (o:=.list ((oS 4).map λi=>V.int (w i))) hz);refine Dm (H.put_same ..) (by rw [eS,tS];decide) (kA hw _) _ ?_;show(match ((s.put y (.rng 0 4)).put z _) r with|some ob=>jd .ba r ob 202 [.bytes _] _ _|none=>False);refine O7.1▸ ?_;have hq:((oS 4).map λi=>Tk (w i)).length=4:=by rw [eS,tS]
   exact⟨(by exact Qy C M D:j.length<=1000000),by rw [hq];decide,rfl,bE (kI _ _ ⟨j++(oS 4).map λi=>Tk (w i),(X6.new (o:=.list ((oS 4).map λi=>V.int (w i))) hz).own O7,((E5.trans (bv.new hy)).trans (bv.new hz)).raw hr,⟨H.put_same ..,O7.2⟩,⟨(H.put_ne _ _ (λe=>by have h1:=U7.1;rw [e,O7.1] at h1;exact oI AO.ctorIdx h1 rfl)).trans U7.1,U7.2⟩,by rw [pS,hq];exact Qc C,aP m1,aP m2,aP m4⟩)⟩
 ·obtain⟨j,X5,E5,O5,U5,C,m1,m2,m4⟩:=B;rw [eS] at C;refine cO (jS (pk (aG (aB m2) aI) (UA O5.1 (Gl C D) _ (pk (aG (cI (aB m1) (cp (aG (aB m2) aI) (H3 O5.1 (Gl C D)))) aI) (Ac (k:=64-j.length) (Nn C D) (RY) _ ⟨by rw [vS];exact Pa C D,q _ _ X5 E5 ?_⟩)))));rw [pS,vS];exact JD C D
end
end
section
structure Jk(g:Fx)(st st':St):Prop where
 I:Inv g st' none
 D:Dk st'
 J:Jn st st'
 c:∀k,18<=k->cont st' k=cont st k
section
variable{g:Fx}{u s:H}{st st':St}{N:Nat}{Q:V->H->Prop}{P:Fl->Fs->H->Prop}{n:Int}{m:Fs}{b bs:List UInt8}{ss:Ss}{e o j:E}{i k:Nat}{x:Cx}{nn:Nat}{r c p:iS}
theorem Jk.trans{a b c:St}(h:Jk g a b)(k:Jk g b c):Jk g a c:=⟨k.I,k.D,h.J.trans k.J,λn j=>(k.c n j).trans (h.c n j)⟩
def yQ(X:aW g u st')(I:Inv g st' none)(J:Jn st st'):u st.anums=some (.list (st.nums.map .int)):=by
 refine J.nums▸ ?_;exact J.anums▸(X.at .nums (aM I.stg))
def Ko{t a b:E}{v:V}(c:fc m u t false)(g:Ev m u b v):Ev m u (.ife t a b) v:=λx n Q q=>c x n _ (g x n Q q)
def tJ(X:aW g u st)(I:Inv g st none)(D:Dk st)(j:st.unfl.length<=1000)(p:aC m 0=some (.ref g.jour))
  (k:∀s st',aW g s st'->bv g u st s st'->Jk g st st'->st'.latest=st.latest->st'.kept=st.latest->st'.unfl= []->P .next m s):aZ (tb.cx (N+3)) (N+3) (.cons (.ex (.mc (.attr (.v 0) 22) 131 .nil)) .nil) P m u:=
 cH (b8 (aE (aB p) (X.at .jour (aM I.stg)) rfl rfl rfl) (X.at .cache (aM I.stg)) tC rfl rfl aI (EW (N:=N) X I D j λs st' a b c d e f g h i=>⟨rfl,bE (k s st' a b ⟨c,d,e,λn U=>f n⟩ g h i)⟩))
def Pk.jk{n:Int}{b:List UInt8}(K:Pk st st' n b)(I:Inv g st' none)(D:Dk st')(h:n<18\/b=L04.cont st n):Jk g st st':=⟨I,D,K.jn,λk c=>by
 rw [K.cont];unfold cT;by_cases e:k=n
 ·rw [eX e,e];exact h.resolve_left (Od c e)
 ·exact(if_neg e)⟩
def vO(X:aW g u st)(I:Inv g st none)(D:Dk st)(hu:st.unfl.length<=100)
  (q:∀s st',aW g s st'->bv g u st s st'->Jk g st st'->st'.unfl= []->Q .none s):tb.cf (N+5) 865 [.ref g.jour] Q u:=by
 have v:=I.nums8;refine jM (Bm (aE (aB rfl) (X.at .jour (aM I.stg)) rfl rfl rfl) (X.at .nums (aM I.stg)) (uc (xs:=st.nums.map .int) (by rw [eS];exact gD (by assumption) (by decide)) (λi m s=>∃st',aW g s st'/\bv g u st s st'/\Jk g st st'/\st'.unfl.length<=100+i/\aC m 0=some (.ref g.jour)) (λi m s c=>by refine se c λst' X' _ K _=>?_;exact yQ X' K.I K.J) (λi m s p c I' kI=>?_) (λm s c=>?_) ⟨st,X,.rfl,⟨I,D,⟨rfl,rfl,rfl⟩,λU U=>rfl⟩,by exact Gv hu,rfl⟩))
 ·refine PV c λA k B b j r=>?_
  have p:i<st.nums.length:=by simpa using p
  refine eK (I.num _ (US p)) λM O U=>?_
  rw [HD];refine cH (lr (aE (aB (aP (aP r))) (k.at .jour (aM b.I.stg)) rfl rfl rfl) (k.at .cache (aM b.I.stg)) rfl rfl iV (cn (bj (w:=.int (3+i:Nat)) (aY (aY (aE (aB (aP (aP r))) (k.at .jour (aM b.I.stg)) rfl rfl rfl) aN) (aB (aP ct))) (congrArg V.int rfl)) (bJ (b8 (aE (aB (aP (aP r))) (k.at .jour (aM b.I.stg)) rfl rfl rfl) (k.at .cache (aM b.I.stg)) o3 rfl rfl (aG (aB ct) aI) (yH (N:=N) k b.I M O λx y C G Y z=>?_)))));have eu:=z.sm.unf;refine uJ (N:=N) C Y (z.dk b.D) (Int.natCast_nonneg _) (Ob M p O v) (IZ (SH) (Ql p v)) (dG b.I _) (by rw [eu];exact GW j p v) λaa J X3 E3 I3 D3 P3=>⟨rfl,bE (kI _ _ ⟨J,X3,(B.trans G).trans E3,(b.trans ⟨Y,z.dk b.D,z.jn,λn U=>z.cont n⟩).trans (P3.jk I3 D3 (.inl (KE p v))),by rw [P3.ul,eu];exact VH ‹_› _,aP (aP r)⟩)⟩
 ·refine PV c λA k B b j r=>?_
  rw [eS] at j;exact tJ (N:=N+1) k b.I b.D (GY j v) r λx y C G K2 U U h=>q x y C (B.trans G) (b.trans K2) h
def j7{xs:List Int}(X:aW g u st)(I:Inv g st none)(D:Dk st)(hu:st.unfl.length<=100)(hp:u p=some (.list (xs.map .int)))(w:xs.length<=8)(y:∀x∈xs,0<=x)
  (q:∀s st',aW g s st'->bv g u st s st'->Jk g st st'->st'.unfl= []->st'.kept=st'.latest->(∀k,18<=k->st'.latest k=st.latest k)->Q .none s):tb.cf (N+5) 872 [.ref g.jour,.ref p] Q u:=by
 refine ir (cH (lr (aE (aB rfl) (X.at .jour (aM I.stg)) rfl rfl rfl) (X.at .cache (aM I.stg)) rfl rfl iV (cn (aE (aB rfl) (X.at .jour (aM I.stg)) rfl rfl rfl) (bJ (kN (aG (aB rfl) (aG (aE (aE (aB rfl) (X.at .jour (aM I.stg)) rfl rfl rfl) (X.at .cache (aM I.stg)) rfl rfl rfl) aI)) qK qO (qQ (N:=N+3) X hp w y λz b A B C=>?_))))));refine uJ (N:=N) A I D (by decide) (by exact Rj I.B24) (by decide) C (gD (by assumption) (by decide)) λG J M O m r c=>⟨rfl,tJ (N:=N+1) M m r (by rw [c.ul];exact Vu (by assumption) (by decide)) rfl λh j U Y K3 v h2 h3=>q h j U (B.trans (O.trans Y)) ((c.jk m r (.inl (by decide))).trans K3) h3 (h2.trans v.symm) λk hk=>by rw [v,c.lat,if_neg (by exact Rf hk)]⟩
def xU(X:aW g u st)(I:Inv g st none)(D:Dk st)(hu:st.unfl.length<=100)
  (q:∀s st',aW g s st'->bv g u st s st'->Jk g st st'->st'.unfl= []->(∀n∈st.nums,st'.latest n=some (cont st n))->Q .none s):tb.cf (N+5) 879 [.ref g.jour,.ref st.anums,.bool false] Q u:=by
 have h8:=I.nums8;refine kQ (Bm (aB rfl) (X.at .nums (aM I.stg)) (uc (xs:=st.nums.map .int) (by rw [eS];exact gD (by assumption) (by decide)) (λi m s=>∃st',aW g s st'/\bv g u st s st'/\Jk g st st'/\st'.unfl.length<=100+i/\(∀n∈st.nums.take i,st'.latest n=some (cont st n))/\aC m 0=some (.ref g.jour)/\aC m 2=some (.bool false)) (λi m s b=>by refine se b λst' X' _ K _=>?_;exact yQ X' K.I K.J) (λi m s p b I' kI=>?_) (λm s b=>?_) ⟨st,X,.rfl,⟨I,D,⟨rfl,rfl,rfl⟩,λU U=>rfl⟩,by exact Gv hu,(λn h=>nM h),rfl,rfl⟩))
 ·refine Ru b λw x M c j y z O=>?_
  have p:i<st.nums.length:=by simpa using p
  refine eK (I.num _ (US p)) λr Y U=>?_
  rw [HD];refine bX (b8 (aE (aB (aP (aP z))) (x.at .jour (aM c.I.stg)) rfl rfl rfl) (x.at .cache (aM c.I.stg)) o3 rfl rfl (aG (Ko (tV (aP (aP O))) (aB ct)) aI) (yH (N:=N) x c.I r Y λA k B E2 C v=>?_));have eu:=v.sm.unf;have G:=c.trans ⟨C,v.dk c.D,v.jn,λn U=>v.cont n⟩;refine cH (b8 (aE (aB (aP (aP (aP z)))) (B.at .jour (aM C.stg)) rfl rfl rfl) (B.at .cache (aM C.stg)) iV rfl rfl (aG (aB (aP ct)) (aG (aB ct) aI)) (uJ (N:=N) B C G.D (QB r ‹_› p) Y (ui r Y I.B26) (dG c.I _) (by rw [eu];exact GW j p h8) λab aa X3 E3 I3 D3 P3=>⟨rfl,bE (kI _ _ ⟨aa,X3,(M.trans E2).trans E3,G.trans (P3.jk I3 D3 (.inr (v.cont _).symm)),by rw [P3.ul,eu];exact Qq j,λn J=>?_,aP (aP (aP z)),aP (aP (aP O))⟩)⟩));rw [P3.lat];by_cases e:n=st.nums[i]
  ·rw [eX e,e,c.c _ r]
  ·rw [if_neg e,show k.latest=w.latest from v.sm.lat];rw [Gd p] at J;exact y n ((List.mem_append.mp J).resolve_right λh=>e (List.mem_singleton.mp h))
 ·refine Ru b λw x M c j y z O=>?_
  rw [eS] at j y;rw [UV] at y;exact tJ (N:=N+1) x c.I c.D (GY j h8) z λA k B E2 G r U h=>q A k B (M.trans E2) (c.trans G) h λn J=>by exact r▸y n J
end
end
section
structure Fz(st:St):Prop where
 nums:st.nums= []
 unfl:st.unfl= []
 kept:st.kept=st.latest
section
variable{g:Fx}{u s:H}{st st':St}{N:Nat}{Q:V->H->Prop}{P:Fl->Fs->H->Prop}{n:Int}{m:Fs}{b bs:List UInt8}{ss:Ss}{e o j:E}{i k:Nat}{x:Cx}{nn:Nat}{r c p:iS}
noncomputable def St.pf(st:St)(f:Int->Int):St:={st with pins:=f}
noncomputable def St.cm(st:St)(f:Int->Int)(a c:iS):St:={st with pins:=f,nums:= [],anums:=a,noted:=λU=>none,anoted:=c}
def FM{R:V->H->Prop}(k:∀r,u r=none->R (.ref r) (u.put r (.idict λU=>none))):xE x nn m .dct0 R u:=k
set_option tactic.hygienic true in
def zK(X:aW g u st)(I:Inv g st none)(D:Dk st)(hu:st.unfl.length<=100)
  (q:∀s st',aW g s st'->bv g u st s st'->Inv g st' none->Dk st'->st'.toNd=st.toNd->(∀k,18<=k->cont st' k=cont st k)->Fz st'->Q .none s):tb.cf (N+6) 858 [.ref g.jour] Q u:=by
 refine lP (cH (b8 (aB rfl) (X.at .jour (aM I.stg)) pE rfl rfl aI (vO (N:=N) X I D hu λae af X1 E1 y u1=>⟨rfl,?_⟩)));have hx:=λx h=>by have:=(I.num x h).1;exact v9 this
 have h8:=I.nums8;refine cH (b8 (aB rfl) (X1.at .jour (aM y.I.stg)) fF rfl rfl (aG (aE (aB rfl) (X1.at .jour (aM y.I.stg)) rfl rfl rfl) aI) (j7 (N:=N) X1 y.I y.D (by rw [u1];decide) (X1.at .nums (aM y.I.stg)) (by refine y.J.nums▸ ?_;exact h8) (by exact y.J.nums▸hx) λag ah X2 E2 B u2 U U=>⟨rfl,?_⟩));refine cH (b8 (aB rfl) (X2.at .jour (aM B.I.stg)) qh rfl rfl (aG (aE (aB rfl) (X2.at .jour (aM B.I.stg)) rfl rfl rfl) (aG aN aI)) (xU (N:=N) X2 B.I B.D (by rw [u2];decide) λai aj X3 E3 J u3 hz=>⟨rfl,?_⟩));refine cH (lr (aB rfl) (X3.at .jour (aM J.I.stg)) rfl rfl fF (bJ (gj aI rfl λp hp=>j7 (N:=N) (xs:= []) (X3.new hp) J.I J.D (by rw [u3];decide) (H.put_same ..) (by decide) (λx h=>nM h) λak b X4 E4 K4 u4 k4 l4=>⟨rfl,?_⟩)));have K:=((y.trans B).trans J).trans K4;have z:=K.I;have e4:=K.J.nums;have r:=z.stg;refine BU (aE (aB rfl) (X4.at .jour (aM r)) rfl rfl rfl) (ly (X4.at .nums (aM r))) (fU (xs:=b.nums.map .int) (by rw [eS,e4];exact gD (by assumption) (by decide)) (λi m s=>∃f,aW g s (b.pf f)/\bv g u st s (b.pf f)/\(∀k,f k=if k∈b.nums.take i then b.pins k-1 else b.pins k)/\aC m 0=some (.ref g.jour)) (λi m s w=>by refine bp w λf X' _=>?_;exact X'.at .nums (aM r)) (λi m s C w I' kI=>⟨_,rfl,?_⟩) (λm s w=>?_) ⟨b.pins,X4,((((E1.trans E2).trans E3).trans (bv.new hp)).trans E4),λk=>by simp,rfl⟩)
 ·refine se w λf A E5 M G=>?_
  have C:i<b.nums.length:=by simpa using C
  refine q8 (z.num _ (US C)) λO h2 h3 h4=>?_
  have Y:b.nums[i]∉b.nums.take i:=λhm=>by
   obtain⟨j,hj,e⟩:=Xq hm;rw [Wa] at e;rw [Ps] at hj;have:=(WO z.nodup).mp e;exact Cw C hj this
  have aa:=(M _).trans (if_neg Y);rw [HD];refine cH (b8 (aE (aB (aP G)) (A.at .jour (aM r)) rfl rfl rfl) (A.at .cache (aM r)) uQ rfl rfl (aG (aB ct) aI) (vX (N:=N+4) (st:=b.pf f) A (aM r) h3 (by exact(RR h4 aa C:f b.nums[i]≠0)) λab X6 E6=>⟨rfl,bE (kI _ _ ⟨λk=>if k=b.nums[i] then f b.nums[i]-1 else f k,X6,E5.trans E6,λk=>?_,aP G⟩)⟩));rw [Gd C];show(if k=b.nums[i] then f b.nums[i]-1 else f k)=_;by_cases e:k=b.nums[i]
  ·rw [eX e,eX (VA _ (List.mem_singleton.mpr e)),e,aa]
  ·rw [if_neg e,M k];by_cases h:k∈b.nums.take i
   ·rw [eX h,eX (VF _ h)]
   ·rw [if_neg h,if_neg λhm=>(List.mem_append.mp hm).elim h λhm=>e (List.mem_singleton.mp hm)]
 ·refine se w λf A E5 M G=>?_
  rw [eS,UV] at M;have v:=r;refine cz (gj aI rfl λa ha=>dN (aB G) ((A.new ha).at .jour (aM v)) rfl rfl (LV (P:=λu=>aZ _ _ _ _ _ u) A .jour .nums ha (aM v) (λh=>nomatch h) {b.pf f with nums:= [],anums:=a} rfl rfl rfl ?_ (λU h=>h) ?_ A.tup (λh=>nomatch h) λab X6 E6=>?_))
  ·exact An (by kernel_rfl) (λU=>rfl) λU=>rfl
  ·exact EE (by kernel_rfl) (λU=>rfl) λU=>rfl
  refine cz (FM λc hc=>dN (aB G) ((X6.new hc).at .jour (aM v)) rfl rfl (LV (P:=λu=>aZ _ _ _ _ _ u) X6 .jour .noted hc (aM v) (λh=>nomatch h) (b.cm f a c) rfl rfl rfl ?_ (λU h=>h) ?_ X6.tup (λh=>nomatch h) λal X7 E7=>?_))
  ·exact An (by kernel_rfl) (λU=>rfl) λU=>rfl
  ·exact EE (by kernel_rfl) (λU=>rfl) λU=>rfl
  refine px (aB G) (X7.at .jour (aM v)) rfl rfl rfl aN (.inl ⟨rfl,rfl⟩) (cU (P:=λu=>aZ _ _ _ _ _ u) X7 .jour (aM v) {b.cm f a c with commits:=b.commits+1} rfl (λU U=>rfl) (λU h=>h) (by walk_at "hob") X7.tup (λh=>nomatch h) λac X8 E8=>bE (q ac _ X8 (((E5.trans E6).trans E7).trans E8) ?_ ⟨K.D.fld,K.D.kk,K.D.uk⟩ K.J.nd (λk hk=>K.c k hk) ⟨rfl,u4,k4⟩));refine{z with pin0:=λk=>?_,num:=(λk h=>nM h),nodup:=.nil,note:=λk=>⟨(λh=>fT h),(λh=>nM h)⟩,clean:=λk O h2 h3 h4 h5=>?_}
  ·show 0<=f k;rw [M];have:=z.pin0 k;split
   ·rename_i h;have:=(z.num k h).2.2.2;exact Ox ‹_› this
   ·exact this
  ·by_cases e:k∈b.nums
   ·rw [e4,<-B.J.nums.trans y.J.nums] at e;have:=hz k e;show b.data k=(b.latest k).getD bM;have e6:b.data k=cont b k:=(bU h5).symm;rw [e6,((K4.c k O).trans (J.c k O)),l4 k O,this];rfl
   ·exact z.clean k O h2 e (λh=>nN h) h5
end
end
section
section
variable{g:Fx}{s w:H}{st st':St}{N:Nat}{Q:V->H->Prop}{P:Fl->Fs->H->Prop}{n:Int}{m:Fs}{b bs:List UInt8}{M:Ss}{e o j:E}{i k:Nat}{x:Cx}{G:Nat}{r c p:iS}
def Uc{p q:iS}{xs ys:List Int}{R:V->H->Prop}(hp:s p=some (.list (xs.map .int)))(c:s q=some (.list (ys.map .int)))(g:xs.length<=1000000)(h:ys.length<=1000000)(k:R (.bool (decide (xs.map V.int≠ys.map .int))) s):cr .NotEq (.ref p) (.ref q) R s:=by
 delta cr OY;dsimp only;refine hp▸ ?_;refine c▸ ?_;have b:∀l:List Int,(l.map V.int).all V.isInt=true:=λl=>List.all_eq_true.mpr λv j=>by obtain⟨x,_,rfl⟩:=List.mem_map.mp j;rfl
 exact⟨b _,b _,by rw [eS];exact g,by rw [eS];exact h,k⟩
def Iu(X:aW g s st)(I:Inv g st none)(D:Dk st)(r:st.calls=1)(u:st.unfl= [])(y:st.kept=st.latest)
  (q:∀w st',aW g w st'->bv g s st w st'->Inv g st' none->Dk st'->st'.toNd={st.toNd with calls:=0}->(∀k,18<=k->cont st' k=cont st k)->Fz st'->Q .none w):tb.cf (N+7) 851 [.ref g.jour] Q s:=by
 have h8:=I.nums8;refine p7 (dH (jV (aE (aB rfl) (X.at .jour (aM I.stg)) rfl rfl rfl) aN) (decide_eq_false (Bo r)) ?_);refine px (aB rfl) (X.at .jour (aM I.stg)) rfl rfl rfl aN (.inr ⟨rfl,rfl⟩) (cU (P:=λs=>aZ _ _ _ _ _ s) X .jour (aM I.stg) {st with calls:=0} (by rw [r];rfl) (λJ J=>rfl) (λJ h=>h) (by walk_at "hob") X.tup (λh=>nomatch h) λA c v=>?_);have x:Inv g {st with calls:=0} none:={I with}
 refine Dz (wY (tT (jV (aE (aB rfl) (c.at .jour (aM I.stg)) rfl rfl rfl) aN) rfl) (oh (aE (aB rfl) (c.at .jour (aM I.stg)) rfl rfl rfl _ _ _ (gj aI rfl λp hp=>?_))));have b:=c.new (o:=.list []) hp;refine Uc (xs:=st.nums) (ys:= []) (b.at .nums (aM I.stg)) (H.put_same ..) (gD (by assumption) (by decide)) (by decide) ?_;by_cases h:st.nums= []
 ·have:decide (st.nums.map V.int≠([]:List Int).map .int)=false:=decide_eq_false λz=>z (by rw [h])
  rw [this];exact q _ _ b (v.trans (bv.new hp)) x ⟨D.fld,D.kk,D.uk⟩ rfl (λJ J=>rfl) ⟨h,u,y⟩
 ·have:decide (st.nums.map V.int≠([]:List Int).map .int)=true:=lO λz=>h (List.map_eq_nil_iff.mp z)
  rw [this];refine cH (b8 (aB rfl) (b.at .jour (aM I.stg)) sd rfl rfl aI (zK (N:=N) b x ⟨D.fld,D.kk,D.uk⟩ (by rw [u];decide) λj m B C G M O U Y=>⟨rfl,?_⟩));exact q j m B (v.trans ((bv.new hp).trans C)) G M O U Y
def vA{e:E}{R:Bool->H->Prop}(h:xT x G m e (λb s=>R (!b) s) s):xT x G m (.not e) R s:=h
def t9{t:E}{A B:Ss}(h:xT x G m t (λc s=>if c then aZ x G A (mG x G M P) m s else aZ x G B (mG x G M P) m s) s):aZ x G (.cons (.ite t A B) M) P m s:=h
def wJ{a b:Int}{R:V->H->Prop}(k:R (.int (a+b)) s):qG .Add (.int a) (.int b) R s:=k
def Ds(X:aW g s st)(I:Inv g st none)(c:st.calls=0)(j:st.nums= [])
  (q:∀w,aW g w {st with calls:=1}->bv g s st w {st with calls:=1}->Q .none w):tb.cf (N+2) 837 [.ref g.jour] Q s:=by
 refine mW (t9 (vA (tMc (aB rfl) (X.at .jour (aM I.stg)) pd rfl rfl aI (jR (cY (oN (t:=true) (aY (cp (aG (aE (aB rfl) (X.at .jour (aM I.stg)) rfl rfl rfl) aI) (lenL (X.at .nums (aM I.stg)) (by rw [j];decide))) (cy (aY (aE (aB rfl) (X.at .jour (aM I.stg)) rfl rfl rfl) aN) (aE (aB rfl) (X.at .jour (aM I.stg)) rfl rfl rfl) (.of_right (Ex (by decide) (by decide))))) (aE (aB rfl) (X.at .jour (aM I.stg)) rfl rfl rfl) (fZ (by rw [j,c];rfl))) ?_)))));refine px (aB rfl) (X.at .jour (aM I.stg)) rfl rfl rfl aN (.inl ⟨rfl,rfl⟩) (cU (P:=λs=>aZ _ _ _ _ _ s) X .jour (aM I.stg) {st with calls:=1} (by rw [c];rfl) (λJ J=>rfl) (λJ h=>h) (by walk_at "hob") X.tup (λh=>nomatch h) λb k m=>bE (q b k m))
structure fw(σ0:H)(r:iS)(o:AO)(fr:List (iS×AO))(σ:H):Prop where
 at':σ r=some o
 frA:∀p∈fr,σ p.1=some p.2
 nd:(r::fr.map (·.1)).Nodup
 new:∀p∈fr,σ0 p.1=none
 out:∀p,p≠r->p∉fr.map (·.1)->σ p=σ0 p
variable{u:H}{o1 o2:AO}{y:List (iS×AO)}{C:iS}{O:Fs}{v:V}
def fw.start{C:iS}(h:u r=none):fw (u) r (.inst C []) [] (u.put r (.inst C [])):=⟨H.put_same ..,(λJ h=>nomatch h),by simp,(λJ h=>nomatch h),λp h J=>H.put_ne _ _ h⟩
def fw.ne(B:fw u r o1 y s){p:iS×AO}(h:p∈y):p.1≠r:=λe=>(List.nodup_cons.mp B.nd).1 (e▸List.mem_map.mpr ⟨p,h,rfl⟩)
def fw.set(B:fw u r o1 y s):fw u r o2 y (s.put r o2):=⟨H.put_same ..,λp h=>(H.put_ne _ _ (B.ne h)).trans (B.frA p h),B.nd,B.new,λp b c=>(H.put_ne _ _ b).trans (B.out p b c)⟩
def fw.alloc(B:fw u r o1 y s)(b:s c=none):fw u r o1 ((c,o2)::y) (s.put c o2):=by
 have g:c∉y.map (·.1):=λh=>by obtain⟨p,hp,rfl⟩:=List.mem_map.mp h;have b:=B.frA p hp▸b;cases b
 have j:c≠r:=λe=>by rw [e,B.at'] at b;exact nomatch b
 refine⟨(H.put_ne _ _ j.symm).trans B.at',λp h=>?_,?_,λp h=>?_,λp m k=>?_⟩
 ·rcases List.mem_cons.mp h with rfl|h
  ·exact H.put_same ..
  ·exact(H.put_ne _ _ λe=>g (by exact e▸List.mem_map.mpr ⟨p,h,rfl⟩)).trans (B.frA p h)
 ·have:=List.nodup_cons.mp B.nd;exact List.nodup_cons.mpr ⟨λh=>(List.mem_cons.mp h).elim (λe=>j e.symm) this.1,List.nodup_cons.mpr ⟨g,this.2⟩⟩
 ·rcases List.mem_cons.mp h with rfl|h
  ·exact(B.out c j g).symm.trans b
  ·exact B.new p h
 ·rw [IS,VT,not_or] at k;exact(H.put_ne _ _ k.1).trans (B.out p m k.2)
def fw.old(B:fw u r o1 y s){p:iS}{x:AO}(h:u p=some x)(b:p≠r):s p=some x:=(B.out p b λc=>by obtain⟨q,g,rfl⟩:=List.mem_map.mp c;have h:=B.new q g▸h;cases h).trans h
def bG(b:Ev m s e v)(B:fw u r (.inst C O) y s)(c:Ev m s o (.ref r))(k:∀w,fw u r (.inst C (bB O i v)) y w->aZ x G M P m w)(g:Vl i 100=true:=by rfl)(h:VZ O.length 500=true:=by rfl):aZ x G (.cons (.asg (.attr o i) e) M) P m s:=sX b c B.at' g h (k _ B.set)
def qU(B:fw u r (.inst C O) y s)(g:∀s,Ev m s o (.ref r))(k:∀w c,fw u r (.inst C (bB O i (.ref c))) ((c,.idict λJ=>none)::y) w->aZ x G M P m w)(h:Vl i 100=true:=by rfl)(j:VZ O.length 500=true:=by rfl):aZ x G (.cons (.asg (.attr o i) .dct0) M) P m s:=cz (FM λc b=>dN (g _) (B.alloc b).at' h j (k _ c (B.alloc b).set))
def uT(B:fw u r (.inst C O) y s)(g:∀s,Ev m s o (.ref r))(k:∀w c,fw u r (.inst C (bB O i (.ref c))) ((c,.list [])::y) w->aZ x G M P m w)(h:Vl i 100=true:=by rfl)(j:VZ O.length 500=true:=by rfl):aZ x G (.cons (.asg (.attr o i) (.lst .nil)) M) P m s:=cz (gj aI rfl λc b=>dN (g _) (B.alloc b).at' h j (k _ c (B.alloc b).set))
noncomputable def km(B d:Int):AO:=.inst 204 [(0,.int 64),(1,.int B),(2,.int 2),(3,.int 16),(4,.int d),(5,.int (bV d)),(6,.int (Int.fdiv 64 (bV d))),(7,.int 16),(8,.int 2),(9,.int 18),(10,.int 19),(11,.int 20)]
def kc{a b z:Int}(c:0<b/\b<10000)(hz:(a+b-1).fdiv b=z)(q:Q (.int z) s):tb.cf (N+1) 144 [.int a,.int b] Q s:=by
 refine rK (cY (gP (cI (aY (aB rfl) (aB rfl)) aN) (aB rfl) (JF c) (Ab (HJ (Int.le_of_lt c.1) (Int.lt_trans c.2 (by decide))))) ?_);exact hz▸q
def rV{B d:Int}(m:24<=B/\B<=26)(j:d=1\/d=2)(x:fw u r (.inst 204 []) [] s)
  (q:∀w,fw u r (km B d) [] w->Q .none w):tb.cf (N+2) 159 [.ref r,.int 64,.int B,.int 2,.int 16,.int d] Q s:=by
 have g:0<Int.fdiv 64 (bV d)/\Int.fdiv 64 (bV d)<100/\(2+Int.fdiv 64 (bV d)-1).fdiv (Int.fdiv 64 (bV d))=1/\bV d≠0/\bV d<100/\0<bV d:=by rcases j with h|h<;>rw [h]<;>decide
 have y:(B+512-1).fdiv 512=1:=by exact(Int.fdiv_eq_ediv_of_nonneg _ (by decide)).trans (NO m)
 have c:∀s,Ev [(0,V.ref r),(1,.int 64),(2,.int B),(3,.int 2),(4,.int 16),(5,.int d)] s (.v 0) (.ref r):=λs=>aB rfl
 refine rP (dH (Bk (tF (pB (aB rfl) aN) (decide_eq_false (Oe j))) (tF (pB (aB rfl) (aY sP (cy aN (aY (aB rfl) aN) (.of_left (Ex (by decide) (by decide)))))) (decide_eq_false (So j))) (tF (pB (aB rfl) (cy aN sP (.of_left (Ex (by decide) (by decide))))) rfl)) rfl ?_);refine dH (GI (i5 (aB rfl) sP (by decide)) aN) rfl (dH (Bk (tF (pB (aB rfl) aN) rfl) (tF (pB (aB rfl) aN) rfl) (tF (pB (aB rfl) aN) (decide_eq_false (by lia)))) rfl ?_);refine bG (aB rfl) x (c _) λs b=>bG (aB rfl) b (c _) λs b=>bG (aB rfl) b (c _) λs b=>bG (aB rfl) b (c _) λs b=>bG (aB rfl) b (c _) λs b=>?_
 refine bG (v:=.int (bV d)) (aY sP (cy aN (aY (aB rfl) aN) (.of_left (Ex (by decide) (by decide))))) b (c _) λs b=>bG (gP (aB rfl) (aE (aB rfl) b.at' rfl rfl rfl) g.2.2.2.1 (Ab (HJ (Int.le_of_lt g.2.2.2.2.2) (Int.lt_trans g.2.2.2.2.1 (by decide))))) b (c _) λs b=>bG (gP (aB rfl) aN (by decide) (Ab (by decide))) b (c _) λs b=>bG sP b (c _) λs b=>bG (aY sP (aB rfl)) b (c _) λs b=>?_
 refine cz (lW (aE (aB rfl) b.at' rfl rfl rfl) (kN (aG (aB rfl) (aG (aE (aB rfl) b.at' rfl rfl rfl) aI)) jY kb (kc (JH g) g.2.2.1 (wJ (dN (c _) b.at' rfl rfl ?_)))));have k:=b.set (o2:=.inst 204 (bB [(0,.int 64),(1,.int B),(2,.int 2),(3,.int 16),(4,.int d),(5,.int (bV d)),(6,.int (Int.fdiv 64 (bV d))),(7,.int 16),(8,.int 2),(9,.int 18)] 10 (.int 19)));refine cz (lW (aE (aB rfl) k.at' rfl rfl rfl) (kN (aG (aB rfl) (aG (cy aN (aB rfl) (.of_left (Ex (by decide) (by decide)))) aI)) jY kb (kc (by decide) y (wJ (dN (c _) k.at' rfl rfl ?_)))));have p:=k.set (o2:=km B d);exact dH (T9 (aE (aB rfl) p.at' rfl rfl rfl) (aB rfl)) (decide_eq_false (Rg m)) (bE (q _ p))
end
end
section
theorem yK{c g:Type}{f:c->g}:∀ {l:List c},(l.map f).Nodup->∀r s,r∈l->s∈l->f r=f s->r=s
 |x::l,b,r,s,h,j,e=>by
  have b:=List.nodup_cons.mp b;rcases List.mem_cons.mp h with h1|h1<;>rcases List.mem_cons.mp j with h2|h2
  ·rw [h1,h2]
  ·exact absurd (List.mem_map.mpr ⟨s,h2,by exact h1▸e.symm⟩) b.1
  ·exact absurd (List.mem_map.mpr ⟨r,h1,by refine h2▸ ?_;exact e⟩) b.1
  ·exact yK b.2 r s h1 h2 e
structure Nw(g:Fx)(st:St)(σ0 σ:H):Prop where
 out:∀p,σ0 p≠none->σ p=σ0 p
 own:∀a,gh g st a->σ0 a=none
section
variable{g g':Fx}{C A G σ1:H}{st st':St}{N:Nat}{Q:V->H->Prop}{P:Fl->Fs->H->Prop}{n:Int}{m:Fs}{b bs:List UInt8}{ss:Ss}{e o j:E}{i k:Nat}{x:Cx}{nn:Nat}{r c p:iS}{v:V}
def Nw.ext(h:Nw g st G C)(E:bv g C st A st'):Nw g st' G A:=by
 refine⟨λp hp=>?_,λa b=>(E.grow a b).elim (h.own a) ((λa b=>BS λc=>c ((h.out a c).symm.trans b)) a)⟩;have e:=h.out p hp;exact(E.out p (by exact e▸hp) λj=>hp (h.own p j)).trans e
def aW.grow{l:List Rl}(X:aW g C st)(v:∀p o,C p=some o->A p=some o)(b:∀r,bQ st r->ad g' st' r=ad g st r/\ob g' st' r=ob g st r)(j:∀r,bQ st' r->bQ st r\/r∈l)(k:∀r∈l,C (ad g' st' r)=none/\A (ad g' st' r)=some (ob g' st' r))(m:(l.map (ad g' st')).Nodup)(w:st'.unfl=st.unfl):aW g' A st':=by
 refine⟨λr u=>?_,λr s u x e=>?_,λt y=>v _ _ (X.tup t (w▸y))⟩
 ·rcases j r u with h|h
  ·rw [(b r h).1,(b r h).2];exact v _ _ (X.at r h)
  ·exact(k r h).2
 ·rcases j r u with h|h<;>rcases j s x with c|c
  ·exact X.inj r s h c (by refine(b r h).1▸ ?_;exact(b s c).1▸e)
  ·have:=(k s c).1;rw [<-e,(b r h).1] at this;have this:=X.at r h▸this;exact sN this
  ·have:=(k r h).1;rw [e,(b s c).1] at this;have this:=X.at s c▸this;exact sN this
  ·exact yK m r s h c e
def Nw.grow{l:List Rl}(W:Nw g st G C)(m:∀p o,C p=some o->A p=some o)(c:∀r,bQ st r->ad g' st' r=ad g st r)(s:∀r,bQ st' r->bQ st r\/r∈l)(b:∀r∈l,C (ad g' st' r)=none):Nw g' st' G A:=by
 refine⟨λp hp=>?_,λa j=>?_⟩
 ·generalize h:G p=u;induction u with
  |none=>exact absurd h hp
  |some o=>exact m p o ((W.out p hp).trans h)
 ·refine dQ j λr v w k=>?_
  rcases s r v with h|h
  ·exact W.own a ⟨r,h,w,(c r h).symm.trans k⟩
  ·have:=b r h;rw [k] at this;exact BS λb=>b ((W.out a b).symm.trans this)
noncomputable def g0(plan b c r:iS)(B d:Int):Fx:={plan:=plan,kept:=b,latest:=c,disk:=r,row:=0,byn:=0,cache:=0,jour:=0,table:=0,nodes:=0,node:=0,B:=B,d:=d}
noncomputable def uG(s:Nat)(un:iS):St:={stage:=s,aplaces:=0,calls:=0,kind:=0,major:=0,minor:=0,links:=0,size:=0,places:= [],tab:=λJ=>none,aunfl:=un,anums:=0,anoted:=0,latest:=λJ=>none,kept:=λJ=>none,unfl:= [],nums:= [],noted:=λJ=>none,dw:=0,fl:=0,cw:=0,commits:=0,abuf:=λJ=>0,adat:=λJ=>0,has:=λJ=>false,data:=λJ=> [],hold:=λJ=>0,pins:=λJ=>0,row:= [],hits:=0,reads:=0}
noncomputable def sF(B:Int)(b c un:iS):AO:=.inst 778 [(1,.int B),(19,.int 64),(36,.ref b),(37,.ref c),(38,.ref un),(35,.int 0),(39,.int 0),(40,.none),(41,.none),(42,.bool false)]
def yY{un:iS}(q:Rl)(h:bQ (uG 0 un) q):q=.plan:=by
 induction q<;>first|rfl|(exact nL h)|(exact fT h)
def Md{plan b c un:iS}{B d:Int}(hp:C plan=some (km B d)):aW (g0 plan b c r B d) C (uG 0 un):=by
 exact⟨λq g=>by exact yY q g▸hp,λq s j k J=>(yY q j).trans (yY s k).symm,λt h=>nM h⟩
def nw0{plan b c un:iS}{B d:Int}:Nw (g0 plan b c r B d) (uG 0 un) C C:=⟨λJ J=>rfl,λa ⟨q,g,h,_⟩=>absurd (yY q g) h⟩
def lJ{B:Int}(j:1<=B)(k:fw C r (.inst 778 []) [] σ1)(q:∀A g h un,fw C r (sF B g h un) [(un,.list []),(h,.idict λJ=>none),(g,.idict λJ=>none)] A->Q .none A):tb.cf (N+1) 698 [.ref r,.int B,.int 64] Q σ1:=by
 have c:∀C,Ev [(0,V.ref r),(1,.int B),(2,.int 64)] C (.v 0) (.ref r):=λC=>aB rfl
 refine tX (dH (DP (tF (pB (aB rfl) aN) (decide_eq_false (NT j))) (tF (pB (aB rfl) aN) rfl)) rfl ?_);exact bG (aB rfl) k (c _) λC b=>bG (aB rfl) b (c _) λC b=>qU b c λC g b=>qU b c λC h b=>uT b c λC un b=>bG aN b (c _) λC b=>bG aN b (c _) λC b=>bG aN b (c _) λC b=>bG aN b (c _) λC b=>bG aN b (c _) λC b=>bE (q _ _ _ _ b)
def FI{un:iS}(q:Rl)(h:bQ (uG 4 un) q):bQ (uG 0 un) q\/q∈ [Rl.disk,.unfl,.latest,.kept]:=by
 induction q<;>first|(exact .inl (oP 0))|(exact .inr (.head _))|(exact .inr (.tail _ (.head _)))|(exact .inr (.tail _ (.tail _ (.head _))))|(exact .inr (.tail _ (.tail _ (.tail _ (.head _)))))|(exact absurd (show qP _<=4 from h) (by decide))|(exact fT h)
def AX{plan b c un:iS}{B d:Int}(hp:C plan=some (km B d))(k:C r=none)(g:fw C r (sF B b c un) [(un,.list []),(c,.idict λJ=>none),(b,.idict λJ=>none)] A):aW (g0 plan b c r B d) A (uG 4 un)/\Nw (g0 plan b c r B d) (uG 4 un) C A:=by
 have m:∀q∈ [Rl.disk,.unfl,.latest,.kept],C (ad (g0 plan b c r B d) (uG 4 un) q)=none/\A (ad (g0 plan b c r B d) (uG 4 un) q)=some (ob (g0 plan b c r B d) (uG 4 un) q):=λq hq=>by
  rcases List.mem_cons.mp hq with rfl|hq
  ·exact⟨k,g.at'⟩
  rcases List.mem_cons.mp hq with rfl|hq
  ·exact⟨g.new _ (.head _),g.frA _ (.head _)⟩
  rcases List.mem_cons.mp hq with rfl|hq
  ·exact⟨g.new _ (.tail _ (.head _)),g.frA _ (.tail _ (.head _))⟩
  exact List.mem_singleton.mp hq▸⟨g.new _ (.tail _ (.tail _ (.head _))),g.frA _ (.tail _ (.tail _ (.head _)))⟩
 have j:∀q,bQ (uG 0 un) q->ad (g0 plan b c r B d) (uG 4 un) q=ad (g0 plan b c r B d) (uG 0 un) q/\ob (g0 plan b c r B d) (uG 4 un) q=ob (g0 plan b c r B d) (uG 0 un) q:=λq h=>by
  induction q<;>first|exact⟨rfl,rfl⟩|(exact nN h)|(cases h)
 have s:∀p o,C p=some o->A p=some o:=λp o h=>g.old h λe=>by rw [e,k] at h;exact nN h
 exact⟨(Md (un:=un) hp).grow s j FI m g.nd rfl,nw0.grow s (λq h=>(j q h).1) FI λq h=>(m q h).1⟩
structure Dq(g:Fx)(st:St):Prop where
 s:st.stage=4
 D:Dk st
 kl:∀k,st.latest k≠none->0<=k/\k<100000
 ll:∀k b,st.latest k=some b->b.length=64
 has:∀k,st.has k=false
theorem Dq.wr(h:Dq g st)(p:0<=n)(s:n<100000)(u:b.length=64):Dq g (st.wr r n b):=by
 refine⟨h.s,⟨?_,h.D.kk,λt v=>?_⟩,λk j=>?_,λk c j=>?_,h.has⟩
 ·show(λk=>if k=n then some b else st.latest k)=iw st.kept (st.unfl++ [(r,n,b)]);refine h.D.fld▸ ?_;unfold iw;rw [XC];rfl
 ·rcases List.mem_append.mp v with m|m
  ·exact h.D.uk t m
  ·exact List.mem_singleton.mp m▸⟨p,s⟩
 ·have j:(if k=n then some b else st.latest k)≠none:=j;by_cases e:k=n
  ·exact M8 p e s
  ·rw [if_neg e] at j;exact h.kl k j
 ·have j:(if k=n then some b else st.latest k)=some c:=j;by_cases e:k=n
  ·have j:=eX e▸j;obtain rfl:=eQ j;exact u
  ·have j:=if_neg e▸j;exact h.ll k c j
def Ut{u:List UInt8}{n:Int}{k:Nat}{R:V->H->Prop}(b:n=(k:Int))(c:∃a,u= [a])(g:k<=1000)(q:R (.bytes (oR k u).flatten) C):qG .Mult (.bytes u) (.int n) R C:=by
 subst b;obtain⟨a,rfl⟩:=c;exact⟨by simp,by simp,by exact Int.natCast_nonneg _,by exact Pz g,by exact q⟩
def yf{lo b:Int}{R:V->H->Prop}(h:C r=some (.rng lo b))(g:b-lo<=100000)(q:∀c,C c=none->R (.ref c) (C.put c (.list ((oS (b-lo).toNat).map λ(i:Nat)=>V.int (lo+(i:Int)))))):zA "list" [.ref r] R C:=by
 show(match C r with|some (.rng lo b)=>b-lo<=100000/\fresh (.list ((oS (b-lo).toNat).map λ(i:Nat)=>V.int (lo+(i:Int)))) R C|some (.list j)=>_|_=>False);exact h▸⟨g,q⟩
def zw{x y:List UInt8}{R:V->H->Prop}(b:x.length+y.length<=1000000)(q:R (.bytes (x++y)) C):qG .Add (.bytes x) (.bytes y) R C:=⟨b,q⟩
noncomputable def my(d:Int):List UInt8:=oR (bV d).toNat 0++ [2,0,0,0,0,0,1]++oR (57-bV d).toNat 0
noncomputable def Ar:List UInt8:= [255,255,15]++oR 61 0
def T8{z:Int}(h:0<=z/\z<256):octets? [.int z]=some [Tk z.toNat]:=by
 show(match octet? _,octets? [] with|some b,some bs=>some (b::bs)|_,_=>none)=_;unfold octet?;dsimp only;exact eX h▸rfl
def GX{b:List UInt8}(h:b.length=1):((oR 64 b).flatten).length=64:=by simp [h]
inductive DkI(g:Fx)(s0:St)(σ1:H)(u plan:iS)(L:List Int)(i:Nat)(m:Fs)(σ':H):Prop
 |mk (st':St) (h0:aW g σ' st') (h1:bv g σ1 s0 σ' st') (h2:Dq g st') (h3:st'.unfl.length<=i) (h4:jA g σ' st' u (.list (L.map .int))) (h5:aC m 0=some (.ref plan)) (h6:aC m 1=some (.ref g.disk))
def vi{plan:iS}{B d:Int}(s:24<=B/\B<=26)(hd:d=1\/d=2)(hp:C plan=some (km B d))
  (q:∀A g st,aW g A st->Nw g st C A->Dq g st->g.plan=plan->g.B=B->g.d=d->st.latest 18=some (my d)->st.latest 19=some Ar->st.unfl= []->st.kept=st.latest->Q (.ref g.disk) A):tb.cf (N+3) 921 [.ref plan] Q C:=by
 refine dQ (mA (g:=g0 0 0 0 0 B d) hd) λrw x p J=>?_
 have x:bV d=rw:=x;refine uU (bX (DY (aG ((λh1 h2 h3=>aE (aB rfl) hp h1 h2 h3) rfl rfl rfl) (aG aN aI)) vo zp λr hr=>lJ (N:=N+1) (LU s) (fw.start hr) λσ1 kp la un Bl=>⟨rfl,?_⟩));obtain⟨X,W⟩:=AX hp hr Bl;have Q0:Dq (g0 plan kp la r B d) (uG 4 un):=⟨rfl,⟨rfl,λk h=>absurd rfl h,λt h=>nM h⟩,λk h=>absurd rfl h,(λk b h=>nN h),λJ=>rfl⟩
 revert X W Q0;refine KV (g0 plan kp la r B d) λg hG X W Q0=>?_
 have gp:g.plan=plan:=by exact hG▸rfl
 have gB:g.B=B:=by rw [<-hG];rfl
 have gd:g.d=d:=by rw [<-hG];rfl
 have u0:(uG 4 un).unfl= []:=rfl;generalize uG 4 un=s0 at X W Q0 u0;rw [<-(by exact hG▸rfl:g.disk=r)];have D:∀ {A st' m i v},aW g A st'->aC m 0=some (.ref plan)->aC [(0,.int 64),(1,.int B),(2,.int 2),(3,.int 16),(4,.int d),(5,.int (bV d)),(6,.int (Int.fdiv 64 (bV d))),(7,.int 16),(8,.int 2),(9,.int 18),(10,.int 19),(11,.int 20)] i=some v->Vl i 100=true->v.noBi=true->Ev m A (.attr (.v 0) i) v:=λX h0 h1 h2 h3=>by
  have h:=X.at .plan (Tl _);have h:=h;rw [show ad g _ .plan=plan from gp] at h;refine aE (aB h0) h ?_ h2 h3;unfold Gw;rw [gB];exact gd▸h1
 refine Dz (jS (gj (aG aN aI) rfl λa ha=>dA (bJ (pk (aG aN (aG (D (X.new ha) rfl rfl rfl rfl) aI)) ⟨rfl,by decide,by decide,by exact MV s,by exact Nt s,λy hy=>yf (H.put_same ..) (Mq s) λc hc=>?_⟩))));have X1:=X.new (o:=.list [.int 0]) ha;have X3:=(X1.new (o:=.rng 20 B) hy).new (o:=.list ((oS (B-20).toNat).map λ(i:Nat)=>V.int (20+(i:Int)))) hc;have A1:=jA.new (ob':=.list [.int 0]) X ha;refine zY ((A1.ext (bv.new (o:=.rng 20 B) hy)).ext (bv.new (o:=.list ((oS (B-20).toNat).map λ(i:Nat)=>V.int (20+(i:Int)))) hc)).1 (H.put_same ..) (by rw [eS,tS,Op];exact KA s) λu hu=>?_
 have eL:([V.int 0]++(oS (B-20).toNat).map λ(i:Nat)=>V.int (20+(i:Int)))=(0::(oS (B-20).toNat).map λ(i:Nat)=>20+(i:Int)).map V.int:=by
  rw [IS,VK];rfl
 refine eL▸ ?_;have hL:∀z∈(0::(oS (B-20).toNat).map λ(i:Nat)=>20+(i:Int)),0<=z/\z<B:=λz hz=>by
  rcases List.mem_cons.mp hz with rfl|hz
  ·exact M0 s
  ·refine bp (List.mem_map.mp hz) λi hi aa=>?_
   subst aa;exact SK (List.mem_range.mp hi)
 have M:(0::(oS (B-20).toNat).map λ(i:Nat)=>20+(i:Int)).length<=7:=by rw [UP,eS,tS];exact J2 s
 revert hL M;refine Mw ((0::(oS (B-20).toNat).map λ(i:Nat)=>20+(i:Int))) λL hL M=>?_
 have E4:=(((bv.new (g:=g) (st:=s0) (o:=.list [.int 0]) ha).trans (bv.new (o:=.rng 20 B) hy)).trans (bv.new (o:=.list ((oS (B-20).toNat).map λ(i:Nat)=>V.int (20+(i:Int)))) hc)).trans (bv.new (o:=.list (L.map .int)) hu);rw [ly (H.put_same ..)];have X4:=X3.new (o:=.list (L.map .int)) hu;refine fU (xs:=L.map .int) (by rw [eS];exact gD (by assumption) (by decide)) (λi m A=>DkI g s0 σ1 u plan L i m A) (λi m A U=>by obtain⟨_,_,_,_,_,O,_⟩:=U;exact O.1) (λi m ac hi U I' kI=>⟨_,rfl,?_⟩) (λm ac U=>?_) ⟨s0,X4,E4,Q0,by exact u0▸oP _,(jA.new (ob':=.list (L.map .int)) X3 hu),rfl,rfl⟩
 ·obtain⟨j,X5,E5,Q5,u5,O5,m0,m1⟩:=U;have hi:i<L.length:=aak hi (eS ..);have hz:=hL _ (US hi);rw [HD];have h4:4<=j.stage:=by rw [Q5.s];exact oP _
  refine cH (lr (aB (aP m1)) (X5.at .disk (aM h4)) rfl rfl eb (cn (aB ct) (bJ (jS (dA (bJ (gj (aG (aY aN (aB ct)) aI) rfl λz G=>Dm (H.put_same ..) (EQ rfl) (T8 (Ra hz s ‹_› hi)) _ (aN _ _ _ (Ut (k:=64) rfl ⟨_,rfl⟩ (by decide) (pK (N:=N) (X5.new G) h4 hz.1 (J0 hz gB ‹_› hi) (CD s gB) (GX rfl) Q5.kl (MN u5 hi M) λae w X6 E6=>⟨rfl,bE (kI _ _ ⟨_,X6,E5.trans ((bv.new G).trans E6),Q5.wr hz.1 (PX hz s ‹_› hi) (GX rfl),?_,(O5.ext (bv.new G)).ext E6,aP m0,aP m1⟩)⟩))))))))));show(j.unfl++ [_]).length<=_;rw [pS,Op];(clear hz;exact VH ‹_› _)
 ·obtain⟨j,X5,E5,Q5,u5,O5,m0,m1⟩:=U;rw [eS] at u5;have h4:4<=j.stage:=by rw [Q5.s];exact oP _
  refine cH (lr (aB m1) (X5.at .disk (aM h4)) rfl rfl eb (cn aN (bJ (jS (jS (pk (aG (D X5 m0 rfl rfl rfl) aI) ?_))))));refine Ac (k:=rw) x (Kb ‹_› p) _ (dA (bJ (gj (aG aN (aG aN (aG aN (aG aN (aG aN (aG aN (aG aN aI))))))) rfl λz G=>?_)));have X6:=X5.new (o:=.list [.int 2,.int 0,.int 0,.int 0,.int 0,.int 0,.int 1]) G;refine Dm (b:= [2,0,0,0,0,0,1]) (H.put_same ..) (by decide) rfl _ (zw (by rw [vS];exact Ks ‹_› p) (pk (aG (cI aN (D X6 m0 rfl rfl rfl)) aI) ?_));refine Ac (k:=57-rw) (Nr ‹_› x p) (by(clear h4 u5 gd gB x s;exact Rm ‹_›)) _ (zw (by rw [pS,vS,vS];exact OV ‹_› p) ?_);have er:oR rw (0:UInt8)++ [2,0,0,0,0,0,1]++oR (57-rw) 0=my d:=by
   unfold my;rw [x,Int.toNat_natCast,show(57-(rw:Int)).toNat=57-rw by exact R5 ‹_›]
  refine er▸ ?_;have rl:(my d).length=64:=by unfold my;rw [x];simp;exact Qd ‹_› p
  refine pK (N:=N) X6 h4 (by decide) (Qz s gB) (CD s gB) rl Q5.kl (Qo u5 M) λae w X7 E7=>⟨rfl,?_⟩
  have u7:(j.wr w 18 (my d)).unfl.length<=9:=by show(j.unfl++ [_]).length<=9;rw [pS,Op];exact RC u5 M
  have l7:(j.wr w 18 (my d)).latest 18=some (my d):=by show(if (18:Int)=18 then some (my d) else j.latest 18)=_;exact eX rfl
  have Q7:=Q5.wr (r:=w) (n:=18) (b:=my d) (by decide) (by decide) rl;generalize j.wr w 18 (my d)=st7 at X7 E7 Q7 l7 u7;have h7:4<=st7.stage:=by rw [Q7.s];exact oP _
  refine cH (lr (aB m1) (X7.at .disk (aM h7)) rfl rfl eb (cn aN (bJ (jS (dA (bJ (gj (aG aN (aG aN (aG aN aI))) rfl λy hy=>?_)))))));refine Dm (b:= [255,255,15]) (H.put_same ..) (by decide) rfl _ (pk (aG aN aI) (Ac (k:=61) rfl (by decide) _ (zw (by decide) ?_)));refine pK (N:=N) (b:=Ar) (X7.new (o:=.list [.int 255,.int 255,.int 15]) hy) h7 (by decide) (Sk s gB) (CD s gB) rfl Q7.kl (gD (by assumption) (by decide)) λai w2 X9 E9=>⟨rfl,?_⟩
  have Y:=Q7.wr (r:=w2) (n:=19) (b:=Ar) (by decide) (by decide) rfl;have l9:(st7.wr w2 19 Ar).latest 18=some (my d):=l7;have u9:(st7.wr w2 19 Ar).unfl.length<=10:=by show(st7.unfl++ [_]).length<=10;rw [pS,Op];exact VH ‹_› _
  have ab:(st7.wr w2 19 Ar).latest 19=some Ar:=by show(if (19:Int)=19 then some Ar else st7.latest 19)=_;exact eX rfl
  generalize st7.wr w2 19 Ar=st9 at X9 E9 Y l9 ab u9;have h9:4<=st9.stage:=by rw [Y.s];exact oP _
  refine cH (b8 (aB m1) (X9.at .disk (aM h9)) lK rfl rfl aI (yX (N:=N) X9 h9 Y.D.fld (gD (by assumption) (by decide)) Y.D.kk Y.D.uk λaf w3 ag ah=>⟨rfl,?_⟩));exact cY (aB m1) (q af g (st9.fls w3) ag (W.ext ((((E5.trans (bv.new G)).trans E7).trans ((bv.new hy).trans E9)).trans ah)) ⟨Y.s,⟨rfl,Y.kl,λt h=>nM h⟩,Y.kl,Y.ll,Y.has⟩ gp gB gd l9 ab rfl rfl)
end
end
section
noncomputable def Rl.isB:Rl->Bool
 | .buf _=>true
 | .dat _=>true
 |_=>false
section
variable{g g':Fx}{u w σ0 σ1:H}{st st':St}{N:Nat}{Q:V->H->Prop}{P:Fl->Fs->H->Prop}{n:Int}{m:Fs}{b bs:List UInt8}{ss:Ss}{e o j:E}{i k:Nat}{x:Cx}{nn:Nat}{r c p:iS}{v:V}
def zm{q:Rl}(b:∀k,st.has k=false)(h:bQ st q):q.isB=false/\qP q<=st.stage:=by
 induction q with
 |buf n=>exact Vp ((b n).symm.trans (h))
 |dat n=>exact Vp ((b n).symm.trans (h))
 |_=>exact⟨rfl,h⟩
def D4{q:Rl}(b:q.isB=false)(h:qP q<=st.stage):bQ st q:=by
 induction q<;>first|exact h|exact xF b
def uD{q:Rl}(b:q.isB=false):q∈Rl.dec/\q.code<15:=by
 have h:q.code<15:=by
  induction q with
  |buf=>exact xF b
  |dat=>exact xF b
  |_=>exact EQ rfl
 exact⟨VD (q.dec_at h),h⟩
def q9{l:List Rl}(a:Nat)(X:aW g u st)(W:Nw g st σ0 u)(m:st.stage=a)(M:∀k,st.has k=false)(v:∀k,st'.has k=false)(D:∀p o,u p=some o->w p=some o)
  (b:(Rl.dec.filter λr=>VZ (qP r) a).map (λr=>(ad g' st' r,ob g' st' r))=(Rl.dec.filter λr=>VZ (qP r) a).map λr=>(ad g st r,ob g st r)) (z:((Rl.dec.filter λr=>VZ (qP r) st'.stage).all λr=>VZ (qP r) a||l.any λs=>Xp s.code r.code)=true) (G:∀q∈l,u (ad g' st' q)=none/\w (ad g' st' q)=some (ob g' st' q)) (A:(l.map (ad g' st')).Nodup) (O:st'.unfl=st.unfl):aW g' w st'/\Nw g' st' σ0 w:=by
 have B:∀q:Rl,q.isB=false->qP q<=a->ad g' st' q=ad g st q/\ob g' st' q=ob g st q:=λq c C=>by
  have e:=List.map_inj_left.mp b q (List.mem_filter.mpr ⟨(uD c).1,Zl C⟩);exact⟨congrArg Prod.fst e,congrArg Prod.snd e⟩
 have Q:∀q:Rl,q.isB=false->qP q<=st'.stage->qP q<=a\/q∈l:=λq c C=>by
  have e:=List.all_eq_true.mp z q (List.mem_filter.mpr ⟨(uD c).1,Zl C⟩);rcases Bool.or_eq_true_iff.mp e with e|e
  ·exact .inl (EQ e)
  ·refine bp (List.any_eq_true.mp e) λs m e=>?_
   have e:=Xe e;have j:=s.dec_at (e▸(uD c).2);rw [e,q.dec_at (uD c).2] at j;exact .inr (eQ j▸m)
 have j:=λq h=>let ⟨x,y⟩:=zm M h;B q x (m▸y)
 have J:∀q,bQ st' q->bQ st q\/q∈l:=λq h=>by
  obtain⟨x,y⟩:=zm v h;rcases Q q x y with h|h
  ·exact .inl (D4 x (m▸h))
  ·exact .inr h
 exact⟨X.grow D j J G A O,W.grow D (λq h=>(j q h).1) J λq h=>(G q h).1⟩
noncomputable def Td(st:St):St:={st with row:= [],hits:=0,reads:=0,cw:=0,hold:=λJ=>0,pins:=λJ=>0,nums:= [],noted:=λJ=>none,calls:=0,commits:=0,tab:=λJ=>none,kind:=0,major:=0,minor:=0,links:=0,size:=0,places:= []}
def fw.keep{b:AO}{c:List (iS×AO)}(B:fw u r b c w)(g:u r=none){p:iS}{o:AO}(h:u p=some o):w p=some o:=B.old h λe=>by rw [e] at h;have h:=g▸h;exact nN h
def Oy{t a b:E}{v:V}(c:fc m u t true)(g:Ev m u a v):Ev m u (.ife t a b) v:=λx n Q q=>c x n _ (g x n Q q)
def A0{b:Bool}(Q:V->H->Prop)(q:Q (.int (if b then 1 else 0)) u):zA "int" [.bool b] Q u:=by
 exact q
noncomputable def BC(b c g:iS):AO:=.inst 680 [(30,.ref b),(31,.int 20),(19,.int 64),(5,.ref c),(32,.ref g),(33,.int 0),(34,.int 0),(35,.int 0)]
def rU{g:iS}{C:iS}{k:Fs}(p:u g=some (.inst C k))(j:aC k 19=some (.int 64))(m:u r=none)(q:∀w a b,fw u r (BC g a b) [(b,.idict λJ=>none),(a,.list [])] w->Q .none w):tb.cf (N+1) 579 [.ref r,.ref g,.int 20] Q (u.put r (.inst 680 [])):=by
 have h:∀u,Ev [(0,V.ref r),(1,.ref g),(2,.int 20)] u (.v 0) (.ref r):=λu=>aB rfl
 refine ru (dH (pB (aB rfl) aN) rfl (bG (aB rfl) (fw.start m) (h _) λσ1 c=>bG (aB rfl) c (h _) λσ1 c=>bG (aE (aB rfl) (c.keep m p) j rfl rfl) c (h _) λσ1 c=>uT c h λσ1 a c=>qU c h λσ1 b c=>bG aN c (h _) λσ1 c=>bG aN c (h _) λσ1 c=>bG aN c (h _) λσ1 c=>bE (q _ _ _ c)))
noncomputable def Ge(b g c:iS):AO:=.inst 896 [(22,.ref b),(43,.int 2),(19,.int 16),(20,.int 15),(31,.int 15),(44,.int 10),(45,.ref g),(27,.ref c),(26,.int 0),(46,.int 0)]
def uK{g j:iS}{C D:iS}{p k:Fs}{B:Int}(G:18<=B)(s:u g=some (.inst C p))(x:aC p 19=some (.int 64))(y:aC p 31=some (.int 20))(z:aC p 30=some (.ref j))(M:u j=some (.inst D k))(O:aC k 1=some (.int B))(m:u r=none)(q:∀w a b,fw u r (Ge g a b) [(b,.idict λJ=>none),(a,.list [])] w->Q .none w):tb.cf (N+1) 809 [.ref r,.ref g,.int 2,.int 16] Q (u.put r (.inst 896 [])):=by
 have h:∀u,Ev [(0,V.ref r),(1,.ref g),(2,.int 2),(3,.int 16),(4,.none)] u (.v 0) (.ref r):=λu=>aB rfl
 have A:=fw.start (C:=896) m;refine o5 (dH (Bk (tF (pB (aB rfl) aN) rfl) (tF (pB (aB rfl) aN) rfl) (tF (Am (aY (aB rfl) (aB rfl)) (aE (aE (aB rfl) (A.keep m s) z rfl rfl) (A.keep m M) O rfl rfl)) (decide_eq_false (G1 G)))) rfl ?_);refine bG (aB rfl) A (h _) λσ1 c=>bG (aB rfl) c (h _) λσ1 c=>bG (aB rfl) c (h _) λσ1 c=>?_
 refine bG (v:=.int 15) (cp (aG (cI (aB rfl) aN) (aG (cI (gP (aE (aB rfl) (c.keep m s) x rfl rfl) sP (by decide) (Ab (by decide))) aN) aI)) λQ q=>yi Q q) c (h _) λσ1 c=>?_
 refine bG (v:=.int 15) (cp (aG (aE (aB rfl) c.at' rfl rfl rfl) (aG (cI (aE (aB rfl) (c.keep m s) y rfl rfl) sP) aI)) λQ q=>yi Q q) c (h _) λσ1 c=>?_
 refine dH (pB (aE (aB rfl) c.at' rfl rfl rfl) aN) rfl (bG (v:=.int 10) (Oy (iq (t:=true) (aB rfl) aN λQ q=>⟨rfl,q⟩) (cp (aG sP (aG (aE (aB rfl) c.at' rfl rfl rfl) aI)) λQ q=>yi Q q)) c (h _) λσ1 c=>?_);refine dH (rC (t:=true) (AY (o2:=.LtE) aN (aE (aB rfl) c.at' rfl rfl rfl) (aE (aB rfl) c.at' rfl rfl rfl) (by decide) (leT (by decide)))) rfl ?_;exact uT c h λσ1 a c=>qU c h λσ1 b c=>bG aN c (h _) λσ1 c=>bG aN c (h _) λσ1 c=>bE (q _ _ _ c)
noncomputable def Cu(c b plan table:iS):AO:=.inst 463 [(21,.ref c),(22,.ref b),(23,.ref plan),(24,.int 4),(25,.ref table)]
def rH{b g plan:iS}{C:iS}{k:Fs}{B d:Int}(m:u b=some (.inst C k))(p:aC k 22=some (.ref g))(hp:u plan=some (km B d))(j:u r=none)(q:∀w t,fw u r (Cu b g plan t) [(t,.idict λJ=>none)] w->Q .none w):tb.cf (N+1) 311 [.ref r,.ref b,.ref plan] Q (u.put r (.inst 463 [])):=by
 have h:∀u,Ev [(0,V.ref r),(1,.ref b),(2,.ref plan)] u (.v 0) (.ref r):=λu=>aB rfl
 refine rA (bG (aB rfl) (fw.start j) (h _) λσ1 c=>bG (aE (aB rfl) (c.keep j m) p rfl rfl) c (h _) λσ1 c=>bG (aB rfl) c (h _) λσ1 c=>?_);refine bG (v:=.int 4) (aY sP (wh (v:=.int 0) (aG (oN (t:=false) (cI (aE (aB rfl) (c.keep j hp) rfl rfl rfl) (aE (aB rfl) (c.keep j hp) rfl rfl rfl)) aN (fZ rfl)) aI) λQ q=>A0 Q q)) c (h _) λσ1 c=>qU c h λσ1 t c=>bE (q _ _ c)
noncomputable def ON(b pl:iS):AO:=.inst 293 [(12,.ref b),(13,.int 1),(14,.int 1),(15,.int 0),(16,.int 0),(17,.int 0),(18,.int 0),(19,.int 0),(20,.ref pl)]
def um{c:iS}(h:u r=none)(q:∀w t,fw u r (ON c t) [(t,.list [])] w->Q .none w):tb.cf (N+1) 222 [.ref r,.ref c,.int 1] Q (u.put r (.inst 293 [])):=by
 have g:∀u,Ev [(0,V.ref r),(1,.ref c),(2,.int 1)] u (.v 0) (.ref r):=λu=>aB rfl
 exact uu (bG (aB rfl) (fw.start h) (g _) λσ1 b=>bG (aB rfl) b (g _) λσ1 b=>bG aN b (g _) λσ1 b=>bG sP b (g _) λσ1 b=>bG aN b (g _) λσ1 b=>bG aN b (g _) λσ1 b=>bG aN b (g _) λσ1 b=>bG aN b (g _) λσ1 b=>uT b g λσ1 a b=>bE (q _ _ b))
end
end
section
structure kf(d:Int)(b:List UInt8)(s:Nat)(pl:List Int):Prop where
 len:b.length=64
 h0:fh b (bV d).toNat=2
 h2:fh b ((bV d).toNat+2)=0
 h4:fh b ((bV d).toNat+4)=0
 h6:fh b ((bV d).toNat+6)=1
 w:dK b ((bV d).toNat+8)=s
 l:(pl.length:Int)=d+1
 p:∀(i:Nat) (h:i<pl.length),((dK b ((bV d).toNat+12+4*i):Nat):Int)=pl[i]
noncomputable def St.sn(st:St)(a b c d e:Int):St:={st with kind:=a,major:=b,minor:=c,links:=d,size:=e}
noncomputable def St.rd(st:St)(s:Int)(pl:List Int)(c:iS):St:={st with kind:=2,major:=0,minor:=0,links:=1,size:=s,places:=pl,aplaces:=c}
section
variable{g g':Fx}{z u σ0 σ1:H}{st st':St}{N:Nat}{Q:V->H->Prop}{P:Fl->Fs->H->Prop}{n:Int}{m:Fs}{b bs:List UInt8}{ss:Ss}{e o j:E}{i k s:Nat}{x:Cx}{nn:Nat}{r c p:iS}{v:V}{pl:List Int}
def IY{T:rp}{f i:iS}{vs:List V}{R:V->H->Prop}(b:(T.cx N).ok f=true)(c:(T.cx N).init f=some i)(k:∀r,z r=none->T.cf N i (.ref r::vs) (λv u=>v=.none/\R (.ref r) u) (z.put r (.inst f []))):ki (T.cx N) N (.ref f) vs R z:=by
 refine⟨b,?_⟩;exact c▸k
def wt(X:aW g z st)(m:14<=st.stage)(B:g.d=1\/g.d=2)(w:st.has 18=true)(R:kf g.d (st.data 18) s pl)(q:∀u c,aW g u (st.rd s pl c)->bv g z st u (st.rd s pl c)->Q .none u):tb.cf (N+3) 234 [.ref g.node,.ref (st.adat 18),.int (bV g.d),.int g.d] Q z:=by
 refine se (mA B) λa ha j U J=>?_
 have p:=R.len;have Y:(bV g.d).toNat=a:=by rw [ha];rfl
 have R0:=R.h0;have R2:=R.h2;have R4:=R.h4;have R6:=R.h6;have Rw:=R.w;have Rp:=R.p;have Rl:=R.l;rw [Y] at R0 R2 R4 R6 Rw Rp;refine ha▸ ?_;have x:∀z,Ev [(0,V.ref g.node),(1,.ref (st.adat 18)),(2,.int a),(3,.int g.d)] z (.v 0) (.ref g.node):=λz=>aB rfl
 refine nq (cz (kN (aG (aB rfl) (aG (aB rfl) aI)) dp dj (dy (b:=st.data 18) (N:=N+1) (k:=a) (X.at (.dat 18) w) rfl (Ii j p) (kX p) (dN (x _) (X.at .node (aM m)) rfl rfl ?_))));rw [R0];refine cU (P:=λz=>aZ _ _ _ _ _ z) X .node (aM m) (st.sn 2 st.major st.minor st.links st.size) rfl (λJ J=>rfl) (λJ h=>h) (by walk_at "hob") X.tup (λh=>nomatch h) λσ1 C E1=>?_
 refine cz (kN (aG (aB rfl) (aG (aY (aB rfl) aN) aI)) dp dj (dy (b:=st.data 18) (N:=N+1) (k:=a+2) (C.at (.dat 18) w) rfl (HV j p) (kX p) (dN (x _) (C.at .node (aM m)) rfl rfl ?_)));rw [R2];refine cU (P:=λz=>aZ _ _ _ _ _ z) C .node (aM m) (st.sn 2 0 st.minor st.links st.size) rfl (λJ J=>rfl) (λJ h=>h) (by walk_at "hob") C.tup (λh=>nomatch h) λac D E2=>?_
 refine cz (kN (aG (aB rfl) (aG (aY (aB rfl) aN) aI)) dp dj (dy (b:=st.data 18) (N:=N+1) (k:=a+4) (D.at (.dat 18) w) rfl (HG j p) (kX p) (dN (x _) (D.at .node (aM m)) rfl rfl ?_)));rw [R4];refine cU (P:=λz=>aZ _ _ _ _ _ z) D .node (aM m) (st.sn 2 0 0 st.links st.size) rfl (λJ J=>rfl) (λJ h=>h) (by walk_at "hob") D.tup (λh=>nomatch h) λae G E3=>?_
 refine cz (kN (aG (aB rfl) (aG (aY (aB rfl) aN) aI)) dp dj (dy (b:=st.data 18) (N:=N+1) (k:=a+6) (G.at (.dat 18) w) rfl (Ih j p) (kX p) (dN (x _) (G.at .node (aM m)) rfl rfl ?_)));rw [R6];refine cU (P:=λz=>aZ _ _ _ _ _ z) G .node (aM m) (st.sn 2 0 0 1 st.size) rfl (λJ J=>rfl) (λJ h=>h) (by walk_at "hob") G.tup (λh=>nomatch h) λaf M E4=>?_
 refine cz (kN (aG (aB rfl) (aG (aY (aB rfl) aN) aI)) eE eV (eJ (b:=st.data 18) (N:=N) (k:=a+8) (M.at (.dat 18) w) rfl (Fy j p) (kX p) (dN (x _) (M.at .node (aM m)) rfl rfl ?_)));rw [Rw];refine cU (P:=λz=>aZ _ _ _ _ _ z) M .node (aM m) (st.sn 2 0 0 1 s) rfl (λJ J=>rfl) (λJ h=>h) (by walk_at "hob") M.tup (λh=>nomatch h) λaa X5 E5=>?_
 refine cz (iE rfl (pk (aG (aY (aB rfl) aN) aI) ⟨by exact Nc B,by exact PO U j,λy hy=>?_⟩));have O:=X5.new (o:=.rng 0 (g.d+1)) hy;show(match sq (.ref y) _ with|some k=>_|none=>False);refine tY (H.put_same ..)▸ ?_;refine dM pl.length (λi=>.int (0+(i:Int))) (λi r u=>u=aa.put y (.rng 0 (g.d+1))/\r=(pl.take i).map .int) (λi r u J A=>?_) (λr u J=>?_) (λi r u v A I' kI=>⟨_,rfl,tK _ _ _ ?_⟩) (λr u v c hc=>?_) ⟨rfl,rfl⟩
 ·exact congrArg _ (eX (by exact MI Rl A))
 ·show some (if _ then _ else _)=_;rw [if_neg (by exact Ku Rl)]
 ·obtain⟨h1,h2⟩:=v;subst h1 h2;refine kN (aG (aB rfl) (aG (aY (aY (aB rfl) sP) (cy aN (aB rfl) (.of_left (Ex (by decide) (by decide))))) aI)) eE eV (eJ (b:=st.data 18) (N:=N) (k:=a+12+4*i) (O.at (.dat 18) w) (Sq) (LM Rl j A p B) (kX p) ⟨by rw [eS];exact gD (Xh ..) (SG Rl B),?_⟩);rw [Rp i A];refine kI _ _ ⟨rfl,?_⟩;rw [Gd A,Lo];rfl
 ·obtain⟨h1,h2⟩:=v;subst h1 h2;rw [UV];refine dN (x _) ((O.new hc).at .node (aM m)) rfl rfl (LV (P:=λz=>aZ _ _ _ _ _ z) O .node .places hc (aM m) (λh=>nomatch h) (st.rd s pl c) rfl rfl rfl ?_ (λJ h=>h) ?_ O.tup (λh=>nomatch h) λab X7 E7=>bE (q ab c X7 (((E1.trans E2).trans (E3.trans E4)).trans (E5.trans ((bv.new hy).trans E7)))))
  ·exact An (by kernel_rfl) (λJ=>rfl) λJ=>rfl
  ·exact EE (by kernel_rfl) (λJ=>rfl) λJ=>rfl
noncomputable def St.tb1(st:St)(a:iS):St:={st with tab:=λk=>if k=1 then some (.ref a) else none}
def qw(X:aW g z st)(b:12<=st.stage)(q:Q .none z):tb.cf (N+1) 318 [.ref g.nodes,.int 1] Q z:=
 i7 (dH (rC (t:=true) (AY aN (aB rfl) (aE (aE (aB rfl) (X.at .nodes (aM b)) rfl rfl rfl) (X.at .plan (aM b)) rfl rfl rfl) (by decide) (SR (by decide)))) rfl (bE q))
def MD{l r:E}{R:Bool->H->Prop}(b:fc m z l false)(h:xT x nn m r R z):xT x nn m (.or2 l r) R z:=b _ _ _ h
def Bt(X:aW g z st)(W:Nw g st σ0 z)(I:Inv g st none)(hs:st.stage=14)(U:∀k,st.has k=false)(ht:st.tab=λJ=>none)(hd:g.d=1\/g.d=2)(hb:st.latest 18=some b)(R:kf g.d b s pl)(hsz:(s:Int)<=64*(g.d+16))
  (q:∀u st' c,aW g u st'->Nw g st' σ0 u->Inv g st' none->(∀k,cont st' k=(st.latest k).getD bM)->st'.toNd={st.toNd with kind:=2,major:=0,minor:=0,links:=1,size:=(s:Int),places:=pl,aplaces:=c,tab:=λk=>if k=1 then some (.ref g.node) else none}->st'.latest=st.latest->st'.kept=st.kept->st'.unfl=st.unfl->st'.nums=st.nums->Q (.ref g.node) u):
  aZ (tb.cx (N+3)) (N+3) (.cons (.asg (.v 5) (.mc (.attr (.v 0) 22) 203 (.cons (.v 2) .nil))) (.cons (.ex (.mc (.v 4) 110 (.cons (.attr (.v 5) 28) (.cons (.v 3) (.cons (.attr (.attr (.v 0) 23) 4) .nil))))) (.cons (.ex (.mc (.attr (.v 0) 22) 111 (.cons (.v 5) .nil))) (.cons (.ite (.cmp .Eq (.attr (.v 4) 15) (.g (.int (0)))) (.cons .dead .nil) .nil) (.cons (.ite (.or2 (.cmp .Gt (.attr (.v 4) 15) (.g (.int (3)))) (.cmp .Gt (.attr (.v 4) 19) (.mc (.attr (.v 0) 23) 112 .nil))) (.cons .dead .nil) .nil) (.cons (.asg (.sub (.attr (.v 0) 25) (.v 1)) (.v 4)) (.cons (.ret (.v 4)) .nil))))))) (uv Q) [(0,.ref g.nodes),(1,.int 1),(2,.int 18),(3,.int (bV g.d)),(4,.ref g.node)] z:=by
 have Y:14<=st.stage:=by exact Oz hs
 refine gL (N:=N) (n:=18) X I Y rfl (aB rfl) (by decide) (zX I.B24) λaa m B E3 D p=>?_
 have y:=p.s Y;have G:=D.held 18 rfl;have A:m.data 18=b:=by
  rw [<-bU G,p.cont];unfold cont;refine U 18▸ ?_;rw [hb];rfl
 refine cH (b8 (aB rfl) (B.at .node (aM y)) o6 rfl rfl (aG (aE (aB rfl) (B.at (.buf 18) G) rfl rfl rfl) (aG (aB rfl) (aG (nS B y (aB rfl) rfl) aI))) (wt (N:=N) B y hd G (by exact A▸R:kf g.d (m.data 18) s pl) λab M X4 E4=>⟨rfl,?_⟩));refine lM (N:=N+1) X4 ({D with}) y rfl rfl (λa b=>(aU.cln I D p a b:_)) λac j r E5 I5 w=>?_
 have v:=w.s (st:=m.rd s pl M) y;have C:=congrArg Hi.toNd w.hi;have k5:j.kind=2:=by rw [C];rfl
 have z5:j.size=s:=by rw [C];rfl
 refine dH (jV (aE (aB rfl) (r.at .node (aM v)) rfl rfl rfl) sP) (decide_eq_false (Ml k5)) ?_;refine t9 (MD (tF (Am (aE (aB rfl) (r.at .node (aM v)) rfl rfl rfl) sP) (decide_eq_false (by exact MA k5))) (oh (aE (aB rfl) (r.at .node (aM v)) rfl rfl rfl _ _ _ (b8 (mR r v (aB rfl)) (r.at .plan (aM v)) gw rfl rfl aI (lU (N:=N+1) r v (fZ (t:=false) (by exact congrArg _ (decide_eq_false (by exact Sj hsz z5))) _ ?_))))));have t5:j.tab=λJ=>none:=by rw [C];exact(congrArg (λx=>x.tab) p.hi).trans (ht)
 refine r8 (aB rfl) (aE (aB rfl) (r.at .nodes (aM v)) rfl rfl rfl) (aB rfl) (wD (r.at .table (aM v)) ⟨by decide,by decide⟩ (λk h=>by rw [t5] at h;exact absurd rfl h) (cU (P:=λz=>aZ _ _ _ _ _ z) r .table (aM v) (j.tb1 g.node) (by exact t5▸rfl) (λJ J=>rfl) (λJ h=>h) (by walk_at "hob") r.tup (λh=>nomatch h) λO X6 E6=>?_));refine cY (aB rfl) (q O (j.tb1 g.node) M X6 ((W.ext E3).ext ((E4.trans E5).trans E6)) {I5 with} (λk=>?_) ?_ ?_ ?_ ?_ ?_)
 ·show cont j k=_;rw [w.cont];show cont m k=_;rw [p.cont];unfold cont;exact U k▸rfl
 ·show({j.toNd with tab:=_}:Nd)=_;rw [C];show({m.toNd with kind:=2,major:=0,minor:=0,links:=1,size:=(s:Int),places:=pl,aplaces:=M,tab:=_}:Nd)=_;rw [show m.toNd=_ from congrArg Hi.toNd p.hi]
 ·exact w.sm.lat.trans p.sm.lat
 ·exact w.sm.kep.trans p.sm.kep
 ·exact w.sm.unf.trans p.sm.unf
 ·exact(congrArg (λx=>x.nums) w.hi).trans (congrArg (λx=>x.nums) p.hi)
def xR(X:aW g z st)(W:Nw g st σ0 z)(I:Inv g st none)(B:st.stage=12)(y:∀k,st.has k=false)(C:st.tab=λJ=>none)(A:st.kind=0/\st.major=0/\st.minor=0/\st.links=0/\st.size=0/\st.places= [])(D:g.d=1\/g.d=2)(M:st.latest 18=some b)(R:kf g.d b s pl)(hsz:(s:Int)<=64*(g.d+16))
  (q:∀u st' w c,aW {g with node:=w} u st'->Nw {g with node:=w} st' σ0 u->Inv {g with node:=w} st' none->(∀k,cont st' k=(st.latest k).getD bM)->st'.toNd={stage:=14,aplaces:=c,calls:=st.calls,kind:=2,major:=0,minor:=0,links:=1,size:=s,places:=pl,tab:=λk=>if k=1 then some (.ref w) else none}->st'.latest=st.latest->st'.kept=st.kept->st'.unfl=st.unfl->st'.nums=st.nums->Q (.ref w) u):tb.cf (N+4) 337 [.ref g.nodes,.int 1] Q z:=by
 have j:12<=st.stage:=by exact F9 B
 refine uq (cH (b8 (aB rfl) (X.at .nodes (aM j)) kJ rfl rfl (aG (aB rfl) aI) (qw (N:=N+2) X j ⟨rfl,?_⟩)));refine dH (TH (aB rfl) (aE (aB rfl) (X.at .nodes (aM j)) rfl rfl rfl) (X.at .table (aM j))) (by exact C▸rfl) ?_;refine fL (b8 (aE (aB rfl) (X.at .nodes (aM j)) rfl rfl rfl) (X.at .plan (Tl _)) gg rfl rfl (aG (aB rfl) aI) (ny X j D λr G=>za (R:=λm=>aZ _ _ _ _ m _) (H.put_same ..) rfl (by decide) ?_));refine bX (DY (aG (aB rfl) (aG (aB rfl) aI)) CV Ek λw v=>um (N:=N+2) v λO c x=>⟨rfl,?_⟩);refine wP A λU Y e3 e4 e5 e6=>?_
 obtain⟨X2,W2⟩:=q9 (g':={g with node:=w}) (st':={st with stage:=14,aplaces:=c}) (l:= [.node,.places]) 12 (X.new (o:=.tuple [.int 18,.int (bV g.d)]) G) (W.ext (bv.new (o:=.tuple [.int 18,.int (bV g.d)]) G)) B y y (λp o h=>x.keep v h) (by kernel_rfl) (by kernel_rfl) (λq hq=>by
  rcases List.mem_cons.mp hq with rfl|hq
  ·refine⟨v,x.at'.trans ?_⟩;rw [U,Y,e3,e4,e5];rfl
  ·refine List.mem_singleton.mp hq▸ ?_;refine⟨x.new _ (.head _),(x.frA _ (.head _)).trans ?_⟩
   rw [e6];rfl) x.nd rfl
 have I2:Inv {g with node:=w} {st with stage:=14,aplaces:=c} none:={I with stg:=by show 10<=14;decide}
 refine Bt (N:=N) X2 W2 I2 rfl y C D M R hsz λu st' c a1 a2 a3 a4 a5 a6 a7 a8 a9=>q u st' w c a1 a2 a3 a4 a5 a6 a7 a8 a9
end
end
section
section
variable{g g':Fx}{w u y σ1:H}{st st':St}{N:Nat}{Q:V->H->Prop}{P:Fl->Fs->H->Prop}{n:Int}{m:Fs}{b bs:List UInt8}{ss:Ss}{e o j:E}{i k s:Nat}{x:Cx}{nn:Nat}{r c p:iS}{v:V}{pl:List Int}
def L9{c:Type}{P:c->Prop}{a b:c}(g:P a)(h:P b):∀q∈ [a,b],P q:=λq hq=>by
 rcases List.mem_cons.mp hq with rfl|hq
 ·exact g
 ·exact List.mem_singleton.mp hq▸h
def H4{g:Type}{P:g->Prop}{a b c:g}(h:P a)(j:P b)(k:P c):∀q∈ [a,b,c],P q:=λq hq=>by
 rcases List.mem_cons.mp hq with rfl|hq
 ·exact h
 ·exact L9 j k q hq
def ye(X:aW g w st)(W:Nw g st y w)(m:st.stage=4)(b:∀k,st.has k=false)(j:w r=none){a c:iS}(B:fw w r (BC g.disk a c) [(c,.idict λJ=>none),(a,.list [])] u):
  aW {g with row:=a,byn:=c,cache:=r} u {Td st with stage:=7}/\Nw {g with row:=a,byn:=c,cache:=r} {Td st with stage:=7} y u:=
 q9 (l:= [.cache,.byn,.row]) 4 X W m b b (λp o h=>B.keep j h) (by kernel_rfl) (by kernel_rfl)
  (H4 ⟨j,B.at'⟩ ⟨B.new _ (.head _),(B.frA _ (.head _)).trans (congrArg (λf=>some (AO.idict f)) (funext λn=>by
   exact b n▸rfl))⟩ ⟨B.new _ (.tail _ (.head _)),B.frA _ (.tail _ (.head _))⟩) B.nd rfl
def zQ(X:aW g w st)(W:Nw g st y w)(m:st.stage=7)(b:∀k,st.has k=false)(hz:st.nums= []/\(st.noted=λJ=>none)/\st.calls=0/\st.commits=0)(j:w r=none){a c:iS}(B:fw w r (Ge g.cache a c) [(c,.idict λJ=>none),(a,.list [])] u):
  aW {g with jour:=r} u {st with stage:=10,anums:=a,anoted:=c}/\Nw {g with jour:=r} {st with stage:=10,anums:=a,anoted:=c} y u:=
 q9 (l:= [.jour,.noted,.nums]) 7 X W m b b (λp o h=>B.keep j h) (by kernel_rfl) (by kernel_rfl)
  (H4 ⟨j,B.at'.trans (by
   rw [hz.2.2.1,hz.2.2.2];rfl)⟩ ⟨B.new _ (.head _),(B.frA _ (.head _)).trans (by show _=some (AO.idict st.noted);rw [hz.2.1])⟩ ⟨B.new _ (.tail _ (.head _)),(B.frA _ (.tail _ (.head _))).trans (by show _=some (AO.list (st.nums.map .int));exact hz.1▸rfl)⟩) B.nd rfl
def xY(X:aW g w st)(W:Nw g st y w)(j:st.stage=10)(b:∀k,st.has k=false)(hz:st.tab=λJ=>none)(c:w r=none){t:iS}(B:fw w r (Cu g.jour g.cache g.plan t) [(t,.idict λJ=>none)] u):
  aW {g with table:=t,nodes:=r} u {st with stage:=12}/\Nw {g with table:=t,nodes:=r} {st with stage:=12} y u:=
 q9 (l:= [.nodes,.table]) 10 X W j b b (λp o h=>B.keep c h) (by kernel_rfl) (by kernel_rfl)
  (L9 ⟨c,B.at'⟩ ⟨B.new _ (.head _),(B.frA _ (.head _)).trans (by show _=some (AO.idict st.tab);exact hz▸rfl)⟩) B.nd rfl
def Ea(b:Dq g st)(k:24<=g.B/\g.B<=26){a c:iS}{z:Nat}(hz:10<=z):Inv g {Td st with stage:=z,anums:=a,anoted:=c} none:=by
 have j:∀ {P:Prop} {n:Int},st.has n=true->P:=λ{P n} h=>Vp ((b.has n).symm.trans h)
 exact⟨k.1,k.2,hz,λn h=>j h,b.ll,b.kl,(λv h=>nM h),λn h=>j h,(List.countP_eq_zero.mpr λn J=>by
  refine b.has n▸ ?_;decide).symm,λn h=>j h,λn=>rfl,(λn h=>nN h),λn=>Int.le_refl 0,(λn h=>nM h),.nil,λn=>⟨(λh=>fT h),(λh=>nM h)⟩,λn J J J J h=>j h⟩
def Inv.cg{c:Option Int}(I:Inv g st c)(h:g'.B=g.B):Inv g' st c:={I with B24:=by rw [h];exact I.B24,B26:=by rw [h];exact I.B26,num:=λn j=>by exact h▸I.num n j,clean:=λn a b=>I.clean n a (by refine h▸ ?_;exact b)}
def GJ{R:List V->H->Prop}(b:Ev m w e v)(k:R [v] w):lf x nn m (.cons e .nil) R w:=b _ _ _ k
def oW{b:Es}{R:V->H->Prop}(h:lf x nn m b (λvs w=>vs.length<=1000/\fresh (.tuple vs) R w) w):xE x nn m (.tup b) R w:=h
def el{b:Es}{R:List V->H->Prop}(h:xE x nn m e (λv w=>lf x nn m b (λvs w=>R (v::vs) w) w) w):lf x nn m (.cons e b) R w:=h
def Ai{x z:V}(X:aW g w st)(W:Nw g st y w)(I:Inv g st none)(p:st.stage=12)(A:∀k,st.has k=false)(B:st.tab=λJ=>none)(h:st.kind=0/\st.major=0/\st.minor=0/\st.links=0/\st.size=0/\st.places= [])(C:st.calls=0)(D:st.nums= [])(G:g.d=1\/g.d=2)(M:st.latest 18=some b)(R:kf g.d b s pl)(hsz:(s:Int)<=64*(g.d+16))
  (q:∀u g' st' r c,aW g' u st'->Nw g' st' y u->Inv g' st' none->g'.plan=g.plan->g'.B=g.B->g'.d=g.d->(∀k,cont st' k=(st.latest k).getD bM)->st'.toNd={stage:=14,aplaces:=c,calls:=0,kind:=2,major:=0,minor:=0,links:=1,size:=(s:Int),places:=pl,tab:=λk=>if k=1 then some (.ref g'.node) else none}->st'.latest=st.latest->st'.kept=st.kept->st'.unfl=st.unfl->st'.nums= []->u r=none->Q (.ref r) (u.put r (.tuple [.ref g'.nodes,.ref g'.node]))):
  aZ (tb.cx (N+4)) (N+4) (.cons (.ret (.tup (.cons (.v 2) (.cons (.mc (.v 2) 203 (.cons (.k (.int 1)) .nil)) .nil)))) .nil) (uv Q) [(0,x),(1,z),(2,.ref g.nodes)] w:=by
 refine cO (oW (cn (aB rfl) (bJ (b8 (aB rfl) (X.at .nodes (aM (by exact F9 p:12<=st.stage))) yw rfl rfl (aG aN aI) (xR (N:=N) X W I p A B h G M R hsz λj m O U Y W4 I4 h1 v h3 h5 h6 h7=>⟨by simp,λr hr=>?_⟩)))));rw [C] at v;exact q j {g with node:=O} m r U Y W4 I4 rfl rfl rfl h1 v h3 h5 h6 (h7.trans D) hr
def th(X:aW g w st)(W:Nw g st y w)(p:Dq g st)(C:24<=g.B/\g.B<=26)(D:g.d=1\/g.d=2)(G:st.latest 18=some b)(R:kf g.d b s pl)(hsz:(s:Int)<=64*(g.d+16))
  (q:∀u g' st' r c,aW g' u st'->Nw g' st' y u->Inv g' st' none->g'.plan=g.plan->g'.B=g.B->g'.d=g.d->(∀k,cont st' k=(st.latest k).getD bM)->st'.toNd={stage:=14,aplaces:=c,calls:=0,kind:=2,major:=0,minor:=0,links:=1,size:=(s:Int),places:=pl,tab:=λk=>if k=1 then some (.ref g'.node) else none}->st'.latest=st.latest->st'.kept=st.kept->st'.unfl=st.unfl->st'.nums= []->u r=none->Q (.ref r) (u.put r (.tuple [.ref g'.nodes,.ref g'.node]))):tb.cf (N+5) 928 [.ref g.disk,.ref g.plan] Q w:=by
 have J:4<=st.stage:=by rw [p.s];exact oP _
 have v:=p.has;refine rg (bX (i6 (el (i6 (el (DY (aG (aB rfl) (aG aN aI)) zV AZ λr1 h=>rU (N:=N+3) (X.at .disk (aM J)) rfl h λσ1 a1 c1 M=>⟨rfl,?_⟩))))));obtain⟨x,O⟩:=ye X W p.s v h M;refine cn aN (GJ aN (IY vj xQ λr2 j=>uK (N:=N+3) (B:=g.B) (Pj C) (x.at .cache (oP 7)) rfl rfl rfl (x.at .disk (by decide:4<=7)) rfl j λU Y c2 B2=>⟨rfl,?_⟩));obtain⟨A,W2⟩:=zQ x O rfl v ⟨rfl,rfl,rfl,rfl⟩ j B2;refine GJ (aB rfl) (IY Aa Au λr3 m=>rH (N:=N+3) (A.at .jour (oP 10)) rfl (A.at .plan (Tl _)) m λaa t3 B3=>⟨rfl,?_⟩);obtain⟨X3,W3⟩:=xY A W2 rfl v rfl m B3;exact Ai (N:=N) X3 W3 ((Ea (z:=12) (a:=Y) (c:=c2) p C (by decide)).cg rfl) rfl v rfl ⟨rfl,rfl,rfl,rfl,rfl,rfl⟩ rfl rfl D G R hsz q
end
end
section
section
variable{g g':Fx}{w u σ0 σ1:H}{st st':St}{N:Nat}{Q:V->H->Prop}{P:Fl->Fs->H->Prop}{n:Int}{m:Fs}{b bs:List UInt8}{ss:Ss}{e o j:E}{i k s:Nat}{x:Cx}{nn:Nat}{r c p:iS}{v:V}{pl:List Int}
def II{b:E}{a:iS}(c:Ev m w b (.ref a))(g:w a=some (.list []))(k:aZ x nn ss P m w):aZ x nn (.cons (.forEn0 b) ss) P m w:=c _ _ _ (by dsimp only;exact g▸k)
def Gn{f:Int->Option V}{R:V->H->Prop}(h:w r=some (.idict f))(b:∀k,f k≠none->0<=k/\k<100000)(q:∀c,w c=none->R (.ref c) (w.put c (.idict f))):zA "dict" [.ref r] R w:=by
 show(match w r with|some (.idict f)=>_|_=>False);exact h▸⟨b,q⟩
noncomputable def stC(un:iS)(f:Int->Option (List UInt8)):St:={uG 4 un with latest:=f,kept:=f}
def fw.has{g:AO}{b:List (iS×AO)}(B:fw w r g b u){c:iS}{o:AO}(h:(c,o)∈b):w c=none/\u c=some o:=⟨B.new _ h,B.frA _ h⟩
def BX{plan j k un z A C D:iS}{G o2 M O:AO}{B d:Int}{f:Int->Option (List UInt8)}(hp:w plan=some (km B d))(y:w r=none)(x:fw w r (sF B j k un) [(k,.idict λn=>(f n).map .bytes),(j,.idict λn=>(f n).map .bytes),(z,G),(A,o2),(un,.list []),(C,M),(D,O)] u):aW (g0 plan j k r B d) u (stC un f)/\Nw (g0 plan j k r B d) (stC un f) w u:=by
 refine q9 (g:=g0 plan j k r B d) (l:= [.disk,.unfl,.latest,.kept]) 0 (Md (un:=un) hp) nw0 rfl (λJ=>rfl) (λJ=>rfl) (λp o h=>x.keep y h) (by kernel_rfl) (by kernel_rfl) (λq hq=>?_) ?_ rfl
 ·rcases List.mem_cons.mp hq with rfl|hq
  ·exact⟨y,x.at'⟩
  ·exact H4 (a:=Rl.unfl) (b:=.latest) (c:=.kept) (P:=λq=>w (ad (g0 plan j k r B d) (stC un f) q)=none/\u (ad (g0 plan j k r B d) (stC un f) q)=some (ob (g0 plan j k r B d) (stC un f) q)) (x.has (c:=un) (o:=.list []) (by exact mI 4 rfl)) (x.has (c:=k) (o:=.idict λn=>(f n).map .bytes) (by exact .head _)) (x.has (c:=j) (o:=.idict λn=>(f n).map .bytes) (by exact .tail _ (.head _))) q hq
 ·have:=x.nd;simp only [IS,aaZ,aax,VT,not_or,WM,not_false_eq_true] at this⊢;refine q8 this λm s v J=>?_
  refine wP m λQ U J J Y J=>?_
  refine nj s λh4 J J h5 J=>?_
  refine q8 v λJ J h6 J=>?_
  exact⟨⟨Y,Q,U,trivial⟩,⟨NS h5,NS h6,trivial⟩,⟨h4,trivial⟩,trivial,.nil⟩
def D8(X:aW g w st)(v:4<=st.stage)(hu:st.unfl= [])(j:∀k,st.kept k≠none->0<=k/\k<100000)(ae:∀k b,st.kept k=some b->b.length=64)(hB:1<=g.B)
  (q:∀u g' st',aW g' u st'->Nw g' st' w u->Dq g' st'->g'.plan=g.plan->g'.B=g.B->g'.d=g.d->st'.latest=st.kept->st'.kept=st.kept->st'.unfl= []->Q (.ref g'.disk) u):tb.cf (N+3) 768 [.ref g.disk] Q w:=by
 have hU:∀ {u},aW g u st->u st.aunfl=some (.list []):=λX=>by have:=X.at .unfl (aM v);rw [show ob g st .unfl=.list [] from by show AO.list (st.unfl.map _)=_;refine hu▸ ?_;rfl] at this;exact this
 refine tw (cO (lr (aB rfl) (X.at .disk (aM v)) rfl rfl tU (bJ (dA (bJ (pk (aG (cp (aG (aE (aB rfl) (X.at .disk (aM v)) rfl rfl rfl) aI) (lenL (hU X) (by decide))) aI) ⟨by decide,by decide,λM x=>yf (H.put_same ..) (by decide) λy z=>?_⟩))))))
 have O:∀p,w p≠none->((w.put M (.rng 0 0)).put y (.list [])) p=w p:=λp hp=>(H.put_ne _ _ λe=>by
  by_cases e2:p=M
  ·exact hp (e2▸x)
  ·rw [<-e,H.put_ne _ _ e2] at z;exact hp z).trans (H.put_ne _ _ λe=>hp (e▸x))
 have A:=H.put_same (w.put M (.rng 0 0)) y (.list []);show tb.cf _ _ _ _ ((w.put M (.rng 0 0)).put y (.list []));have s:=(X.new (o:=.rng 0 0) x).new (o:=.list []) z
 revert O A s;refine Mw ((w.put M (.rng 0 0)).put y (.list [])) λU O A s=>?_
 have ho:∀w,Ev [(0,V.ref g.disk),(1,.ref y)] w (.v 0) (.ref g.disk):=λw=>aB rfl
 refine rQ (fL (oW (el (DY (aG (aE (aB rfl) (s.at .disk (aM v)) rfl rfl rfl) (aG (aE (aB rfl) (s.at .disk (aM v)) rfl rfl rfl) aI)) vo zp λr G=>lJ (N:=N) hB (fw.start G) λak kp la Y B3=>⟨rfl,?_⟩))));refine bJ (pk (aG (aB rfl) aI) (Gs (B3.keep G A) (by decide) _ λC af=>⟨by simp,λtp ag=>za (R:=λm=>aZ _ _ _ _ m _) (H.put_same ..) rfl (by decide) ?_⟩));have B5:=(B3.alloc (o2:=.list []) af).alloc (o2:=.tuple [.ref r,.ref C]) ag;have aa:∀ {u} {o1:AO} {fr},fw U r o1 fr u->u g.disk=some (ob g st .disk):=λB=>B.keep G (s.at .disk (aM v))
 refine cz (pk (aG (aE (aB rfl) (aa B5) rfl rfl rfl) aI) (Gn (B5.keep G (s.at .kept (aM v))) (λk h=>j k λe=>h (by rw [e];rfl)) λc ah=>?_));have B6:=B5.alloc (o2:=.idict λn=>(st.kept n).map .bytes) ah;have ho:∀w,Ev [(0,V.ref g.disk),(1,.ref y),(2,.ref r),(3,.ref C)] w (.v 2) (.ref r):=λw=>aB rfl
 refine dN (ho _) B6.at' rfl rfl ?_;have B7:=B6.set (o2:=sF g.B c la Y);refine BU (aB rfl) (ly (B7.frA (C,.list []) (by exact mI 2 rfl))) (ji 0 (λJ=>.none) (λi m u=>m= [(0,V.ref g.disk),(1,.ref y),(2,.ref r),(3,.ref C)]/\fw U r (sF g.B c la Y) [(c,.idict λn=>(st.kept n).map .bytes),(tp,.tuple [.ref r,.ref C]),(C,.list []),(Y,.list []),(la,.idict λJ=>none),(kp,.idict λJ=>none)] u) (λi m u h hi=>nL hi) (λm u D=>by obtain⟨_,B⟩:=D;exact p6 (B.frA (C,.list []) (by exact mI 2 rfl)) (by decide) 0) (λi m u h hi=>nL hi) (λm u D=>?_) ⟨rfl,B7⟩);obtain⟨h,B8⟩:=D;subst h;refine II (aE (aB rfl) (aa B8) rfl rfl rfl) (B8.keep G (hU s)) ?_;refine cz (pk (aG (aE (aB rfl) B8.at' rfl rfl rfl) aI) (Gn (B8.frA (c,.idict λn=>(st.kept n).map .bytes) (by exact .head _)) (λk h=>j k λe=>h (by rw [e];rfl)) λab ai=>?_));have B9:=B8.alloc (o2:=.idict λn=>(st.kept n).map .bytes) ai;refine dN (ho _) B9.at' rfl rfl ?_;obtain⟨aj,ac⟩:=BX (d:=g.d) (s.at .plan (Tl _)) G (B9.set (o2:=sF g.B c ab Y));refine cY (aB rfl) (q _ (g0 g.plan c ab r g.B g.d) (stC Y st.kept) aj ⟨λp hp=>(ac.out p (by exact O p hp▸hp)).trans (O p hp),λa ha=>?_⟩ ⟨rfl,⟨rfl,j,λt h=>nM h⟩,j,ae,λJ=>rfl⟩ rfl rfl rfl rfl rfl rfl);have:=ac.own a ha;exact BS λhn=>hn ((O a hn).symm.trans this)
end
end
section
structure Bx(z:Int)(fl:Int)(bx:List Int):Prop where
 ex:∃g s c,bx= [g,s,c,fl]/\0<=g/\0<=s/\s<2147483629/\0<=c/\c<=z
section
variable{u w σ0 σ1:H}{N:Nat}{Q:V->H->Prop}{P:Fl->Fs->H->Prop}{n:Int}{m:Fs}{ss:Ss}{e o j l r:E}{i k:Nat}{x:Cx}{nn:Nat}{p:iS}{v:V}{z A:Int}
def BZ{p q:Int}(b:Ev m u l (.int p))(c:Ev m u r (.int q))(h:0<=q/\q<=1000/\p.natAbs<2^64):Ev m u (.bin .Pow l r) (.int (p^q.toNat)):=ik b c λJ q=>⟨h.1,h.2.1,h.2.2,q⟩
def lB{a b:Int}(c:0<b):0<=a.fmod b/\a.fmod b<b:=⟨Int.fmod_nonneg_of_pos _ c,Int.fmod_lt_of_pos _ c⟩
def Eb{a b:Int}(c:0<=a)(g:0<b):0<=a.fdiv b:=Int.fdiv_nonneg c (Int.le_of_lt g)
def pT{G:List Int}{many:Int}(hp:u p=some (.list (G.map .int)))(B:Bx z A G)(hz:z<=100000)(j:0<many/\many<=100000)
  (q:∀x d,Bx (z+1) A x->0<=d->d<many->Q (.int d) (u.put p (.list (x.map .int)))):tb.cf (N+1) 914 [.ref p,.int many] Q u:=by
 refine H2 B.ex λg s c r y C D J M=>?_
 subst r;have b:∀ {m:Fs} {u:H} {k:Nat} {v:V} {e:E} {O:List V},aC m 0=some (.ref p)->u p=some (.list O)->Ev m u e (.int (k:Int))->k<4->O[k]? =some v->Ev m u (.sub (.v 0) e) v:=λY h he hk hx=>cC (aB Y) he λQ q=>wU (i:=_) h ⟨by exact Int.natCast_nonneg _,by exact Pw hk⟩ (by exact hx) Q q
 refine uH ?_;by_cases U:g>0
 ·refine dS (Am (b (k:=0) rfl hp aN (by decide) rfl) aN) (lO U) ?_;refine db (i5 (b (k:=0) rfl hp aN (by decide) rfl) (aB rfl) (Ci j)) ?_;refine r8 (gP (b (k:=0) rfl hp aN (by decide) rfl) (aB rfl) (Ci j) (Ab (HJ (Int.le_of_lt j.1) (Int.lt_of_le_of_lt j.2 (by decide))))) (aB rfl) aN (CP hp ⟨by decide,by decide⟩ (by decide:0<4) (cY (aB rfl) ?_));have:=lB (a:=g) j.1;exact q [g.fdiv many,s,c,A] _ ⟨_,_,_,rfl,Eb y j.1,C,D,J,by exact GN M⟩ this.1 this.2
 ·refine dH (Am (b (k:=0) rfl hp aN (by decide) rfl) aN) (decide_eq_false U) ?_;refine r8 (aY (b (k:=2) rfl hp aN (by decide) rfl) aN) (aB rfl) aN (CP hp ⟨by decide,by decide⟩ (by decide:2<4) ?_);have w:=H.put_same u p (.list [.int g,.int s,.int (c+1),.int A]);have hM:∀ {a:Int},0<=a.fmod 2147483647/\a.fmod 2147483647<2147483647:=lB (by decide);refine db (i5 (BZ (aY (aY (b (k:=1) rfl w aN (by decide) rfl) (cy aN (b (k:=2) rfl w aN (by decide) rfl) (.of_left (Ex (by decide) (by decide))))) aN) aN ⟨by decide,by decide,by(clear y j;omega)⟩) aN (by decide)) ?_;have h6:=hM (a:=(s+15485863*(c+1)+31)^(5:Int).toNat);generalize ((s+15485863*(c+1)+31)^(5:Int).toNat).fmod 2147483647=mx at h6;refine cY (i5 (gP (i5 (BZ (aY (cy (aB rfl) aN (.of_right (Ex (by decide) (by decide)))) (cy aN (b (k:=2) rfl w aN (by decide) rfl) (.of_left (Ex (by decide) (by decide))))) aN ⟨by decide,by decide,by(clear D C j;omega)⟩) aN (by decide)) aN (by decide) (Ab (by decide))) (aB rfl) (Ci j)) ?_;have:=lB (a:=(((mx*48271+7919*(c+1))^(3:Int).toNat).fmod 2147483587).fdiv 64) j.1;exact q [g,s,c+1,A] _ ⟨_,_,_,rfl,y,C,D,by exact GP J,by exact JM M⟩ this.1 this.2
def RV{a:Int}(Q:V->H->Prop)(q:Q (.int (if a<0 then -a else a)) u):w7 "abs" [.int a] Q u:=by
 exact q
def Uk{a b:Int}(Q:V->H->Prop)(q:Q (.int (if b>a then b else a)) u):w7 "max" [.int a,.int b] Q u:=by
 exact q
def UI{o:Obj}{xs:List V}(h:u p=some (.fix o xs))(b:xs.length<=1000000)(Q:V->H->Prop)(q:Q (.int xs.length) u):w7 "len" [.ref p] Q u:=by
 show j6 (.ref p) Q u;unfold j6;dsimp only;exact h▸⟨b,q⟩
def IC(b:Ev m u l (.bool true)):Ev m u (.or2 l r) (.bool true):=λx n Q q=>b x n _ q
def H6(b:Ev m u l (.bool false))(c:Ev m u r v):Ev m u (.or2 l r) v:=λx n Q q=>b x n _ (c x n Q q)
def Lr{o:E}{ob:Obj}{lo b:E}{xs:List V}{a:iS}{R:V->H->Prop}(g:Ev m u o (.ref a))(h:Ev m u lo .none)(j:Ev m u b (.int 24))(hp:u a=some (.fix ob xs))(p:xs.length<=1000000)(k:∀c,u c=none->R (.ref c) (u.put c (.list (xs.take 24)))):xE x nn m (.slc o lo b) R u:=g _ _ _ (h _ _ _ (j _ _ _ (by
 unfold jP;dsimp only;rw [hp];refine⟨p,?_⟩;have:dm xs .none (.int 24)=some (xs.take 24):=by
  exact congrArg some (List.take_eq_take_iff.mpr (Sf))
 exact this▸k)))
def Hq{o:Obj}{xs:List Int}(hp:u p=some (.fix o (xs.map .int)))(hl:xs.length<=1000)
  (q:∀w r bx A,u r=none->(∀a,u a≠none->w a=u a)->w r=some (.list (bx.map .int))->Bx 0 A bx->(A=0\/A=1)->Q (.ref r) w):tb.cf (N+1) 907 [.ref p] Q u:=by
 refine vB (fL (C5 (aG aN (aG aN aI)) rfl λr M=>za (R:=λm=>aZ _ _ _ _ m _) (H.put_same ..) rfl (by decide) ?_));have nz:u p≠none:=by exact hp▸λh=>nomatch h
 have j:∀ {u:H} {r:iS} {o:AO},u r=none->∀a,u a≠none->(u.put r o) a=u a:=λh a O=>H.put_ne _ _ λe=>O (by exact e▸h)
 refine Dz (Lr (aB rfl) aN aN ((j M p nz).trans hp) (by rw [eS];exact gD (by assumption) (by decide)) λa O=>?_);have B:∀y,u y≠none->((u.put r (.tuple [.int 37,.int 0])).put a (.list ((xs.take 24).map .int))) y=u y:=λy k=>(j O y (by exact j M y k▸k)).trans (j M y k)
 refine aaP▸ ?_;refine ly (H.put_same ..)▸ ?_;have hL:=H.put_same (u.put r (.tuple [.int 37,.int 0])) a (.list ((xs.take 24).map .int));generalize (u.put r (.tuple [.int 37,.int 0])).put a (.list ((xs.take 24).map .int))=σ2 at B hL⊢;refine fU (xs:=(xs.take 24).map .int) (by rw [eS,Ps];exact QK) (λi m w=>w=σ2/\∃g s,0<=g/\0<=s/\s<2147483629/\aC m 0=some (.ref p)/\aC m 1=some (.int s)/\aC m 2=some (.int g)) (λi m w h=>by rw [h.1];exact hL) (λi m w hi U I' kI=>⟨_,rfl,?_⟩) (λm w Y=>?_) ⟨rfl,0,37,by decide,by decide,by decide,rfl,rfl,rfl⟩
 ·obtain⟨h,g,s,h1,h2,h3,D,m1,x⟩:=U;subst h;rw [HD];generalize (xs.take 24)[i]'(by exact aak hi (eS ..))=c;refine db (i5 (aY (aY (cy (aB (aP m1)) aN (.of_right (Ex (by decide) (by decide)))) (cy (aB ct) aN (.of_right (Ex (by decide) (by decide))))) aN) aN (by decide)) ?_;have G:=lB (a:=s*48271+c*69621+43) (b:=2147483629) (by decide);have C:=ip (s:=decide (g=0)) (t:=decide ((if c<0 then -c else c)>=10^(18:Int).toNat)) (jV (aB (aP (i:=1) (v:=.int ((s*48271+c*69621+43).fmod 2147483629)) (aP (i:=3) (v:=.int c) x))) (aN (σ:=w) (v:=.int 0))) λJ=>T9 (cp (t:= "abs") (aG (aB (i:=3) (aP (i:=1) ct)) aI) λQ q=>RV Q q) (BZ (aN (v:=.int 10)) (aN (v:=.int 18)) ⟨by decide,by decide,by decide⟩)
  by_cases z:g=0/\(if c<0 then -c else c)>=10^(18:Int).toNat
  ·refine dS C (by rw [lO z.1,lO z.2];rfl) (db (cp (aG (aB (aP ct)) aI) λQ q=>RV Q q) (bE (Q:=mG _ _ _ _) (kI _ _ ⟨rfl,(if c<0 then -c else c),_,by split<;>(clear z;lia),G.1,G.2,aP (aP (aP D)),aP ct,ct⟩)))
  ·refine dH C (by rcases Classical.not_and_iff_not_or_not.mp z with h|h<;>rw [decide_eq_false h];rfl;exact Vq _) (bE (kI _ _ ⟨rfl,_,_,h1,G.1,G.2,aP (aP D),ct,aP (aP x)⟩))
 ·obtain⟨h,g,s,h1,h2,h3,D,m1,x⟩:=Y;subst h;have fin:∀b:Bool,Ev m w (.or2 (.cmp .Gt (.v 2) (.k (.int 0))) (.cmp .Gt (.call (.g (.bi "len")) (.cons (.v 0) .nil)) (.k (.int 1)))) (.bool b)->aZ (tb.cx N) N (.cons (.ret (.lst (.cons (.v 2) (.cons (.v 1) (.cons (.k (.int 0)) (.cons (.call (.g (.ty "int")) (.cons (.or2 (.cmp .Gt (.v 2) (.k (.int 0))) (.cmp .Gt (.call (.g (.bi "len")) (.cons (.v 0) .nil)) (.k (.int 1)))) .nil)) .nil)))))) .nil) (uv Q) m w:=λb z=>by
   refine cO (gj (aG (aB x) (aG (aB m1) (aG aN (aG (wh (aG z aI) λQ q=>A0 Q q) aI)))) rfl λc hc=>q _ c [g,s,0,if b then 1 else 0] _ ?_ (λy k=>(j hc y (by rw [B y k];exact k)).trans (B y k)) (H.put_same ..) ⟨g,s,0,rfl,h1,h2,h3,Int.le_refl _,Int.le_refl _⟩ (by induction b<;>simp));exact BS λhn=>hn ((B c hn).symm.trans hc)
  by_cases hg:g>0
  ·exact fin true (IC (oN (aB x) aN (fZ (by show some (decide _)=_;rw [lO hg]))))
  ·refine fin (decide (((xs.map V.int).length:Int)>1)) (H6 (oN (aB x) aN (fZ (by show some (decide _)=_;rw [decide_eq_false hg]))) (oN (cp (aG (aB D) aI) (UI ((B p nz).trans hp) (by rw [eS];exact AW hl))) aN (fZ rfl)))
end
end
section
structure Sd(g:Fx)(st:St)(d:Nat)(bn:Nat->Int)(oc:Nat->Nat)(s:Nat):Prop where
 I:Inv g st none
 hs:st.stage=14
 F:Fi g st d bn oc
 sz:st.size=s
 s64:(s:Int)<=64*(g.B-21)
 D:Dk st
 uk:st.unfl= []/\st.kept=st.latest
 z:∀i,s<=i->oc i=0
 nb:rM d st.places bn
structure Wd(g h:Fx)(a b:St)(σ:H):Prop where
 X:aW g σ a
 Y:aW h σ b
 sep:∀p,gh g a p->¬gh h b p
 pl:g.plan=h.plan
def Ow(g h:Fx)(a b:St)(c:H)(p:iS)(o:AO):Prop:=c p=some o/\¬gh g a p/\¬gh h b p
noncomputable def Pb:AO->Bool
 | .list _=>true
 | .sdict _=>true
 |_=>false
section
variable{g h:Fx}{a b B b':St}{c A σ0 σ1:H}{N:Nat}{Q:V->H->Prop}{P:Fl->Fs->H->Prop}{n:Int}{m:Fs}{ss:Ss}{e o j l r':E}{i k s d:Nat}{bn:Nat->Int}{oc:Nat->Nat}{x:Cx}{nn:Nat}{p r:iS}{v:V}{z fl:Int}{ob1 ob2:AO}
def aW.noPlan(X:aW g c a):¬gh g a g.plan:=λb=>by refine dQ b λr h j k=>?_;exact j (X.inj r .plan h (Tl _) k)
theorem Wd.symm(W:Wd g h a b c):Wd h g b a c:=⟨W.Y,W.X,λp j k=>W.sep p k j,W.pl.symm⟩
def Ow.symm(O:Ow g h a b c p ob1):Ow h g b a c p ob1:=⟨O.1,O.2.2,O.2.1⟩
def Wd.L(W:Wd g h a b c)(E:bv g c a A B)(w:aW g A B):Wd g h B b A:=by
 refine⟨w,W.Y.other (λr s=>E.out _ (by exact W.Y.at r s▸λh=>sN h) λu=>?_) (λt v=>E.out _ (by exact W.Y.tup t v▸λh=>sN h) λk=>?_),λp j m=>(E.grow p j).elim (λj=>W.sep p j m) (W.Y.isOb m),W.pl⟩
 ·by_cases e:r=.plan
  ·subst e;exact W.X.noPlan (W.pl▸u)
  ·exact W.sep _ u ⟨r,s,e,rfl⟩
 ·refine dQ k λr j m x=>?_
  have:=W.Y.tup t v;rw [<-x,W.X.at r j] at this;exact lR (eQ this)
def Ow.L(O:Ow g h a b c p ob1)(E:bv g c a A B):Ow g h B b A p ob1:=by
 have j:c p≠none:=by exact O.1▸λh=>sN h
 exact⟨(E.out p j O.2.1).trans O.1,λk=>(E.grow p k).elim O.2.1 j,O.2.2⟩
def Wd.R(W:Wd g h a b c)(E:bv h c b A b')(j:aW h A b'):Wd g h a b' A:=(W.symm.L E j).symm
def Ow.R(O:Ow g h a b c p ob1)(E:bv h c b A b'):Ow g h a b' A p ob1:=(O.symm.L E).symm
theorem Wd.new(W:Wd g h a b c)(j:c r=none):Wd g h a b (c.put r ob1):=⟨W.X.new j,W.Y.new j,W.sep,W.pl⟩
def Ow.new(W:Wd g h a b c)(j:c r=none):Ow g h a b (c.put r ob1) r ob1:=⟨H.put_same ..,W.X.fresh j,W.Y.fresh j⟩
def Ow.keep(O:Ow g h a b c p ob1)(j:c r=none):Ow g h a b (c.put r ob2) p ob1:=⟨(H.put_ne _ _ (dU O.1 j)).trans O.1,O.2⟩
def Ow.ne(O:Ow g h a b c p ob1)(j:Ow g h a b c r ob2)(k:ob1≠ob2):p≠r:=λe=>k (by have:=O.1;rw [e,j.1] at this;exact(eQ this).symm)
theorem Ow.put(O:Ow g h a b c p ob1):Ow g h a b (c.put p ob2) p ob2:=⟨H.put_same ..,O.2⟩
def Ow.at(O:Ow g h a b c p ob1)(j:p≠r):Ow g h a b (c.put r ob2) p ob1:=⟨(H.put_ne _ _ j).trans O.1,O.2⟩
def aW.law(X:aW g c a)(b:c p=some ob1)(k:¬gh g a p)(hp:Pb ob1=true):aW g (c.put p ob2) a:=X.other
 (λq h=>H.put_ne c _ λe=>by
  by_cases j:q=.plan
  ·subst j;have:=X.at .plan h;rw [e] at this;have this:=b▸this;obtain rfl:=eQ this;exact fT hp
  ·exact k ⟨q,h,j,e⟩)
 (λt m=>H.put_ne c _ λe=>by have:=X.tup t m;rw [e] at this;obtain rfl:=eQ (b▸this);exact fT hp)
theorem Wd.put(W:Wd g h a b c)(O:Ow g h a b c p ob1)(hp:Pb ob1=true):Wd g h a b (c.put p ob2):=⟨W.X.law O.1 O.2.1 hp,W.Y.law O.1 O.2.2 hp,W.sep,W.pl⟩
theorem Sd.same(S:Sd g a d bn oc s)(I:Inv g B none)(E:aU a B):Sd g B d bn oc s:=by
 have n:=E.sm.nd;exact⟨I,(congrArg Nd.stage n).trans S.hs,S.F.same n λk J=>E.cont k,(congrArg Nd.size n).trans S.sz,S.s64,E.dk S.D,⟨E.sm.unf.trans S.uk.1,E.sm.kep.trans (S.uk.2.trans E.sm.lat.symm)⟩,S.z,by rw [show B.places=a.places from congrArg Nd.places n];exact S.nb⟩
def sE(X:aW g c a)(S:Sd g a d bn oc s){off cnt:Nat}(h:off<=10000)(j:cnt<=10000)
  (q:∀A B,aW g A B->bv g c a A B->Sd g B d bn oc s->aU a B->Q (.bytes (rd oc off (min s (off+cnt)-off))) A):tb.cf (N+9) 255 [.ref g.node,.int off,.int cnt] Q c:=by
 have b:14<=a.stage:=by exact S.hs▸oP _
 exact tD (cO (b8 (aE (aB rfl) (X.at .node (aM b)) rfl rfl rfl) (X.at .nodes (aM b)) vq rfl rfl (aG (aB rfl) (aG (aB rfl) (aG (aB rfl) aI))) (EP (N:=N) X S.I b S.F S.sz S.s64 h j λA B x y z w=>q A B x y (S.same z w) w)))
def Ff{x u s:Nat}(h:x<=s):x-min u s=x-u:=by
 rcases XH u s with h2|h2
 ·rw [UO h2]
 ·rw [XZ h2,Xb h,Xb (gD h h2)]
def Hc{u w:Nat}(g:s<=1000000)(Q:V->H->Prop)(q:Q (.bytes (rd oc u (min s (u+w)-u))) c):jP (.bytes (rd oc 0 s)) (.int (u:Int)) (.int ((u:Int)+(w:Int))) Q c:=by
 show _/\(match dm (rd oc 0 s) (.int (u:Int)) (.int ((u:Int)+(w:Int))) with|some r=>Q (.bytes r) c|none=>False);have e:dm (rd oc 0 s) (.int (u:Int)) (.int ((u:Int)+(w:Int)))=some (rd oc u (min s (u+w)-u)):=by
  delta dm mL mP cM;dsimp only;rw [if_neg (by exact Int.not_lt.mpr (Int.natCast_nonneg _)),if_neg (by exact Int.not_lt.mpr (Int.natCast_nonneg _)),bu,show((u:Int)+(w:Int)).toNat=u+w by rfl,Int.toNat_natCast];refine congrArg some (Wf (by rw [VL,Ps,bu,bu,Nat.min_assoc,Nat.min_self,Nat.min_comm (u+w) s];exact Ff (Nat.min_le_left _ _)) λi h b=>?_);rw [bu] at b;rw [aaj,Wa,ni,ni,Wv,show min u s=u by exact Oc b]
 exact e▸⟨by exact bu▸g,q⟩
def HR{u w:List UInt8}{R:V->H->Prop}(k:R (.bool (decide (u≠w))) c):cr .NotEq (.bytes u) (.bytes w) R c:=k
def LE{g h j:E}{R:Bool->H->Prop}(k:fc m c g false)(p:xT x nn m h (λb c=>if b then R true c else xT x nn m j R c) c):xT x nn m (.or3 g h j) R c:=k _ _ _ p
def qm{u w:Nat}(X:aW g c a)(S:Sd g a d bn oc s)(C:s<=1000)(r:aC m 9=some (.ref g.node))(x:aC m 4=some (.bytes (rd oc 0 s)))(y:aC m 6=some (.int (u:Int)))(D:aC m 7=some (.int (w:Int)))(hu:u<=5000)(hw:w<=1000)
  (k:∀A B,aW g A B->bv g c a A B->Sd g B d bn oc s->aU a B->P .next m A):
  aZ (tb.cx (N+9)) (N+9) (.cons (.ite (.or3 (.cmp .NotEq (.attr (.v 9) 19) (.call (.g (.bi "len")) (.cons (.v 4) .nil))) (.cmp .NotEq (.mc (.v 9) 102 (.cons (.k (.int 0)) (.cons (.bin .Add (.call (.g (.bi "len")) (.cons (.v 4) .nil)) (.k (.int 5))) .nil))) (.v 4)) (.cmp .NotEq (.mc (.v 9) 102 (.cons (.v 6) (.cons (.v 7) .nil))) (.slc (.v 4) (.v 6) (.bin .Add (.v 6) (.v 7))))) (.cons (.ret (.k (.bool false))) .nil) .nil) .nil) P m c:=by
 have b:14<=a.stage:=by rw [S.hs];exact oP _
 have j:∀ {c},Ev m c (.call (.g (.bi "len")) (.cons (.v 4) .nil)) (.int s):=λ{c}=>bj (cp (aG (aB x) aI) (k7 (by rw [bu];exact gD (by assumption) (by decide)))) (by rw [bu])
 refine t9 (LE (tF (GI (aE (aB r) (X.at .node (aM b)) rfl rfl rfl) j) (decide_eq_false λh=>h S.sz)) (oh (b8 (aB r) (X.at .node (aM b)) oj rfl rfl (aG (aN (v:=.int (0:Nat))) (aG (bj (w:=.int (s+5:Nat)) (aY j aN) rfl) aI)) (sE (N:=N) X S (by decide) (Lq C) λσ1 M G O J Q=>aB x _ _ _ (HR ?_)))));rw [(by rw [Wv,Y5,UO (by exact NM _ _)]:rd oc 0 (min s (0+(s+5))-0)=rd oc 0 s),decide_eq_false (λh=>h rfl)];have p:14<=M.stage:=by rw [J.hs];exact oP _
 refine tBF (SV (oh (b8 (aB r) (G.at .node (aM p)) oj rfl rfl (aG (aB y) (aG (aB D) aI)) (sE (N:=N) G J (gD (by assumption) (by decide)) (gD (by assumption) (by decide)) λz U Y E2 S2 M2=>va (aB x) (aB y) (aY (aB y) (aB D)) (Hc (AW C) _ (HR ?_))))));rw [decide_eq_false (λh=>h rfl)];exact k z U Y (O.trans E2) S2 (Q.trans M2)
end
end
section
noncomputable def kO:Str:=Str.ofString "octets"
noncomputable def kT:Str:=Str.ofString "touched"
noncomputable def xi(oct:List UInt8)(D:iS):Str->Option V:=λk=>if k=kO then some (.bytes oct) else if k=kT then some (.ref D) else none
noncomputable def pz(oct:List UInt8)(D:iS):AO:=.sdict (xi oct D)
def kTO:kT≠kO:=by decide+kernel
def Jb{oct:List UInt8}{D:iS}:xi oct D kO=some (.bytes oct):=eX rfl
def BP{oct:List UInt8}{D:iS}:xi oct D kT=some (.ref D):=(if_neg kTO).trans (eX rfl)
def vu{oct oct':List UInt8}{D:iS}:(AO.sdict λk=>if k=kO then some (.bytes oct') else xi oct D k)=pz oct' D:=congrArg AO.sdict (funext λk=>by
 unfold xi;by_cases e:k=kO
 ·rw [eX e,eX e]
 ·rw [if_neg e,if_neg e,if_neg e])
def qL{oct:List UInt8}{D b:iS}:(AO.sdict λk=>if k=kT then some (.ref b) else xi oct D k)=pz oct b:=congrArg AO.sdict (funext λk=>by
 unfold xi;by_cases e:k=kT
 ·rw [eX e,eX e,if_neg (by exact e▸kTO)]
 ·rw [if_neg e,if_neg e,if_neg e])
noncomputable def TL(T:List Nat):List V:=T.map λ(i:Nat)=>V.int (i:Int)
def ya{T:List Nat}{i:Nat}:V.int (i:Int)∈TL T↔i∈T:=by
 refine(abd).trans ?_;constructor
 ·rintro ⟨j,b,e⟩;obtain rfl:j=i:=by exact N8 (by injection e:(j:Int)=i)
  exact b
 ·exact λh=>⟨i,h,rfl⟩
def CU{T:List Nat}:(TL T).all V.isInt=true:=List.all_eq_true.mpr λv c=>by refine bp (List.mem_map.mp c) λx _ b=>?_;subst b;rfl
def dR{T:List Nat}:(TL T).length=T.length:=eS ..
structure En(g h:Fx)(a b:St)(σ:H)(fl z:Int)(pr own box tl t0 t1 scr:iS)(so:AO)(bx:List Int)(oct:List UInt8)(T:List Nat):Prop where
 W:Wd g h a b σ
 ePr:Ow g h a b σ pr (.list [.ref t0,.ref t1])
 eP0:Ow g h a b σ t0 (.tuple [.ref g.nodes,.ref g.node])
 eP1:Ow g h a b σ t1 (.tuple [.ref h.nodes,.ref h.node])
 eOw:Ow g h a b σ own (pz oct tl)
 eTl:Ow g h a b σ tl (.list (TL T))
 eBx:Ow g h a b σ box (.list (bx.map .int))
 eSc:Ow g h a b σ scr so
 B:Bx z fl bx
 ne:tl≠box/\scr≠box/\scr≠own/\scr≠tl
section
variable{g h:Fx}{a b O b':St}{C w σ0 σ1:H}{N:Nat}{Q:V->H->Prop}{P:Fl->Fs->H->Prop}{n:Int}{m:Fs}{ss:Ss}{e o j l r':E}{i k s d:Nat}{bn:Nat->Int}{oc:Nat->Nat}{x:Cx}{nn:Nat}{p r:iS}{v:V}{z u:Int}{ob1 ob2:AO}
variable{pr y M D t0 Y G:iS}{J:AO}{B:List Int}{oct:List UInt8}{T:List Nat}
theorem En.L(E:En g h a b C u z pr y M D t0 Y G J B oct T)(c:bv g C a w O)(j:aW g w O):En g h O b w u z pr y M D t0 Y G J B oct T:=
 ⟨E.W.L c j,E.ePr.L c,E.eP0.L c,E.eP1.L c,E.eOw.L c,E.eTl.L c,E.eBx.L c,E.eSc.L c,E.B,E.ne⟩
theorem En.R(E:En g h a b C u z pr y M D t0 Y G J B oct T)(c:bv h C b w b')(j:aW h w b'):En g h a b' w u z pr y M D t0 Y G J B oct T:=
 ⟨E.W.R c j,E.ePr.R c,E.eP0.R c,E.eP1.R c,E.eOw.R c,E.eTl.R c,E.eBx.R c,E.eSc.R c,E.B,E.ne⟩
theorem En.new(E:En g h a b C u z pr y M D t0 Y G J B oct T)(c:C r=none):En g h a b (C.put r ob1) u z pr y M D t0 Y G J B oct T:=
 ⟨E.W.new c,E.ePr.keep c,E.eP0.keep c,E.eP1.keep c,E.eOw.keep c,E.eTl.keep c,E.eBx.keep c,E.eSc.keep c,E.B,E.ne⟩
def En.setBox{k:Int}{c:List Int}(E:En g h a b C u z pr y M D t0 Y G J B oct T)(m:Bx k u c):En g h a b (C.put M (.list (c.map .int))) u k pr y M D t0 Y G J c oct T:=by
 have hp:=E.ePr.ne E.eBx λe=>by
  refine DI E.B.ex λp p p j p=>?_
  subst j;have:=AO.list.inj e;rw [IS] at this;exact absurd (Zp this).1 (λh=>dI V.ctorIdx h rfl)
 exact⟨E.W.put E.eBx rfl,E.ePr.at hp,E.eP0.at (E.eP0.ne E.eBx λh=>nomatch h),E.eP1.at (E.eP1.ne E.eBx λh=>nomatch h),E.eOw.at (E.eOw.ne E.eBx λh=>dI AO.ctorIdx h rfl),E.eTl.at E.ne.1,E.eBx.put,E.eSc.at E.ne.2.1,m,E.ne⟩
structure F2(g h:Fx)(a b:St)(d:Nat)(bnA bnB:Nat->Int)(oc:Nat->Nat)(s:Nat)(T:List Nat):Prop where
 A:Sd g a d bnA oc s
 B:Sd h b d bnB oc s
 tA:∀i,bnA i≠0↔i∈T
 tB:∀i,bnB i≠0↔i<(s+63)/64
 tT:∀i∈T,i<(s+63)/64
 nd:T.Nodup
 last:0<s->(s+63)/64-1∈T
 eB:h.B=g.B
variable{U A:Nat->Int}
def F2.L(F:F2 g h a b d U A oc s T)(S:Sd g O d U oc s):F2 g h O b d U A oc s T:={F with A:=S}
def F2.R(F:F2 g h a b d U A oc s T)(S:Sd h b' d A oc s):F2 g h a b' d U A oc s T:={F with B:=S}
def Iq{i:Nat}(b:aC m i=some (.ref y))(c:C y=some (pz oct D)):Ev m C (.sub (.v i) (.k (.str (Str.ofString "octets")))) (.bytes oct):=cC (aB b) aN λQ q=>JO c Jb Q q
def TW{i:Nat}(b:aC m i=some (.ref y))(c:C y=some (pz oct D)):Ev m C (.sub (.v i) (.k (.str (Str.ofString "touched")))) (.ref D):=cC (aB b) aN λQ q=>JO c BP Q q
def tI(b:C y=some (pz oct D))(c:oct.length<=10000)(q:Q (.int ((oct.length+63)/64:Nat)) C):tb.cf (N+1) 935 [.ref y] Q C:=by
 refine tM (cY (gP (aY (cp (aG (Iq rfl b) aI) (k7 (gD (by assumption) (by decide)))) aN) aN (by decide) (Ab (by decide))) ?_);exact q
noncomputable def d5(T:List Nat)(f:Nat):List Nat:=(oS f).filter λi=>decide (i∉T)
def qY(m:C y=some (pz oct D))(A:C D=some (.list (TL T)))(p:oct.length<=10000)(O:T.length<=1000)
  (q:∀g r,C g=none->(C.put g (.rng 0 ((oct.length+63)/64:Nat))) r=none->Q (.ref r) ((C.put g (.rng 0 ((oct.length+63)/64:Nat))).put r (.list (TL (d5 T ((oct.length+63)/64)))))):tb.cf (N+2) 940 [.ref y] Q C:=by
 refine rZ (cO (iE rfl (dA (bJ (kN (aG (aB rfl) aI) gR g7 (tI (N:=N) m p ⟨by exact Int.natCast_nonneg _,by exact Mu p,λg s=>?_⟩))))));have B:(oct.length+63)/64<=200:=by exact MZ p
 generalize (oct.length+63)/64=f at q B⊢;show(match sq (.ref g) _ with|some k=>_|none=>False);refine tY (H.put_same ..)▸ ?_;refine dM f (λi=>.int (0+(i:Int))) (λi b w=>w=C.put g (.rng 0 f)/\b=TL (d5 T i)) (λi b w J u=>?_) (λb w J=>?_) (λi b w j u Y G=>⟨_,rfl,?_⟩) (λb w j c U=>?_) ⟨rfl,rfl⟩
 ·exact congrArg _ (eX (by exact Bh u))
 ·show some (if _ then _ else _)=_;rw [if_neg (by exact BI)]
 ·obtain⟨v,x⟩:=j;subst v x;rw [Int.zero_add];refine iq (t:= !decide (V.int (i:Int)∈TL T)) (aB ct) (TW rfl ((H.put_ne _ _ (dU m s)).trans m)) (λQ q=>?_) _ _ _ ?_
  ·show(match (C.put g (.rng 0 f)) D with|some (.idict f)=>_|some (.list z)=>z.all V.isInt=true/\z.length<=1000000/\Q (.bool (!decide (V.int (i:Int)∈z))) _|_=>False);exact((H.put_ne _ _ (dU A s)).trans A)▸⟨CU,by rw [dR];exact gD (by assumption) (by decide),q⟩
  have M:d5 T (i+1)=d5 T i++if i∈T then [] else [i]:=by
   unfold d5;rw [Wm,V0]
   congr 1
   by_cases e:i∈T
   ·rw [eX e,WP (by simp [e])];rfl
   ·rw [if_neg e,V4 (by exact eX e)];rfl
  by_cases e:i∈T
  ·rw [lO (ya.mpr e)];refine G _ _ ⟨rfl,?_⟩;rw [M,eX e,U9]
  ·rw [decide_eq_false λh=>e (ya.mp h)];refine SP (aB ct) ⟨?_,G _ _ ⟨rfl,?_⟩⟩
   ·rw [dR];exact gD (Ve ..) (by rw [tS];exact Ry u B)
   ·rw [M,if_neg e];unfold TL;rw [Lo];rfl
 ·obtain⟨v,x⟩:=j;subst v x;exact q g c s U
inductive PlI(g h:Fx)(fl z:Int)(pr own box tl t0 t1 scr:iS)(so:AO)(bx:List Int)(oct:List UInt8)(T:List Nat)(PA PA' PB PB':St->Prop)(p q:Nat)(m:Fs)(i:Nat)(m':Fs)(σ':H):Prop
 |mk (a' b':St) (E:En g h a' b' σ' fl z pr own box tl t0 t1 scr so bx oct T) (hA:if i=0 then PA a' else PA' a') (hB:if i<=1 then PB b' else PB' b') (hm:∀j,j≠p->j≠q->aC m' j=aC m j)
def AN{p q c:Nat}{s ss:Ss}{x:Cx}{nn:Nat}{m:Fs}{P:Fl->Fs->H->Prop}{PA PA' PB PB':St->Prop}(ab:Xp q p=false)(E:En g h a b C u z pr y M D t0 Y G J B oct T)(hA:PA a)(hB:PB b)(mc:aC m c=some (.ref pr))
  (U:∀C a r (P:Fl->Fs->H->Prop),aW g C a->PA a->aC r p=some (.ref g.nodes)->aC r q=some (.ref g.node)->(∀j,j≠p->j≠q->aC r j=aC m j)->(∀w O,aW g w O->bv g C a w O->PA' O->P .next r w)->aZ x nn s P r C)
  (aa:∀C a r (P:Fl->Fs->H->Prop),aW h C a->PB a->aC r p=some (.ref h.nodes)->aC r q=some (.ref h.node)->(∀j,j≠p->j≠q->aC r j=aC m j)->(∀w O,aW h w O->bv h C a w O->PB' O->P .next r w)->aZ x nn s P r C)
  (k:∀w O b' r,En g h O b' w u z pr y M D t0 Y G J B oct T->PA' O->PB' b'->(∀j,j≠p->j≠q->aC r j=aC m j)->aZ x nn ss P r w):
  aZ x nn (.cons (.forIn [p,q] (.v c) s) ss) P m C:=by
 refine BU (aB mc) (ly E.ePr.1) (fU (xs:= [.ref t0,.ref Y]) (by decide:2<=1000000) (PlI g h u z pr y M D t0 Y G J B oct T PA PA' PB PB' p q m)
  (λi r w A=>by obtain⟨_,_,E,_⟩:=A;exact E.ePr.1) (λi r w hi A I' kI=>?_) (λr w A=>by obtain⟨a1,b1,Q,hA,hB,hm⟩:=A;exact k w a1 b1 r Q hA hB hm) ⟨a,b,E,hA,hB,λae ae ae=>rfl⟩)
 obtain⟨a1,b1,Q,hA,hB,hm⟩:=A;have kp:∀ {af v:V} j,j≠p->j≠q->aC (bB (bB r p af) q v) j=aC m j:=λ{af v} j h7 h8=>by
  rw [bN,if_neg (NS h8),bN,if_neg (NS h7)];exact hm j h7 h8
 obtain rfl|rfl:i=0\/i=1:=by exact yM hi
 ·exact⟨_,Dy Q.eP0.1 rfl (oP 2),U _ a1 _ _ Q.W.X hA (aP ct ab) ct kp λac a2 X2 E2 h2=>kI _ _ ⟨a2,b1,Q.L E2 X2,h2,hB,kp⟩⟩
 ·exact⟨_,Dy Q.eP1.1 rfl (oP 2),aa _ b1 _ _ Q.W.Y hB (aP ct ab) ct kp λac b2 X2 E2 h2=>kI _ _ ⟨a1,b2,Q.R E2 X2,hA,h2,kp⟩⟩
end
end
section
section
variable{g h:Fx}{a b B M:St}{D A σ0 σ1:H}{N:Nat}{Q:V->H->Prop}{P:Fl->Fs->H->Prop}{n:Int}{m:Fs}{ss:Ss}{e o j l r':E}{i k s d:Nat}{bn:Nat->Int}{oc:Nat->Nat}{x:Cx}{nn:Nat}{p r:iS}{v:V}{z fl:Int}{ob1 ob2:AO}
variable{pr own box tl t0 t1 scr:iS}{so:AO}{bx:List Int}{oct:List UInt8}{T:List Nat}{C G:Nat->Int}
def Be{p:Nat->Bool}{n f:Nat}(h:f<=n)(hp:∀i,p i=true->i<f):(oS n).countP p=(oS f).countP p:=by
 refine du (Nat.exists_eq_add_of_le h) λk b=>?_
 subst b;rw [Yt,Zz,aaz];have:(oS k).countP (p∘λx=>f+x)=0:=List.countP_eq_zero.mpr λi J c=>by have:=hp _ c;exact LL this
 rw [this,abA]
set_option tactic.hygienic true in
def yW(S:Sd g a d bn oc s):(frees (cont a 19) (g.B-20).toNat:Int)=g.B-20-((oS (g.B-21).toNat).countP λi=>decide (bn i≠0))-(if at0 a.places d=0 then 0 else 1):=by
 have h:=S.I.B24;have b:=XG (p:=λ(k:Nat)=>bt (cont a 19) (20+(k:Int))) (l:=oS (g.B-20).toNat);rw [tS] at b;rw [(XE λk J=>by simp:(oS (g.B-20).toNat).countP (λ(k:Nat)=>decide ¬(bt (cont a 19) (20+(k:Int))=true))=frees (cont a 19) (g.B-20).toNat)] at b;have c:=S.F.mp.count h;split at c<;>rename_i j
 ·rw [eX j];exact Q8 b h c
 ·rw [if_neg j];exact MT b c
def CE(S:Sd g a d bn oc s){f:Nat}(h:∀i,bn i≠0->i<f)(j:d<f->∃i,d<=i/\bn i≠0):(if at0 a.places d=0 then(0:Int) else 1)=if f>d then 1 else 0:=by
 by_cases b:at0 a.places d=0
 ·rw [eX b,if_neg λk=>?_];refine bp (j k) λi m c=>?_
  exact c (S.F.b0 (Nat.not_lt.mpr ‹_›) b)
 ·rw [if_neg b,eX];refine bp (S.nb b) λi m c=>?_
  have:=h i c;exact Vu ‹_› ‹_›
def yI(S:Sd g a d bn oc s):(((s+63)/64:Nat):Int)<=g.B-21:=by exact JZ S.s64
def Gp(F:F2 g h a b d C G oc s T):(frees (cont b 19) (h.B-20).toNat:Int)=g.B-20-((s+63)/64:Nat)-(if (s+63)/64>d then 1 else 0):=by
 rw [yW F.B,CE F.B (λi c=>(F.tB i).mp c) (λj=>⟨d,oP _,(F.tB d).mpr j⟩),Be (f:=(s+63)/64) (by exact FW (yI F.B)) λi c=>(F.tB i).mp (EX c)];have:=by
  exact(List.countP_eq_length.mpr λi c=>lO ((F.tB i).mpr (List.mem_range.mp c))).trans ((tS))
 rw [this,F.eB]
def JB(F:F2 g h a b d C G oc s T):(frees (cont a 19) (g.B-20).toNat:Int)=frees (cont b 19) (h.B-20).toNat+(d5 T ((s+63)/64)).length:=by
 rw [Gp F,yW F.A,CE F.A (f:=(s+63)/64) (λi c=>F.tT i ((F.tA i).mp c)) (λj=>⟨(s+63)/64-1,by exact OE j,(F.tA _).mpr (F.last (by exact GT j))⟩),Be (f:=(s+63)/64) (by exact FW (yI F.A)) λi c=>F.tT i ((F.tA i).mp (EX c))];have m:(d5 T ((s+63)/64)).length=(oS ((s+63)/64)).countP λi=>decide ¬(decide (C i≠0)=true):=by
  unfold d5;rw [<-Wn];refine XE λi J=>?_
  have:=F.tA i;by_cases e:i∈T
  ·simp [e,this.mpr e]
  ·simp [e,(BS λh=>e (this.mp h))]
 have k:=XG (p:=λi=>decide (C i≠0)) (l:=oS ((s+63)/64));rw [tS] at k;exact LQ k m
def QZ(b:Ev m D l (.bool true)){R:V->H->Prop}(h:xE x nn m r' R D):xE x nn m (.and2 l r') R D:=b _ _ _ h
def OM{c:VY}{a:V}{R:V->H->Prop}(g:Ev m D l a)(h:xE x nn m r' (λb D=>cr c a b R D) D):xE x nn m (.cmp c l r') R D:=g _ _ _ h
def EF{t:String}{b:Es}{R:V->H->Prop}(k:lf x nn m b (λvs A=>w7 t vs R A) D):xE x nn m (.call (.g (.bi t)) b) R D:=k
def su(X:aW g D a)(S:Sd g a d bn oc s)(c:aC m 11=some (.ref g.nodes)){R:V->H->Prop}
  (k:∀A B,aW g A B->bv g D a A B->Sd g B d bn oc s->aU a B->R (.int (frees (cont a 19) (g.B-20).toNat)) A):xE (tb.cx (N+4)) (N+4) m (.mc (.v 11) 146 .nil) R D:=by
 have b:14<=a.stage:=by exact S.hs▸oP _
 exact b8 (aB c) (X.at .nodes (aM b)) kD rfl rfl aI (qX (N:=N) X S.I b λA B x y z w=>k A B x y (S.same z w) w)
def lu{plan:iS}{fl z:Int}(E:En g h a b D fl z pr own box tl t0 t1 scr so bx (rd oc 0 s) T)(F:F2 g h a b d C G oc s T)(hp:g.plan=plan)(hz:z<=1000)
  (q:∀A B M al,En g h B M A fl (z+2) pr own box tl t0 t1 scr so al (rd oc 0 s) T->F2 g h B M d C G oc s T->aU a B->aU b M->Q (.bool true) A):tb.cf (N+10) 945 [.ref box,.ref pr,.ref own,.ref plan] Q D:=by
 have aa:=F.A.s64;have O:=F.A.I.B26;have hs:s<=320:=by exact Nj aa O
 refine rR (fL (oW (cn (Iq rfl E.eOw.1) (bJ (kN (aG (aB rfl) aI) gR g7 (tI (N:=N+8) E.eOw.1 (by rw [bu];(clear O;exact gD (by assumption) (by decide))) ⟨by simp,λr1 am=>za (R:=λm=>aZ _ _ _ _ m _) (H.put_same ..) rfl (by decide) ?_⟩))))));rw [bu];have E1:=E.new (ob1:=.tuple [.bytes (rd oc 0 s),.int ((s+63)/64:Nat)]) am;refine fL (oW (el (kN (aG (aB rfl) (aG (aY (cp (aG (aB rfl) aI) (k7 (by rw [bu];(clear O;exact gD (by assumption) (by decide))))) aN) aI)) ef ec (pT (N:=N+8) E1.eBx.1 E1.B (GU hz) (by exact bu▸NX hs) λav u B1 u0 u1=>?_))));have E2:=E1.setBox B1;refine bJ (kN (aG (aB rfl) (aG aN aI)) ef ec (pT (N:=N+8) E2.eBx.1 E2.B (J3 hz) (by decide) λae w B2 w0 w1=>⟨by simp,λr2 an=>za (R:=λm=>aZ _ _ _ _ m _) (H.put_same ..) rfl (by decide) ?_⟩));rw [bu] at u1;refine du (Int.eq_ofNat_of_zero_le u0) λu U=>?_
 subst U;obtain⟨w,rfl⟩:=Int.eq_ofNat_of_zero_le w0;have E3:=(E2.setBox B2).new (ob1:=.tuple [.int u,.int w]) an;rw [show z+1+1=z+2 by exact Oq] at E3;refine AN (p:=8) (q:=9) (c:=1) (PA:=λB=>Sd g B d C oc s/\aU a B) (PA':=λB=>Sd g B d C oc s/\aU a B) (PB:=λM=>Sd h M d G oc s/\aU b M) (PB':=λM=>Sd h M d G oc s/\aU b M) rfl E3 ⟨F.A,.rfl⟩ ⟨F.B,.rfl⟩ rfl
  (λao a4 m4 P X S J m9 r k=>qm (N:=N) X S.1 (gD hs (by decide)) m9 (r 4 (by decide) (by decide)) (r 6 (by decide) (by decide)) (r 7 (by decide) (by decide)) (GM u1 hs) (FN w1) λab a5 X5 x S5 M5=>k ab a5 X5 x ⟨S5,S.2.trans M5⟩)
  (λao a4 m4 P X S J m9 r k=>qm (N:=N) X S.1 (gD hs (by decide)) m9 (r 4 (by decide) (by decide)) (r 6 (by decide) (by decide)) (r 7 (by decide) (by decide)) (GM u1 hs) (FN w1) λab a5 X5 x S5 M5=>k ab a5 X5 x ⟨S5,S.2.trans M5⟩)
  λA a4 b4 m E4 hA hB r=>?_
 have F4:=(F.L hA.1).R hB.1;have A4:=hA.2;have B4:=hB.2;clear hA hB;have m3:=r 3 (by decide) (by decide);have m5:=r 5 (by decide) (by decide);have m2:aC m 2=some (.ref own):=r 2 (by decide) (by decide);have fa:=JB F4;have fb:=Gp F4;generalize af:frees (cont a4 19) (g.B-20).toNat=fA at fa;generalize ag:frees (cont b4 19) (h.B-20).toNat=fB at fa fb;refine bX (iE (by show((aC m 11).isNone&&((aC m 12).isNone&&true))=true;rw [r 11 (by decide) (by decide),r 12 (by decide) (by decide)];rfl) (aB (v:=.ref pr) (r 1 (by decide) (by decide)) _ _ _ ?_));refine ly E4.ePr.1▸ ?_;refine lG (xs:= [.ref t0,.ref t1]) (by decide:2<=1000000) (λi Y A=>∃B M,En g h B M A fl (z+2) pr own box tl t0 t1 scr so ae (rd oc 0 s) T/\F2 g h B M d C G oc s T/\aU a4 B/\aU b4 M/\Y=([.int fA,.int fB]:List V).take i) (λi Y A y=>by refine bW y λ_ _ E _=>?_;exact E.ePr.1) (λi Y A hi y I' kI=>?_) (λY A y r3 ap=>?_) ⟨a4,b4,E4,F4,.rfl,.rfl,rfl⟩
 ·refine Of y λa5 b5 x F5 A5 B5 j=>?_
  have h2:=hi;obtain rfl|rfl:i=0\/i=1:=by exact yM h2
  ·refine⟨_,Dy x.eP0.1 rfl (by decide),tK _ _ _ (su (N:=N+5) x.W.X F5.A (aP ct) λaq a6 X6 E6 S6 M6=>⟨by rw [j];simp,kI _ _ ⟨a6,b5,x.L E6 X6,F5.L S6,A5.trans M6,B5,?_⟩⟩)⟩;rw [j,A5.cont,af];rfl
  ·refine⟨_,Dy x.eP1.1 rfl (by decide),tK _ _ _ (su (N:=N+5) x.W.Y F5.B (aP ct) λaq b6 X6 E6 S6 M6=>⟨by rw [j];simp,kI _ _ ⟨a5,b6,x.R E6 X6,F5.R S6,A5,B5.trans M6,?_⟩⟩)⟩;rw [j,B5.cont,ag];rfl
 have ar:=F4.eB;have ah:T.length<=1000:=gD (bZ (L:=oS ((s+63)/64)) F.nd λi hi=>List.mem_range.mpr (F.tT i hi)) (by exact tS▸Sp hs)
 ·refine Of y λa5 b5 x F5 A5 B5 j=>?_
  subst j;have R6:(A.put r3 (.list [.int fA,.int fB])) r3=some (.list [.int fA,.int fB]):=H.put_same ..;have ai:aC (bB m 10 (.ref r3)) 10=some (.ref r3):=ct;have E6:=x.new (ob1:=.list [.int fA,.int fB]) ap;have aj:=E6.W.X.at .plan (Tl _);rw [show ad g a5 .plan=plan from hp] at aj;have pl:∀ {v:V} {i:Nat},aC [(0,V.int 64),(1,.int g.B),(2,.int 2),(3,.int 16),(4,.int g.d),(5,.int (bV g.d)),(6,.int (Int.fdiv 64 (bV g.d))),(7,.int 16),(8,.int 2),(9,.int 18),(10,.int 19),(11,.int 20)] i=some v->Vl i 100=true->v.noBi=true->Ev (bB m 10 (.ref r3)) (A.put r3 (.list [.int fA,.int fB])) (.attr (.v 3) i) v:=λh1 h2 h3=>aE (aB (aP m3)) aj h1 h2 h3
  have ak:∀ {D:H},D r3=some (.list [.int fA,.int fB])->Ev (bB m 10 (.ref r3)) D (.sub (.v 10) (.k (.int 1))) (.int fB):=λh=>cC (aB ai) aN λQ q=>wU (i:=1) h ⟨by decide,by decide⟩ rfl Q q
  refine cO (QZ (oN (t:=true) (ak R6) (cI (cI (cI (pl (i:=1) rfl rfl rfl) aN) (aB (aP m5))) (wh (aG (oN (t:=decide ((((s+63)/64:Nat):Int)>g.d)) (aB (aP m5)) (pl (i:=4) rfl rfl rfl) (fZ rfl)) aI) λQ q=>A0 Q q)) (fZ ?_)) ?_);have gd:=F4.A.F.hd
  ·refine congrArg some (lO ?_);rw [fb,gd];by_cases ac:(s+63)/64>d
   ·rw [eX ac,lO (by(clear gd fb fa ag af ar w1 w0 u1 u0 ah aa O hz;exact Int.ofNat_lt.mpr ‹_›))];rfl
   ·rw [if_neg ac,decide_eq_false (by exact Kg ac)];rfl
  ·refine OM (cC (aB ai) aN λQ q=>wU (i:=0) R6 ⟨by decide,by decide⟩ rfl Q q) (lW (ak R6) (EF (bJ (kN (aG (aB (aP m2)) aI) f5 f9 (qY (N:=N+7) E6.eOw.1 E6.eTl.1 (by exact bu▸L1 hs) ah λy1 y2 as au=>?_)))));refine lenL (H.put_same ..) (by rw [dR];exact gD (Ve ..) (by rw [tS,bu];exact Nf hs)) _ (wJ (fZ (t:=true) ?_ _ ?_))
   ·refine congrArg some (lO ?_);rw [dR,bu];exact fa
   ·exact q _ a5 b5 ae ((E6.new as).new (ob1:=.list (TL (d5 T (((rd oc 0 s).length+63)/64)))) au) F5 (A4.trans A5) (B4.trans B5)
end
end
section
section
variable{g h:Fx}{a b u b':St}{σ c σ0 σ1:H}{N:Nat}{Q:V->H->Prop}{P:Fl->Fs->H->Prop}{n:Int}{m:Fs}{ss:Ss}{e o j l r':E}{i k s d off:Nat}{bn:Nat->Int}{oc:Nat->Nat}{x:Cx}{nn:Nat}{p r:iS}{v:V}{z fl:Int}{ob1 ob2:AO}{bs:List UInt8}
variable{pr own box tl t0 t1 scr:iS}{so:AO}{bx:List Int}{oct:List UInt8}{T:List Nat}{bnA bnB:Nat->Int}
def Sd.wr(S:Sd g a d bn oc s)(I:Inv g u none)(W:Wr a u){b:Nat->Int}{oc':Nat->Nat}{c:Nat}(F:Fi g u d b oc')(hz:u.size=c)(h:(c:Int)<=64*(g.B-21))(z:∀i,c<=i->oc' i=0)(j:rM d u.places b):Sd g u d b oc' c:=
 ⟨I,W.stage.trans S.hs,F,hz,h,⟨by rw [W.lat,W.kep,W.unf];exact S.D.fld,by refine W.kep▸ ?_;exact S.D.kk,by exact W.unf▸S.D.uk⟩,⟨W.unf.trans S.uk.1,W.kep.trans (S.uk.2.trans W.lat.symm)⟩,z,j⟩
def gU(X:aW g σ a)(S:Sd g a d bn oc s)(p:a.calls=1)(m:0<bs.length)(w:bs.length<=1000)(k:(off+bs.length:Int)<=64*(g.B-21))
  (q:∀c u b,aW g c u->bv g σ a c u->Sd g u d b (gM oc off bs.length bs) (max s (off+bs.length))->(∀i,b i≠0↔bn i≠0\/(off<64*i+64/\64*i<off+bs.length))->u.calls=1->kP g u->Q (.int bs.length) c):tb.cf (N+10) 262 [.ref g.node,.int off,.bytes bs] Q σ:=by
 have j:14<=a.stage:=by rw [S.hs];exact oP _
 have h:=S.s64;have r:=S.sz;refine rG (cO (b8 (aE (aB rfl) (X.at .node (aM j)) rfl rfl rfl) (X.at .nodes (aM j)) ub rfl rfl (aG (aB rfl) (aG (aB rfl) (aG (aB rfl) aI))) (AQ (N:=N) X S.I j (Bo p) S.F m w k (Nk h r S.I.B26) λc u b x y z v A B C D G=>?_)));refine q c u b x y (S.wr z v A ?_ (Qr h k) (λi k=>?_) (G S.nb)) B (v.calls.trans p) D
 ·rw [C,r];split<;>lia
 ·exact(if_neg (by exact Qt k)).trans (S.z i (Lb k))
def yy(X:aW g σ a)(S:Sd g a d bn oc s)(h:a.calls=1)
  (q:∀c u,aW g c u->bv g σ a c u->Sd g u d (λJ=>0) (λJ=>0) 0->u.calls=1->kP g u->Q .none c):tb.cf (N+7) 269 [.ref g.node] Q σ:=by
 have b:14<=a.stage:=by exact S.hs▸oP _
 refine mJ (cH (b8 (aE (aB rfl) (X.at .node (aM b)) rfl rfl rfl) (X.at .nodes (aM b)) o7 rfl rfl (aG (aB rfl) aI) (wC (N:=N) X S.I b (Bo h) S.F λc u k m p j r v w x=>⟨rfl,bE (q c u k m (S.wr p j r v (Gx S.I.B24) (λJ J=>rfl) λy=>absurd x y) (j.calls.trans h) w)⟩)))
def De(b:∀i,oc i<256)(h:i<s):Mine.Internal.oct (rd oc 0 s) i=oc i:=by
 unfold Mine.Internal.oct;rw [yS (by rw [bu];exact h),ni,Wv];exact(WU (b i))
def QN{b:List UInt8}(c:b.length=s)(h:∀i,i<s->Mine.Internal.oct b i=oc i):b=rd oc 0 s:=by
 refine Wf (by rw [c,bu]) λi g j=>?_
 rw [ni,Wv,<-h i (by exact J8 g c)];unfold Mine.Internal.oct;rw [yS g];simp
def Sd.oc256(S:Sd g a d bn oc s)(i:Nat):oc i<256:=by
 rw [S.F.o i];split
 ·decide
 ·exact g3 ..
def vZ(c:∀i,oc i<256)(z:∀i,s<=i->oc i=0):((rd oc 0 s++oR (off-s) 0).take off++bs)++(rd oc 0 s).drop (off+bs.length)=rd (gM oc off bs.length bs) 0 (max s (off+bs.length)):=by
 have h:((rd oc 0 s++oR (off-s) 0).take off).length=off:=by rw [Ps,pS,bu,vS];exact J1
 refine QN (by rw [pS,pS,h,VL,bu];exact OH) λi j=>?_
 rw [lV,lV,pS,h];unfold gM;by_cases g:i<off
 ·rw [eX (by exact gD ‹_› (NM _ _)),eX g,if_neg (by exact KB g),qv,eX g,lV,bu];by_cases b:i<s
  ·exact(eX b).trans ((De c b))
  ·rw [if_neg b,z i (Nat.not_lt.mp ‹_›)];unfold Mine.Internal.oct;refine U1▸ ?_;split<;>rfl
 ·by_cases b:i<off+bs.length
  ·rw [eX b,if_neg g,eX ⟨by exact Em g,b⟩]
  ·rw [if_neg b,if_neg (by exact OC b),p9,show off+bs.length+(i-(off+bs.length))=i by exact RQ b];exact De c (Qa j b)
end
end
section
section
variable{g h:Fx}{a b a' b':St}{A c σ0 σ1:H}{N:Nat}{Q:V->H->Prop}{P:Fl->Fs->H->Prop}{n:Int}{m:Fs}{ss:Ss}{e o j l r':E}{i k s d off:Nat}{bn:Nat->Int}{oc:Nat->Nat}{x:Cx}{nn:Nat}{p r:iS}{v:V}{z fl:Int}{ob1 ob2:AO}{bs:List UInt8}
variable{pr own box tl t0 t1 scr:iS}{so:AO}{bx:List Int}{oct:List UInt8}{T:List Nat}{bnA bnB:Nat->Int}
noncomputable def jq(T:List Nat)(lo:Nat):Nat->List Nat
 |0=>T
 |k+1=>if lo+k∈T then jq T lo k else jq T lo k++ [lo+k]
theorem eZ{T:List Nat}{lo i:Nat}:∀ {k:Nat},i∈jq T lo k↔i∈T\/(lo<=i/\i<lo+k)
 |0=>by exact⟨.inl,λh=>h.elim id λh=>by lia⟩
 |k+1=>by
  unfold jq;have c:=eZ (T:=T) (lo:=lo) (i:=i) (k:=k);by_cases e:lo+k∈T
  ·rw [eX e,c];constructor
   ·rintro (h|h)
    ·exact .inl h
    ·exact .inr ⟨h.1,by exact Gr h⟩
   ·rintro (h|h)
    ·exact .inl h
    ·by_cases b:i=lo+k
     ·exact .inl (b▸e)
     ·exact .inr ⟨h.1,by exact Gq h b⟩
  ·rw [if_neg e,Yi,c,ZE];constructor
   ·rintro ((h|h)|h)
    ·exact .inl h
    ·exact .inr ⟨h.1,by exact Gr h⟩
    ·exact .inr ⟨by exact Q3 h,by exact PJ h⟩
   ·rintro (h|h)
    ·exact .inl (.inl h)
    ·by_cases b:i=lo+k
     ·exact .inr b
     ·exact .inl (.inr ⟨h.1,by exact Gq h b⟩)
def AB{T:List Nat}{lo k:Nat}(h:lo+k∉T):lo+k∉jq T lo k:=λb=>(eZ.mp b).elim h λh=>by exact OT h
set_option tactic.hygienic true in
theorem ud{T:List Nat}{lo:Nat}(h:T.Nodup):∀ {k:Nat},(jq T lo k).Nodup
 |0=>h
 |k+1=>by
  unfold jq;split
  ·exact ud h
  ·rename_i e;exact List.nodup_append.mpr ⟨ud h,by simp,λx b y c g=>AB e (by refine List.mem_singleton.mp c▸ ?_;refine g▸ ?_;exact b)⟩
theorem vK{T:List Nat}{lo:Nat}:∀ {k:Nat},(jq T lo k).length<=T.length+k
 |0=>oP _
 |k+1=>by
  unfold jq;have:=vK (T:=T) (lo:=lo) (k:=k);split
  ·exact Nx this
  ·rw [pS,Op];exact VH ‹_› _
def vV{f:Str->Option V}{k:Str}{w:V}{R:H->Prop}(hp:A p=some (.sdict f))(b:(f k).isSome=true)(c:R (A.put p (.sdict λy=>if y=k then some w else f y))):cq (.ref p) (.str k) w (λJ A=>R A) A:=by
 unfold cq;dsimp only;exact hp▸⟨b,c⟩
def Cs{lo s:Nat}(E:En g h a b A fl z pr own box tl t0 t1 scr so bx oct T)(G:T.length<=100)(M:lo<=s)(O:s<=100)(w:aC m 1=some (.ref own)){r:iS}(hr:A r=some (.rng lo s))
  (q:∀c p m',En g h a b c fl z pr own box p t0 t1 scr so bx oct (jq T lo (s-lo))->P .next m' c):
  qr (.rng lo s) (λA u m=>c9 A [6] u m) (aZ (tb.cx N) N (.cons (.ite (.cmp .NotIn (.v 6) (.sub (.v 1) (.k (.str (Str.ofString "touched"))))) (.cons (.asg (.sub (.v 1) (.k (.str (Str.ofString "touched")))) (.bin .Add (.sub (.v 1) (.k (.str (Str.ofString "touched")))) (.lst (.cons (.v 6) .nil)))) .nil) .nil) .nil)) P m A:=by
 refine ji (s-lo) (λi=>.int ((lo+i:Nat):Int)) (λi m c=>∃p,En g h a b c fl z pr own box p t0 t1 scr so bx oct (jq T lo i)/\aC m 1=some (.ref own)) (λi m c J s=>?_) (λm c J=>?_) (λi m c x s I' kI=>⟨_,rfl,?_⟩) (λm c x=>by refine bp x λp B w=>?_;exact q c p m B) ⟨tl,E,w⟩
 ·show some (if _ then _ else _)=_;rw [eX (by exact Mr s)];rfl
 ·show some (if _ then _ else _)=_;rw [if_neg (by exact LI)]
 ·refine bp x λp B w=>?_
  have U:=vK (T:=T) (lo:=lo) (k:=i);have hm:V.int ((lo+i:Nat):Int)∈TL (jq T lo i)↔lo+i∈T:=by
   rw [ya];exact(eZ).trans (⟨λh=>h.elim id λh=>by(clear U s O M G;omega),.inl⟩)
  have C:fc (bB m 6 (.int ((lo+i:Nat):Int))) c (.cmp .NotIn (.v 6) (.sub (.v 1) (.k (.str (Str.ofString "touched"))))) (!decide (V.int ((lo+i:Nat):Int)∈TL (jq T lo i))):=iq (aB ct) (TW (aP w) B.eOw.1) λQ q=>by
   show(match c p with|some (.idict f)=>_|some (.list Y)=>Y.all V.isInt=true/\Y.length<=1000000/\Q (.bool (!decide (V.int ((lo+i:Nat):Int)∈Y))) c|_=>False);exact B.eTl.1▸⟨CU,by exact dR▸Pp U G s O,q⟩
  by_cases e:lo+i∈T
  ·refine dH C (by rw [lO (hm.mpr e)];rfl) (bE (kI _ _ ⟨p,?_,aP w⟩));show En g h a b c fl z pr own box p t0 t1 scr so bx oct (if lo+i∈T then _ else _);rw [eX e];exact B
  ·refine dS C (by rw [decide_eq_false λh=>e (hm.mp h)];rfl) ?_;refine wv (jS (TW (aP w) B.eOw.1 _ _ _ (gj (aG (aB ct) aI) rfl λy hy=>?_)));have D:=B.new (ob1:=.list [.int ((lo+i:Nat):Int)]) hy;refine zY D.eTl.1 (H.put_same ..) (by exact dR▸Op▸QR U G s O) λt v=>?_
   have j:=D.new (ob1:=.list (TL (jq T lo i)++ [.int ((lo+i:Nat):Int)])) v;have N3:=Ow.new (ob1:=.list (TL (jq T lo i)++ [.int ((lo+i:Nat):Int)])) D.W v;refine sZ (aB (aP w)) aN (vV j.eOw.1 (by exact BP▸rfl) ?_);rw [show Str.ofString "touched" =kT from rfl,qL];have no:=N3.ne j.eOw λh=>dI AO.ctorIdx h rfl
   have nb:=(dU D.eBx.1 v).symm;refine bE (Q:=mG _ _ _ _) (kI _ _ ⟨t,⟨j.W.put j.eOw rfl,j.ePr.at (j.ePr.ne j.eOw λh=>dI AO.ctorIdx h rfl),j.eP0.at (j.eP0.ne j.eOw λh=>nomatch h),j.eP1.at (j.eP1.ne j.eOw λh=>nomatch h),j.eOw.put,?_,j.eBx.at (j.eBx.ne j.eOw λh=>dI AO.ctorIdx h rfl),j.eSc.at j.ne.2.2.1,j.B,nb,j.ne.2.1,j.ne.2.2.1,(dU D.eSc.1 v)⟩,aP w⟩);have:TL (jq T lo (i+1))=TL (jq T lo i)++ [.int ((lo+i:Nat):Int)]:=by
    show TL (if lo+i∈T then _ else _)=_;rw [if_neg e];refine(Lo).trans ?_;rfl
   rw [this];exact N3.at no
end
end
section
section
variable{g h:Fx}{a b M D:St}{C c σ0 σ1:H}{N:Nat}{Q:V->H->Prop}{P:Fl->Fs->H->Prop}{n:Int}{m:Fs}{ss:Ss}{e o j l r':E}{i k s d off:Nat}{bn:Nat->Int}{oc:Nat->Nat}{x:Cx}{nn:Nat}{p r:iS}{v:V}{z y:Int}{ob1 ob2:AO}{bs:List UInt8}
variable{pr u B J t0 O A:iS}{w:AO}{Y:List Int}{oct:List UInt8}{T:List Nat}{U G:Nat->Int}
def IE{i:Nat}(E:En g h a b C y z pr u B J t0 O A w Y oct T)(c:aC m i=some (.ref pr)):Ev m C (.sub (.sub (.v i) (.k (.int 1))) (.k (.int 1))) (.ref h.node):=
 cC (cC (aB c) aN λQ q=>wU (i:=1) E.ePr.1 ⟨by decide,by decide⟩ rfl Q q) aN λQ q=>sf (i:=1) E.eP1.1 ⟨by decide,by decide⟩ rfl Q q
def Ew{i:Nat}(E:En g h a b C y z pr u B J t0 O A w Y oct T)(c:aC m i=some (.ref pr)):Ev m C (.sub (.sub (.v i) (.k (.int 0))) (.k (.int 1))) (.ref g.node):=
 cC (cC (aB c) aN λQ q=>wU (i:=0) E.ePr.1 ⟨by decide,by decide⟩ rfl Q q) aN λQ q=>sf (i:=1) E.eP0.1 ⟨by decide,by decide⟩ rfl Q q
set_option tactic.hygienic true in
def xl(hz:∀i,s<=i->oc i=0)(i:Nat):gM oc s k (oR k 0) i=oc i:=by
 unfold gM;split
 ·rename_i h;rw [hz i h.1];unfold Mine.Internal.oct;refine U1▸ ?_;split<;>rfl
 ·rfl
theorem Sd.oeq{oc':Nat->Nat}(S:Sd g a d bn oc s)(h:∀i,oc i=oc' i):Sd g a d bn oc' s:={S with F:=S.F.oeq h,z:=λi b=>(h i).symm.trans (S.z i b)}
def HL(E:En g h a b C y z pr u B J t0 O A w Y oct T)(S:Sd h b d G oc s)(hc:b.calls=1)(tB:∀i,G i≠0↔i<(s+63)/64)(M:(off:Int)<=64*(h.B-21))(m0:aC m 0=some (.ref pr))(m4:aC m 4=some (.int (s:Int)))(r:aC m 5=some (.bytes (oR (off-s) 0)))
  (k:∀c D j,En g h a D c y z pr u B J t0 O A w Y oct T->Sd h D d j oc (max s off)->D.calls=1->(∀i,j i≠0↔i<(max s off+63)/64)->aZ (tb.cx (N+10)) (N+10) ss P m c):
  aZ (tb.cx (N+10)) (N+10) (.cons (.ite (.and2 (.cmp .NotEq (.v 5) (.k (.bytes []))) (.cmp .NotEq (.mc (.sub (.sub (.v 0) (.k (.int 1))) (.k (.int 1))) 103 (.cons (.v 4) (.cons (.v 5) .nil))) (.call (.g (.bi "len")) (.cons (.v 5) .nil)))) (.cons (.ret (.k (.bool false))) .nil) .nil) ss) P m C:=by
 have U:14<=b.stage:=by rw [S.hs];exact oP _
 by_cases v:off<=s
 ·have e:off-s=0:=by exact NR v
  rw [e] at r;have e2:max s off=s:=by exact J5 v
  rw [e2] at k;exact dH (ip (s:=false) (t:=true) (iq (aB r) aN λQ q=>q) λh=>fT h) rfl (k C b G E S hc tB)
 ·have p:(oR (off-s) (0:UInt8)).length=off-s:=vS;have x:=S.I.B26;refine t9 (wY (iq (t:=true) (aB r) aN λQ q=>?_) (oh (b8 (IE E m0) (E.W.Y.at .node (aM U)) d9 rfl rfl (aG (aB m4) (aG (aB r) aI)) (gU (N:=N) E.W.Y S hc (Mb p v) (Nh M p x) (by rw [p];exact LJ M v) λσ1 b1 aa X1 E1 S1 al c1 ab=>?_))))
  ·have:decide (oR (off-s) (0:UInt8)≠ [])=true:=lO λh=>by rw [h] at p;exact QL p v
   show Q (.bool (decide (oR (off-s) (0:UInt8)≠ []))) C;exact this▸q
  ·refine cp (aG (aB r) aI) (k7 (Jy M p x)) _ _ _ (fZ (t:=false) (by exact congrArg _ (decide_eq_false (λh=>h rfl))) _ ?_);rw [p] at S1 al;rw [(by exact MG:max s (s+(off-s))=max s off)] at S1;exact k σ1 b1 aa (E.R E1 X1) (S1.oeq (xl S.z)) c1 λi=>by
    rw [al i,tB i];exact K8
inductive BoI(g h:Fx)(fl z:Int)(pr own box tl t0 t1 scr:iS)(so:AO)(bx:List Int)(oct:List UInt8)(T:List Nat)(bs:List UInt8)(d off s sB:Nat)(bnA bnB:Nat->Int)(oc:Nat->Nat)(i:Nat)(acc:List V)(σ':H):Prop
 |mk (a':St) (b':St) (h0:En g h a' b' σ' fl z pr own box tl t0 t1 scr so bx oct T) (h1:acc=oR i (.int (bs.length:Int))) (h2:(if i=0 then Sd g a' d bnA oc s/\a'.calls=1 else ∃bn',Sd g a' d bn' (gM oc off bs.length bs) (max s (off+bs.length))/\(∀i,bn' i≠0↔bnA i≠0\/(off<64*i+64/\64*i<off+bs.length))/\a'.calls=1/\kP g a')) (h3:(if i<=1 then Sd h b' d bnB oc sB/\b'.calls=1 else ∃bn',Sd h b' d bn' (gM oc off bs.length bs) (max sB (off+bs.length))/\(∀i,bn' i≠0↔bnB i≠0\/(off<64*i+64/\64*i<off+bs.length))/\b'.calls=1/\kP h b'))
def EL{sB:Nat}(E:En g h a b C y z pr u B J t0 O A w Y oct T)(SA:Sd g a d U oc s)(SB:Sd h b d G oc sB)(ca:a.calls=1)(cb:b.calls=1)(ac:0<bs.length)(hb:bs.length<=1000)(hi:(off+bs.length:Int)<=64*(g.B-21))(eB:h.B=g.B)(m0:aC m 0=some (.ref pr))(m2:aC m 2=some (.int (off:Int)))(m3:aC m 3=some (.bytes bs))(m7:aC m 7=none)(m8:aC m 8=none)
  (k:∀c M D p r,En g h M D c y z pr u B J t0 O A w Y oct T->Sd g M d p (gM oc off bs.length bs) (max s (off+bs.length))->Sd h D d r (gM oc off bs.length bs) (max sB (off+bs.length))->(∀i,p i≠0↔U i≠0\/(off<64*i+64/\64*i<off+bs.length))->(∀i,r i≠0↔G i≠0\/(off<64*i+64/\64*i<off+bs.length))->M.calls=1->D.calls=1->kP g M->kP h D->aZ (tb.cx (N+10)) (N+10) ss P m c):
  aZ (tb.cx (N+10)) (N+10) (.cons (.ite (.cmp .NotEq (.comp (.mc (.v 8) 103 (.cons (.v 2) (.cons (.v 3) .nil))) [7,8] (.v 0) (.k (.bool true))) (.lst (.cons (.call (.g (.bi "len")) (.cons (.v 3) .nil)) (.cons (.call (.g (.bi "len")) (.cons (.v 3) .nil)) .nil)))) (.cons (.ret (.k (.bool false))) .nil) .nil) ss) P m C:=by
 refine DM (iE (by show((aC m 7).isNone&&((aC m 8).isNone&&true))=true;rw [m7,m8];rfl) (aB m0 _ _ _ ?_));refine ly E.ePr.1▸ ?_;have ae:∀ {C},Ev m C (.call (.g (.bi "len")) (.cons (.v 3) .nil)) (.int bs.length):=λ{C}=>cp (aG (aB m3) aI) (k7 (gD (by assumption) (by decide)))
 refine lG (xs:= [.ref t0,.ref O]) (by decide:2<=1000000) (λi Q c=>BoI g h y z pr u B J t0 O A w Y oct T bs d off s sB U G oc i Q c)
  (λi Q c v=>by obtain⟨_,_,E,_⟩:=v;exact E.ePr.1) (λi Q c ag v I' kI=>?_) (λQ c v r1 ah=>?_) ⟨a,b,E,rfl,⟨SA,ca⟩,⟨SB,cb⟩⟩
 ·obtain⟨a1,b1,x,j,hA,hB⟩:=v;obtain rfl|rfl:i=0\/i=1:=by exact yM ag
  ·obtain⟨S1,c1⟩:=hA;have aa:14<=a1.stage:=by rw [S1.hs];exact oP _
   refine⟨_,Dy x.eP0.1 rfl (by decide),tK _ _ _ (b8 (aB ct) (x.W.X.at .node (aM aa)) d9 rfl rfl (aG (aB (aP (aP m2))) (aG (aB (aP (aP m3))) aI)) (gU (N:=N) x.W.X S1 c1 ac hb hi λai a2 ab X2 E2 S2 al c2 R2=>⟨by rw [j,vS];decide,kI _ _ ⟨a2,b1,x.L E2 X2,by rw [j];rfl,⟨ab,S2,al,c2,R2⟩,hB⟩⟩))⟩
  ·obtain⟨S1,c1⟩:=hB;have aa:14<=b1.stage:=by rw [S1.hs];exact oP _
   refine⟨_,Dy x.eP1.1 rfl (by decide),tK _ _ _ (b8 (aB ct) (x.W.Y.at .node (aM aa)) d9 rfl rfl (aG (aB (aP (aP m2))) (aG (aB (aP (aP m3))) aI)) (gU (N:=N) x.W.Y S1 c1 ac hb (by exact eB▸hi) λai b2 ab X2 E2 S2 al c2 R2=>⟨by rw [j,vS];decide,kI _ _ ⟨a1,b2,x.R E2 X2,by rw [j];rfl,hA,⟨ab,S2,al,c2,R2⟩⟩⟩))⟩
 ·obtain⟨a1,b1,x,j,hA,hB⟩:=v;refine se hA λp aj ak cA RA=>?_
  refine se hB λr am an cB RB=>?_
  subst j;refine gj (aG ae (aG ae aI)) rfl λr2 af=>Uc (xs:= [bs.length,bs.length]) (ys:= [bs.length,bs.length]) ((H.put_ne _ _ (dU (H.put_same ..) af)).trans (H.put_same ..)) (H.put_same ..) (by decide:2<=1000000) (by decide:2<=1000000) ?_
  rw [decide_eq_false (λh=>h rfl)];exact k _ a1 b1 p r ((x.new (ob1:=.list (([bs.length,bs.length]:List Int).map .int)) ah).new af) aj am ak an cA cB RA RB
def En.setOct{oct':List UInt8}(E:En g h a b C y z pr u B J t0 O A w Y oct T):En g h a b (C.put u (pz oct' J)) y z pr u B J t0 O A w Y oct' T:=
 ⟨E.W.put E.eOw rfl,E.ePr.at (E.ePr.ne E.eOw λh=>dI AO.ctorIdx h rfl),E.eP0.at (E.eP0.ne E.eOw λh=>nomatch h),E.eP1.at (E.eP1.ne E.eOw λh=>nomatch h),E.eOw.put,E.eTl.at (E.eTl.ne E.eOw λh=>dI AO.ctorIdx h rfl),E.eBx.at (E.eBx.ne E.eOw λh=>dI AO.ctorIdx h rfl),E.eSc.at E.ne.2.2.1,E.B,E.ne⟩
def JV{xs:List UInt8}{n:Nat}(b:xs.length<=1000000)(c:n<=xs.length){R:V->H->Prop}(q:R (.bytes (xs.take n)) C):jP (.bytes xs) .none (.int (n:Int)) R C:=by
 show _/\(match dm xs .none (.int (n:Int)) with|some r=>R (.bytes r) C|none=>False);have e:dm xs .none (.int (n:Int))=some (xs.take n):=by
  delta dm mL mP cM;dsimp only;rw [if_neg (by exact Int.not_lt.mpr (Int.natCast_nonneg _)),Int.toNat_natCast,UO c,aaD]
 exact e▸⟨b,q⟩
def ER{xs:List UInt8}{n:Nat}(b:xs.length<=1000000){R:V->H->Prop}(q:R (.bytes (xs.drop n)) C):jP (.bytes xs) (.int (n:Int)) .none R C:=by
 show _/\(match dm xs (.int (n:Int)) .none with|some r=>R (.bytes r) C|none=>False);have e:dm xs (.int (n:Int)) .none=some (xs.drop n):=by
  delta dm mL mP cM;dsimp only;rw [if_neg (by exact Int.not_lt.mpr (Int.natCast_nonneg _)),Int.toNat_natCast,WW (oP _)];by_cases h:n<=xs.length
  ·rw [UO h]
  ·rw [XZ (by exact F0 h),V9 (oP _),V9 (by exact F0 h)]
 exact e▸⟨b,q⟩
def yu(E:En g h a b C y z pr u B J t0 O A w Y (rd oc 0 s) T)(F:F2 g h a b d U G oc s T)(ca:a.calls=1)(cb:b.calls=1)(r:0<bs.length)(hb:bs.length<=100)(p:(off+bs.length:Int)<=64*(g.B-21))
  (q:∀c M D af aa ab oc' s' T',En g h M D c y z pr u B af t0 O A w Y (rd oc' 0 s') T'->F2 g h M D d aa ab oc' s' T'->M.calls=1->D.calls=1->kP g M->kP h D->Q (.bool true) c):tb.cf (N+11) 950 [.ref pr,.ref u,.int off,.bytes bs] Q C:=by
 have j:=F.A.I.B26;have m:=F.A.s64;have ak:T.length<=10:=gD (bZ (L:=oS ((s+63)/64)) F.nd λi p=>List.mem_range.mpr (F.tT i p)) (by rw [tS];exact zr m j);refine pa (db (v:=.int (s:Int)) (bj (cp (aG (Iq rfl E.eOw.1) aI) (k7 (by rw [bu];exact Dr m j))) (by rw [bu])) (db (v:=.bytes (oR (off-s) 0)) (wh (aG (bj (w:=.int ((off-s:Nat):Int)) (cp (aG aN (aG (cI (aB rfl) (aB rfl)) aI)) λQ q=>Uk Q q) (congrArg V.int (by split<;>lia))) aI) (Ac rfl (RG p j))) ?_));refine HL (N:=N) (off:=off) E F.B cb F.tB (by exact F.eB▸OU p) rfl rfl rfl λσ1 b1 al E1 S1 c1 O=>?_
 refine EL (N:=N) E1 F.A S1 ca c1 r (gD (by assumption) (by decide)) p F.eB rfl rfl rfl rfl rfl λam a2 b2 ac ae E2 SA SB ag ah cA cB RA RB=>?_
 refine wv (jS (jS (va (ik (Iq rfl E2.eOw.1) (aB rfl) λQ q=>zw (by rw [bu,vS];exact GZ m p j) q) aN (aB rfl) (JV (n:=off) (by rw [pS,bu,vS];exact GZ m p j) (by rw [pS,bu,vS];exact NC) (aB rfl _ _ _ (zw (by rw [Ps,pS,bu,vS];exact QY p j) (va (Iq rfl E2.eOw.1) (bj (w:=.int ((off+bs.length:Nat):Int)) (aY (aB rfl) (cp (aG (aB rfl) aI) (k7 (gD (by assumption) (by decide))))) (congrArg V.int rfl)) aN (ER (by rw [bu];exact Dr m j) (zw (by rw [pS,Ps,pS,VL,bu,vS];exact LG p m j) ?_)))))))));refine(vZ (off:=off) (bs:=bs) (λi=>F.A.oc256 i) F.A.z)▸ ?_;refine sZ (aB rfl) aN (vV E2.eOw.1 rfl ?_);rw [show Str.ofString "octets" =kO from rfl,vu];have E3:=E2.setOct (oct':=rd (gM oc off bs.length bs) 0 (max s (off+bs.length)));refine Dz (pk (aG (bj (gP (aB rfl) aN (by decide) (Ab (by decide))) (congrArg V.int (by exact(Int.fdiv_eq_ediv_of_nonneg _ (by decide)):Int.fdiv (off:Int) 64=((off/64:Nat):Int)))) (aG (bj (gP (aY (aY (aB rfl) (cp (aG (aB rfl) aI) (k7 (gD (by assumption) (by decide))))) aN) aN (by decide) (Ab (by decide))) (congrArg V.int (by exact(Int.fdiv_eq_ediv_of_nonneg _ (by decide)):Int.fdiv ((off:Int)+(bs.length:Int)+63) 64=(((off+bs.length+63)/64:Nat):Int)))) aI)) ⟨rfl,by exact Int.natCast_nonneg _,by exact KN p j,by(clear r;exact Int.natCast_nonneg _),by exact R8 p j,λan hy=>?_⟩);show(match sq (.ref an) _ with|some k=>_|none=>False);refine tY (H.put_same ..)▸ ?_;refine Cs (E3.new (ob1:=.rng ((off/64:Nat):Int) (((off+bs.length+63)/64:Nat):Int)) hy) (gD (by assumption) (by decide)) (KW) (OI p j) rfl (H.put_same ..) λai aj m5 E5=>cY aN (q ai a2 b2 aj ac ae _ _ _ E5 ?_ cA cB RA RB)
 rw [(by exact Qm:max (max s off) (off+bs.length)=max s (off+bs.length))] at SB;refine⟨SA,SB,λi=>?_,λi=>?_,λi p=>?_,ud F.nd,λao=>?_,F.eB⟩
 ·rw [ag i,F.tA i,eZ,(λi=>by exact JP:∀i,(off<64*i+64/\64*i<off+bs.length)↔(off/64<=i/\i<off/64+((off+bs.length+63)/64-off/64))) i]
 ·rw [ah i,O i];exact Mi
 ·rcases eZ.mp p with h|h
  ·exact Ld (F.tT i h)
  ·exact Oj h
 ·by_cases x:off+bs.length>s
  ·exact eZ.mpr (.inr (PU ‹_› r x))
  ·rw [show max s (off+bs.length)=s by exact LK x];exact eZ.mpr (.inl (F.last (RH ‹_› x)))
end
end
section
section
variable{g h:Fx}{a b a' b':St}{C σ' σ0 σ1:H}{N:Nat}{Q:V->H->Prop}{P:Fl->Fs->H->Prop}{n:Int}{m:Fs}{ss:Ss}{e o j l r':E}{i k s d off:Nat}{bn:Nat->Int}{oc:Nat->Nat}{x:Cx}{nn:Nat}{p r:iS}{v:V}{z Y:Int}{ob1 ob2:AO}{bs:List UInt8}
variable{pr G A y t0 U D:iS}{O:AO}{M:List Int}{oct:List UInt8}{T:List Nat}{bnA bnB:Nat->Int}
def Rb{a:V}{R:V->H->Prop}(c:Ev m C o a)(h:xE x nn m r' (λb C=>g9 a b R C) C):xE x nn m (.sub o r') R C:=c _ _ _ h
def Rx{a b:Int}{R:V->H->Prop}(h:YZ a b)(k:R (.int (a*b)) C):qG .Mult (.int a) (.int b) R C:=⟨h,k⟩
def En.ge(E:En g h a b C Y z pr G A y t0 U D O M oct T){j:Int}(hz:z<=j):En g h a b C Y j pr G A y t0 U D O M oct T:={E with B:=let ⟨a,b,c,d,k,m,p,r,s⟩:=E.B.ex;⟨a,b,c,d,k,m,p,r,by exact Int.le_trans ‹_› ‹_›⟩}
def t4{many:Int}{j:Es}(E:En g h a b C Y z pr G A y t0 U D O M oct T)(hz:z<=1000)(p:0<many/\many<=100000)(r:sy m C j [.ref A,.int many]){R:V->H->Prop}
  (k:∀c (u:Nat),En g h a b (C.put A (.list (c.map .int))) Y (z+1) pr G A y t0 U D O c oct T->(u:Int)<many->R (.int (u:Int)) (C.put A (.list (c.map .int)))):xE (tb.cx (N+1)) (N+1) m (.call (.g (.ref 914)) j) R C:=
 kN r ef ec (pT (N:=N) E.eBx.1 E.B (GU hz) p λc u s v w=>by
  obtain⟨u,rfl⟩:=Int.eq_ofNat_of_zero_le v
  exact k c u (E.setBox s) w)
noncomputable def TN:S:=.ite (.and2 (.cmp .Eq (.v 4) (.k (.int 1))) (.cmp .NotEq (.v 9) (.lst .nil))) (.cons (.asg (.v 11) (.bin .Add (.bin .Mult (.k (.int 64)) (.sub (.v 9) (.call (.g (.ref 914)) (.cons (.v 0) (.cons (.call (.g (.bi "len")) (.cons (.v 9) .nil)) .nil))))) (.call (.g (.ref 914)) (.cons (.v 0) (.cons (.k (.int 64)) .nil))))) .nil) (.cons (.ite (.and2 (.cmp .Eq (.v 4) (.k (.int 2))) (.cmp .Gt (.v 10) (.k (.int 0)))) (.cons (.asg (.v 11) (.v 10)) .nil) (.cons (.ite (.and2 (.cmp .Eq (.v 4) (.k (.int 3))) (.cmp .Gt (.v 10) (.k (.int 0)))) (.cons (.asg (.v 11) (.call (.g (.ref 914)) (.cons (.v 0) (.cons (.v 10) .nil)))) .nil) (.cons (.asg (.v 11) (.bin .Add (.bin .Add (.v 10) (.bin .Mult (.k (.int 64)) (.call (.g (.ref 914)) (.cons (.v 0) (.cons (.k (.int 4)) .nil))))) (.call (.g (.ref 914)) (.cons (.v 0) (.cons (.k (.int 64)) .nil))))) .nil)) .nil)) .nil)
def Hm{hl:iS}{j:List Nat}{w:Int}(E:En g h a b C Y z pr G A y t0 U D O M oct T)(hz:z<=900)(hO:Ow g h a b C hl (.list (TL j)))(ac:hl≠A)(r:j.length<=100)(aa:s<=1000)(m0:aC m 0=some (.ref A))(m4:aC m 4=some (.int w))(m9:aC m 9=some (.ref hl))(c:aC m 10=some (.int (s:Int)))
  (k:∀σ' x (off:Nat),En g h a b σ' Y (z+2) pr G A y t0 U D O x oct T->aZ (tb.cx (N+1)) (N+1) ss P (bB m 11 (.int (off:Int))) σ'):
  aZ (tb.cx (N+1)) (N+1) (.cons TN ss) P m C:=by
 have p:∀ {C:H} {M:List Int},En g h a b C Y z pr G A y t0 U D O M oct T->aZ (tb.cx (N+1)) (N+1) (.cons (.ite (.and2 (.cmp .Eq (.v 4) (.k (.int 2))) (.cmp .Gt (.v 10) (.k (.int 0)))) (.cons (.asg (.v 11) (.v 10)) .nil) (.cons (.ite (.and2 (.cmp .Eq (.v 4) (.k (.int 3))) (.cmp .Gt (.v 10) (.k (.int 0)))) (.cons (.asg (.v 11) (.call (.g (.ref 914)) (.cons (.v 0) (.cons (.v 10) .nil)))) .nil) (.cons (.asg (.v 11) (.bin .Add (.bin .Add (.v 10) (.bin .Mult (.k (.int 64)) (.call (.g (.ref 914)) (.cons (.v 0) (.cons (.k (.int 4)) .nil))))) (.call (.g (.ref 914)) (.cons (.v 0) (.cons (.k (.int 64)) .nil))))) .nil)) .nil)) .nil) (mG (tb.cx (N+1)) (N+1) ss P) m C:=λ{C M} E=>by
  by_cases h2:w=2/\(s:Int)>0
  ·refine dS (ip (jV (aB m4) aN) λJ=>Am (aB c) aN) (by rw [lO h2.1,lO h2.2];rfl) (db (aB c) (bE (Q:=mG _ _ _ _) ?_));exact k C M s (E.ge (FO))
  ·refine BW (ip (jV (aB m4) aN) λJ=>Am (aB c) aN) (by rcases Classical.not_and_iff_not_or_not.mp h2 with h|h<;>rw [decide_eq_false h];rfl;exact Vq _) ?_;by_cases h3:w=3/\(s:Int)>0
   ·refine dS (ip (jV (aB m4) aN) λJ=>Am (aB c) aN) (by rw [lO h3.1,lO h3.2];rfl) (bX (t4 (N:=N) E (zs hz) (RP aa h3) (aG (aB m0) (aG (aB c) aI)) λx u E' hu=>?_));exact k _ x u (E'.ge (Ok))
   ·refine BW (ip (jV (aB m4) aN) λJ=>Am (aB c) aN) (by rcases Classical.not_and_iff_not_or_not.mp h3 with h|h<;>rw [decide_eq_false h];rfl;exact Vq _) (bX (jS (lW (aB c) (lW aN (t4 (N:=N) E (zs hz) (by decide) (aG (aB m0) (aG aN aI)) λae u E1 hu=>Rx (.of_left (Ex (by decide) (by decide))) (wJ (t4 (N:=N) E1 (GA hz) (by decide) (aG (aB m0) (aG aN aI)) λB w2 E2 hw=>wJ ?_)))))));have:=k _ B (s+64*u+w2) (E2.ge (FU));rw [show((s+64*u+w2:Nat):Int)=(s:Int)+64*(u:Int)+(w2:Int) by rfl] at this;exact this
 by_cases h1:w=1
 ·refine t9 (wY (tT (jV (aB m4) aN) (lO h1)) (oh (aB m9 _ _ _ (gj aI rfl λaf hy=>Uc (xs:=j.map λ(i:Nat)=>(i:Int)) (ys:= []) ?_ (H.put_same ..) (by rw [eS];exact gD (by assumption) (by decide)) (by decide) ?_))))
  ·rw [VK];exact(hO.keep hy).1
  have E1:=E.new (ob1:=.list []) hy;have ab:=hO.keep (ob2:=.list []) hy;by_cases hn:j= []
  ·have:decide ((j.map λ(i:Nat)=>(i:Int)).map V.int≠([]:List Int).map .int)=false:=decide_eq_false λz=>z (by rw [hn];rfl)
   exact this▸p E1
  ·have:decide ((j.map λ(i:Nat)=>(i:Int)).map V.int≠([]:List Int).map .int)=true:=lO λz=>hn (by simpa using z)
   rw [this];refine bX (jS (lW aN (Rb (aB m9) (t4 (N:=N) E1 (zs hz) (many:=j.length) (SL (List.length_pos_iff.mpr hn) r) (aG (aB m0) (aG (bj (cp (aG (aB m9) aI) (lenL ab.1 (by rw [dR];exact OA r))) (by rw [dR])) aI)) λae u E2 hu=>?_))));have hu:u<j.length:=by exact Int.ofNat_lt.mp ‹_›
   refine wU (v:=.int (j[u]:Nat)) (ab.at ac).1 ⟨by exact Int.natCast_nonneg _,by exact LS ‹_› r⟩ (by rw [Int.toNat_natCast];unfold TL;rw [PR,yS hu];rfl) _ (Rx (.of_left (Ex (by decide) (by decide))) (t4 (N:=N) E2 (GA hz) (by decide) (aG (aB m0) (aG aN aI)) λB w2 E3 hw=>wJ ?_));have:=k _ B (64*j[u]+w2) (E3.ge (FU));rw [show((64*j[u]+w2:Nat):Int)=64*(j[u]:Int)+(w2:Int) by rfl] at this;exact this
 ·refine t9 (ip (s:=false) (t:=true) (tF (jV (aB m4) aN) (decide_eq_false h1)) (λh=>fT h) _ _ _ ?_);exact p E
end
end
section
section
variable{g h:Fx}{a b U Y:St}{c C σ0 σ1:H}{N:Nat}{Q:V->H->Prop}{P:Fl->Fs->H->Prop}{n:Int}{m:Fs}{ss:Ss}{e o j l r':E}{i k s d off:Nat}{bn:Nat->Int}{oc:Nat->Nat}{x:Cx}{nn:Nat}{p r:iS}{v:V}{z fl:Int}{ob1 ob2:AO}{bs:List UInt8}
variable{pr D G O t0 t1 M:iS}{J:AO}{y:List Int}{oct:List UInt8}{T:List Nat}{bnA bnB:Nat->Int}
def F2.zero(A:Sd g a d (λJ=>0) (λJ=>0) 0)(B:Sd h b d (λJ=>0) (λJ=>0) 0)(e:h.B=g.B):F2 g h a b d (λJ=>0) (λJ=>0) (λJ=>0) 0 []:=
 ⟨A,B,λi=>⟨λh=>absurd rfl h,(λh=>nM h)⟩,λi=>⟨λh=>absurd rfl h,λh=>nL h⟩,(λi h=>nM h),.nil,λh=>nL h,e⟩
def xz(E:En g h a b c fl z pr D G O t0 t1 M J y oct T)(A:Sd g a d bnA oc s)(B:Sd h b d bnB oc s)(x:a.calls=1)(Q:b.calls=1)(m1:aC m 1=some (.ref pr))
  (k:∀C U Y p,En g h U Y C fl z pr D G O t0 t1 M J y oct T->Sd g U d (λaa=>0) (λaa=>0) 0->Sd h Y d (λaa=>0) (λaa=>0) 0->U.calls=1->Y.calls=1->(∀j,j≠7->j≠8->aC p j=aC m j)->aZ (tb.cx (N+7)) (N+7) ss P p C):
  aZ (tb.cx (N+7)) (N+7) (.cons (.forIn [7,8] (.v 1) (.cons (.ex (.mc (.v 8) 104 .nil)) .nil)) ss) P m c:=by
 have st:∀ {g:Fx} {bn:Nat->Int} {p:Fs} {P:Fl->Fs->H->Prop} (c:H) (a:St),aW g c a->Sd g a d bn oc s/\a.calls=1->aC p 8=some (.ref g.node)->(∀C U,aW g C U->bv g c a C U->Sd g U d (λaa=>0) (λaa=>0) 0/\U.calls=1->P .next p C)->aZ (tb.cx (N+7)) (N+7) (.cons (.ex (.mc (.v 8) 104 .nil)) .nil) P p c:=λc a X S r k=>
  cH (b8 (aB r) (X.at .node (aM (by rw [S.1.hs];exact oP _))) pi rfl rfl aI (yy (N:=N) X S.1 S.2 λu a2 X2 E2 S2 c3 aa=>⟨rfl,bE (k u a2 X2 E2 ⟨S2,c3⟩)⟩))
 exact AN rfl E ⟨A,x⟩ ⟨B,Q⟩ m1 (λc a m P X h aa r aa k=>st c a X h r k) (λc a m P X h aa r aa k=>st c a X h r k) λC U Y p E' v w hm=>k C U Y p E' v.1 w.1 v.2 w.2 hm
def SX{f:iS}{h:Es}{vs:List V}{R:Bool->H->Prop}(j:sy m c h vs)(b:(tb.cx N).ok f=true)(g:(tb.cx N).init f=none)(k:tb.cf N f vs (λv c=>bH v R c) c):xT (tb.cx N) N m (.call (.g (.ref f)) h) R c:=j _ _ _ (by
 refine⟨b,?_⟩
 exact g▸k)
def Kq{t u:Mine.Internal.T}{P:Fl->Fs->H->Prop}(h:xE x nn m e (λv c=>match v with
  | .ref a=>(match c a with
   |some (.tuple [p,q])=>Dx x nn t p (λJ m c=>Dx x nn u q (λJ m c=>aZ x nn ss P m c) m c) m c
   |_=>False)
  |_=>False) c):aZ x nn (.cons (.asgT t u e) ss) P m c:=h
def En.setTl(E:En g h a b c fl z pr D G O t0 t1 M J y oct T){t:iS}(k:c t=none){σ1:H}{m:List Nat}(j:En g h a b σ1 fl z pr D G O t0 t1 M J y oct T)(p:Ow g h a b σ1 t (.list (TL m))):En g h a b (σ1.put D (pz oct t)) fl z pr D G t t0 t1 M J y oct m:=by
 exact⟨j.W.put j.eOw rfl,j.ePr.at (j.ePr.ne j.eOw λh=>dI AO.ctorIdx h rfl),j.eP0.at (j.eP0.ne j.eOw λh=>nomatch h),j.eP1.at (j.eP1.ne j.eOw λh=>nomatch h),j.eOw.put,p.at (p.ne j.eOw λh=>dI AO.ctorIdx h rfl),j.eBx.at (j.eBx.ne j.eOw λh=>dI AO.ctorIdx h rfl),j.eSc.at j.ne.2.2.1,j.B,(dU E.eBx.1 k).symm,j.ne.2.1,j.ne.2.2.1,dU E.eSc.1 k⟩
noncomputable def Ot:S:=.ite (.and2 (.cmp .Eq (.v 4) (.k (.int 4))) (.cmp .NotEq (.sub (.v 2) (.k (.str (Str.ofString "octets")))) (.k (.bytes [])))) (.cons (.forIn [7,8] (.v 1) (.cons (.ex (.mc (.v 8) 104 .nil)) .nil)) (.cons (.asgT (.sub (.v 2) (.k (.str (Str.ofString "octets")))) (.sub (.v 2) (.k (.str (Str.ofString "touched")))) (.tup (.cons (.k (.bytes [])) (.cons (.lst .nil) .nil)))) (.cons (.ite (.not (.call (.g (.ref 945)) (.cons (.v 0) (.cons (.v 1) (.cons (.v 2) (.cons (.v 3) .nil)))))) (.cons (.ret (.k (.bool false))) .nil) .nil) .nil))) .nil
def IL{plan:iS}{w:Int}(E:En g h a b c fl z pr D G O t0 t1 M J y (rd oc 0 s) T)(F:F2 g h a b d bnA bnB oc s T)(ca:a.calls=1)(cb:b.calls=1)(hp:g.plan=plan)(hz:z<=900)(m0:aC m 0=some (.ref G))(m1:aC m 1=some (.ref pr))(m2:aC m 2=some (.ref D))(m3:aC m 3=some (.ref plan))(m4:aC m 4=some (.int w))
  (k:∀C U Y aa ab u x oc' s' T' m',En g h U Y C fl (z+2) pr D G aa t0 t1 M J ab (rd oc' 0 s') T'->F2 g h U Y d u x oc' s' T'->U.calls=1->Y.calls=1->(∀j,j≠7->j≠8->aC m' j=aC m j)->aZ (tb.cx (N+11)) (N+11) ss P m' C):
  aZ (tb.cx (N+11)) (N+11) (.cons Ot ss) P m c:=by
 have A:=ip (jV (aB m4) (aN (σ:=c) (v:=.int 4))) λaf=>iq (t:=decide (rd oc 0 s≠ [])) (Iq m2 E.eOw.1) (aN (v:=.bytes [])) λQ q=>HR q
 by_cases hc:w=4/\rd oc 0 s≠ []
 ·refine dS A (by rw [lO hc.1,lO hc.2];rfl) ?_;refine xz (N:=N+4) E F.A F.B ca cb m1 λσ1 a1 b1 m' E1 A1 B1 c1 c2 B=>?_
  have n0:=(B 0 (by decide) (by decide)).trans m0;have n1:=(B 1 (by decide) (by decide)).trans m1;have n2:=(B 2 (by decide) (by decide)).trans m2;have n3:=(B 3 (by decide) (by decide)).trans m3;refine Kq (oW (cn aN (bJ (gj aI rfl λt ht=>⟨by simp,λag hy=>?_⟩))));have E3:=(E1.new (ob1:=.list []) ht).new (ob1:=.tuple [.bytes [],.ref t]) hy;show(match ((σ1.put t (.list [])).put ag (.tuple [.bytes [],.ref t])) ag with|some (.tuple [p,q])=>_|_=>False);rw [H.put_same];refine sZ (aB n2) aN (vV E3.eOw.1 rfl ?_);rw [show Str.ofString "octets" =kO from rfl,vu];have E4:=E3.setOct (oct':= []);have T3:=(Ow.new (ob1:=.list (TL [])) E1.W ht).keep (ob2:=.tuple [.bytes [],.ref t]) hy;refine sZ (aB n2) aN (vV E4.eOw.1 rfl ?_);rw [show Str.ofString "touched" =kT from rfl,qL];refine t9 (vA (SX (aG (aB n0) (aG (aB n1) (aG (aB n2) (aG (aB n3) aI)))) dB dE (lu (N:=N+1) (oc:=λaf=>0) (s:=0) ((E1.setOct (oct':= [])).setTl (σ1:=((σ1.put t (.list [])).put ag (.tuple [.bytes [],.ref t])).put D (pz [] O)) ((H.put_ne _ _ (dU E1.eOw.1 ht).symm).trans ht) E4 (T3.at (r:=D) (ob2:=pz [] O) (T3.ne E3.eOw λh=>dI AO.ctorIdx h rfl))) (F2.zero A1 B1 F.eB) hp (zs hz) λac a6 b6 ae E6 F6 A6 B6=>?_)));exact k ac a6 b6 t ae _ _ _ 0 [] m' E6 F6 ((congrArg Nd.calls A6.sm.nd).trans c1) ((congrArg Nd.calls B6.sm.nd).trans c2) B
 ·refine dH A (by rcases Classical.not_and_iff_not_or_not.mp hc with h|h<;>rw [decide_eq_false h];rfl;exact Vq _) (k c a b O y bnA bnB oc s T m (E.ge (FO)) F ca cb λaf af af=>rfl)
end
end
section
section
variable{g h:Fx}{a b C B:St}{A u σ0 σ1:H}{N:Nat}{Q:V->H->Prop}{P:Fl->Fs->H->Prop}{n:Int}{m:Fs}{ss:Ss}{e o j l r':E}{i k s d off:Nat}{bn:Nat->Int}{oc:Nat->Nat}{x:Cx}{nn:Nat}{p r:iS}{v:V}{z fl:Int}{ob1 ob2:AO}{bs:List UInt8}
variable{pr own box tl t0 t1 scr:iS}{so:AO}{bx:List Int}{oct:List UInt8}{T:List Nat}{bnA bnB:Nat->Int}
def callF{T:rp}{f:iS}{vs:List V}{R:V->H->Prop}(b:(T.cx N).ok f=true)(c:(T.cx N).init f=none)(k:T.cf N f vs R A):ki (T.cx N) N (.ref f) vs R A:=by
 refine⟨b,?_⟩;exact c▸k
def Bn{f c:Nat}(E:En g h a b A fl z pr own box tl t0 t1 scr so bx oct T)(C:c<=100)(D:aC m 5=some (.int (c:Int)))(G:aC m 6=some (.int (f:Int)))(r:aC m 12=none){R:V->H->Prop}
  (k:∀u bs,En g h a b u fl z pr own box tl t0 t1 scr so bx oct T->bs.length=c->R (.bytes bs) u):xE x nn m (.call (.g (.ty "bytes")) (.cons (.comp (.bin .Add (.k (.int 1)) (.bin .Mod (.bin .Add (.v 6) (.bin .Mult (.k (.int 7)) (.v 12))) (.k (.int 255)))) [12] (.call (.g (.ty "range")) (.cons (.v 5) .nil)) (.k (.bool true))) .nil)) R A:=by
 refine dA (bJ (iE (by show((aC m 12).isNone&&true)=true;rw [r];rfl) (pk (aG (aB D) aI) ⟨by exact Int.natCast_nonneg _,by exact Rn C,λy M=>?_⟩)));have O:=E.new (ob1:=.rng 0 c) M
 let w:Nat->Nat:=λi=>1+(f+7*i)%255
 show(match sq (.ref y) _ with|some k=>_|none=>False);refine tY (H.put_same ..)▸ ?_;refine dM c (λi=>.int (0+(i:Int))) (λi j u=>u=A.put y (.rng 0 c)/\j=(oS i).map λi=>V.int (w i)) (λi j u J s=>?_) (λj u J=>?_) (λi j u p s I' Q=>⟨_,rfl,tK _ _ _ ?_⟩) (λj u p t U=>?_) ⟨rfl,rfl⟩
 ·exact congrArg _ (eX (by exact Bh s))
 ·show some (if _ then _ else _)=_;rw [if_neg (by exact BI)]
 ·obtain⟨v,B⟩:=p;subst v B;have Y:1+Int.fmod ((f:Int)+7*(0+(i:Int))) 255=(w i:Int):=by
   lia
  refine SP (bj (aY aN (i5 (aY (aB (aP G)) (cy aN (aB ct) (.of_left (Ex (by decide) (by decide))))) aN (by decide))) (congrArg V.int Y)) ⟨by rw [eS,tS];exact K6 s C,Q _ _ ⟨rfl,?_⟩⟩;rw [Wm,Lo];rfl
 ·obtain⟨v,B⟩:=p;subst v B;refine Dm (H.put_same ..) (by rw [eS,tS];exact gD (by assumption) (by decide)) (kA (λi=>by exact Nz) _) _ (k _ _ (O.new U) (by rw [eS,tS]))
def EY{plan:iS}(E:En g h a b A fl z pr own box tl t0 t1 scr so bx (rd oc 0 s) T)(F:F2 g h a b d bnA bnB oc s T)(ca:a.calls=1)(cb:b.calls=1)(hp:g.plan=plan)(hz:z<=800)
  (q:∀u C B ac ao y D oc' s' T',En g h C B u fl (z+10) pr own box ac t0 t1 scr so ao (rd oc' 0 s') T'->F2 g h C B d y D oc' s' T'->C.calls=1->B.calls=1->kP g C->kP h B->Q (.bool true) u):tb.cf (N+12) 955 [.ref box,.ref pr,.ref own,.ref plan] Q A:=by
 have G:=F.A.I.B26;have ai:=F.A.I.B24;refine tN (fL (oW (el (t4 (N:=N+10) E (QD hz) (by decide) (aG (aB rfl) (aG aN aI)) λaz w E1 hw=>el (lW aN (t4 (N:=N+10) E1 (Sr hz) (by decide) (aG (aB rfl) (aG aN aI)) λa0 c E2 hc=>wJ (bJ (t4 (N:=N+10) E2 (Rd hz) (by decide) (aG (aB rfl) (aG aN aI)) λa1 f E3 hf=>⟨by simp,λr hr=>za (R:=λm=>aZ _ _ _ _ m _) (H.put_same ..) rfl (by decide) ?_⟩))))))));refine IL (N:=N) (E3.new (ob1:=.tuple [.int w,.int (1+(c:Int)),.int f]) hr) F ca cb hp (SF hz) rfl rfl rfl rfl rfl λa2 a5 b5 a3 a4 ax ay J j T5 O E5 F5 c1 c2 U=>?_
 have n0:aC O 0=some (.ref box):=U 0 (by decide) (by decide);have n1:aC O 1=some (.ref pr):=U 1 (by decide) (by decide);have n2:aC O 2=some (.ref own):=U 2 (by decide) (by decide);have n3:aC O 3=some (.ref plan):=U 3 (by decide) (by decide);have n4:=U 4 (by decide) (by decide);have n5:=(U 5 (by decide) (by decide)).trans (congrArg (λx=>some (V.int x)) (by rfl:1+(c:Int)=((1+c:Nat):Int)));have n6:aC O 6=some (.int (f:Int)):=U 6 (by decide) (by decide);have ap:aC O 12=none:=U 12 (by decide) (by decide);clear U;have k:=F5.A.s64;have a6:T5.length<=10:=gD (bZ (L:=oS ((j+63)/64)) F5.nd λi hi=>List.mem_range.mpr (F5.tT i hi)) (by exact tS▸zr k G);refine fL (oW (el (kN (aG (aB n2) aI) f5 f9 (qY (N:=N+9) E5.eOw.1 E5.eTl.1 (by exact bu▸QM k G) (gD (by assumption) (by decide)) λy1 M ae Y=>?_))));have E6:=(E5.new (ob1:=.rng 0 (((rd J 0 j).length+63)/64:Nat)) ae).new (ob1:=.list (TL (d5 T5 (((rd J 0 j).length+63)/64)))) Y;have O6:=Ow.new (ob1:=.list (TL (d5 T5 (((rd J 0 j).length+63)/64)))) (E5.new (ob1:=.rng 0 (((rd J 0 j).length+63)/64:Nat)) ae).W Y;have aq:=(dU (E5.new (ob1:=.rng 0 (((rd J 0 j).length+63)/64:Nat)) ae).eBx.1 Y).symm;refine bJ (cp (aG (Iq n2 E6.eOw.1) aI) (k7 (by exact bu▸Dr k G)) _ _ _ ⟨by simp,λr2 af=>za (R:=λm=>aZ _ _ _ _ m _) (H.put_same ..) rfl (by decide) ?_⟩);rw [bu] at af E6 O6 Y⊢;refine Hm (N:=N+10) (E6.new (ob1:=.tuple [.ref M,.int (j:Int)]) af) (Jt hz) (O6.keep (ob2:=.tuple [.ref M,.int (j:Int)]) af) aq (by exact gD (Ve ..) (by rw [tS];exact KT k G)) (by exact Mh k G:j<=1000) (aP (aP n0)) (aP (aP n4)) (aP ct) ct λar as off E8=>?_
 have aj:=aP (i:=11) (v:=.int (off:Int)) (aP (i:=10) (v:=.int (j:Int)) (aP (i:=9) (v:=.ref M) n1));have ak:=aP (i:=11) (v:=.int (off:Int)) (aP (i:=10) (v:=.int (j:Int)) (aP (i:=9) (v:=.ref M) n2));have al:=aP (i:=11) (v:=.int (off:Int)) (aP (i:=10) (v:=.int (j:Int)) (aP (i:=9) (v:=.ref M) n3));have ag:=aP (i:=11) (v:=.int (off:Int)) (aP (i:=10) (v:=.int (j:Int)) (aP (i:=9) (v:=.ref M) n5));have am:=aP (i:=11) (v:=.int (off:Int)) (aP (i:=10) (v:=.int (j:Int)) (aP (i:=9) (v:=.ref M) n6));have aa:=aP (i:=11) (v:=.int (off:Int)) (aP (i:=10) (v:=.int (j:Int)) (aP (i:=9) (v:=.ref M) ap));have ab:aC (bB (bB (bB O 9 (.ref M)) 10 (.int (j:Int))) 11 (.int (off:Int))) 11=some (.int (off:Int)):=ct;show aZ _ _ _ _ (bB (bB (bB O 9 (.ref M)) 10 (.int (j:Int))) 11 (.int (off:Int))) ar;generalize bB (bB (bB O 9 (.ref M)) 10 (.int (j:Int))) 11 (.int (off:Int))=m8 at aj ak al ag am aa ab⊢;have an:=E8.W.X.at .plan (Tl _);rw [show ad g a5 .plan=plan from hp] at an;obtain⟨p,ho,au⟩:∃p:Nat,(if 64*(g.B-21)-((1+c:Nat):Int)<(off:Int) then 64*(g.B-21)-((1+c:Nat):Int) else(off:Int))=p/\((p:Int)+((1+c:Nat):Int)<=64*(g.B-21)):=by
  split
  ·exact⟨(64*(g.B-21)-((1+c:Nat):Int)).toNat,by exact LR hc ai,by exact Px hc ai⟩
  ·exact⟨off,rfl,by exact Sc ‹_›⟩
 refine db (v:=.int (p:Int)) (cp (aG (aB ab) (aG (cI (cy aN (cI (aE (aB al) an rfl rfl rfl) aN) (.of_left (Ex (by decide) (by decide)))) (aB ag)) aI)) λQ q=>yi Q (by exact ho▸q)) ?_;refine cO (i6 (cn (aB (aP aj)) (cn (aB (aP ak)) (cn (aB ct) (bJ (Bn (c:=1+c) E8 (Lf hc) (aP ag) (aP am) (aP aa) λa7 bs E9 ah=>callF po ph (yu (N:=N) E9 F5 c1 c2 (Ol ah) (Sy hc ah) (by exact ah▸au) λu C B ac y D oc' s' T' E' F' av aw RA RB=>q u C B ac as y D oc' s' T' (E'.ge (J6)) F' av aw RA RB)))))))
end
end
section
section
variable{g g' h:Fx}{a b u b' st st':St}{σ σ' σ0 σ1:H}{N:Nat}{Q:V->H->Prop}{P:Fl->Fs->H->Prop}{n:Int}{m:Fs}{ss:Ss}{e o j l r':E}{i k s d off:Nat}{bn:Nat->Int}{oc:Nat->Nat}{x:Cx}{nn:Nat}{p r:iS}{v:V}{z fl:Int}{ob1 ob2:AO}{bs:List UInt8}
set_option tactic.hygienic true in
def Fi.tr(F:Fi g st d bn oc)(p:g'.d=g.d)(r:g'.B=g.B)(L:Pl g' st'.toNd)(hp:st'.places=st.places)(c:∀k,19<=k->k<g.B->cont st' k=cont st k)(m:24<=g.B):Fi g' st' d bn oc:=by
 have s:∀i,bn i≠0->cont st' (bn i)=cont st (bn i):=λi h=>by have:=(F.mp.rng i).resolve_left h;exact c _ (Gb this) this.2
 refine⟨p.trans F.hd,L,λj=>?_,?_,λj=>?_⟩
 ·rw [hp,<-F.b j];unfold tv;split
  ·rfl
  ·split
   ·rfl
   ·rename_i h;have:=F.mp.rngN.resolve_left h;rw [c _ (by exact Gb this) this.2]
 ·rw [hp,r,c 19 (by decide) (by exact yD m)];exact F.mp
 ·rw [F.o j];by_cases b:bn (j/64)=0
  ·rw [eX b,eX b]
  ·rw [if_neg b,if_neg b,s _ b]
def Pl.cg{s b:Nd}(L:Pl g s)(c:g'.d=g.d)(e:b={s with calls:=b.calls,aplaces:=b.aplaces,tab:=b.tab,stage:=b.stage}):Pl g' b:=by
 rw [e];exact⟨L.kd,L.mj,L.mi,L.lk,L.sz,c▸L.d,c▸L.len,L.pos⟩
def Sd.begin(S:Sd g a d bn oc s){c:Int}:Sd g {a with calls:=c} d bn oc s:=
 ⟨{S.I with},S.hs,S.F.tr rfl rfl (S.F.L.cg rfl rfl) rfl (λJ J J=>rfl) S.I.B24,S.sz,S.s64,⟨S.D.fld,S.D.kk,S.D.uk⟩,S.uk,S.z,S.nb⟩
def Sd.ended(S:Sd g a d bn oc s)(I:Inv g u none)(D:Dk u){c:Int}(b:u.toNd={a.toNd with calls:=c})(h:∀k,18<=k->cont u k=cont a k)(hz:Fz u):Sd g u d bn oc s:=by
 have e:u.places=a.places:=by have:=congrArg Nd.places b;exact this
 exact⟨I,(congrArg Nd.stage b).trans S.hs,S.F.tr rfl rfl (S.F.L.cg rfl (by exact b▸rfl)) e (λk j J=>h k (Int.le_of_lt ‹_›)) S.I.B24,(congrArg Nd.size b).trans S.sz,S.s64,D,⟨hz.unfl,hz.kept⟩,S.z,by exact e▸S.nb⟩
def kP.tr(R:kP g a)(c:cont u 18=cont a 18)(h:u.size=a.size)(hp:u.places=a.places):kP g u:=by
 refine bp R λb j k=>?_
 refine⟨b,j,?_⟩;rw [c,k];unfold jN;rw [h,hp]
def kP.same(R:kP g a)(S:aU a u):kP g u:=R.tr (S.cont 18) (congrArg Nd.size S.sm.nd) (congrArg Nd.places S.sm.nd)
def RD{b:List UInt8}{p:Nd}(L:Pl g p)(w:b.length=64):kf g.d (jN b (bV g.d).toNat p) p.size.toNat p.places:=by
 refine se (mA L.d) λa B h u J=>?_
 have m:(bV g.d).toNat=a:=by rw [B];rfl
 have x:=L.len;have A:=L.sz;have v:(bk (bk (bk (bk b a 2) (a+2) 0) (a+4) 0) (a+6) 1).length=64:=by simp only [aV];exact w
 have r:(bO (bk (bk (bk (bk b a 2) (a+2) 0) (a+4) 0) (a+6) 1) (a+8) p.size.toNat).length=64:=by rw [bP];exact v
 have o:∀ {k},k<a+8->oct (jN b a p) k=oct (bk (bk (bk (bk b a 2) (a+2) 0) (a+4) 0) (a+6) 1) k:=λ{k} y=>by
  unfold jN;rw [jK (by exact CO u x h r) (by exact MC y),cD (by exact Fy h v),if_neg (by exact JW y)]
 have s:∀ {k},k<a+8->oct (jN b a p) k=if k=a+6 then 1 else if k=a+7 then 0 else if k=a+4 then 0 else if k=a+5 then 0 else if k=a+2 then 0 else if k=a+3 then 0 else if k=a then 2 else if k=a+1 then 0 else oct b k:=λ{k} y=>by
  rw [o y,cR (by simp only [aV];exact Ih h w),cR (by simp only [aV];exact HG h w),cR (by simp only [aV];exact HV h w),cR (by exact Ii h w)]
 have z:∀ {k},k+1<a+8->fh (jN b a p) k=oct (jN b a p) k+256*oct (jN b a p) (k+1):=λJ=>rfl
 refine⟨?_,?_,?_,?_,?_,?_,x,λi C=>?_⟩
 ·unfold jN;rw [gG,m];exact r
 ·rw [m,z (by exact GQ),s (by exact Lc),s (by exact GQ)];simp
 ·rw [m,z (by exact FP),s (by exact Rz),s (by exact FP)];simp
 ·rw [m,z (by exact Ga),s (by exact Me),s (by exact Ga)];simp
 ·rw [m,z (Wj _),s (WH _),s (Wj _)];simp
 ·rw [m,zf (c:=bO (bk (bk (bk (bk b a 2) (a+2) 0) (a+4) 0) (a+6) 1) (a+8) p.size.toNat) λj G D=>by unfold jN;exact jK (by exact CO u x h r) (by exact Ng D),gT (by exact Fy h v) (by exact Pu A)]
 ·rw [m];unfold jN;exact wi C (CO u x h r) L.pos
def Bp{k:Int}(c:20<=k)(h:k<26):bt Ar k=false:=by
 refine du (Int.eq_ofNat_of_zero_le (by exact GC c:0<=k)) λi b=>?_
 subst b;have g:20<=i:=by exact Int.ofNat_lt.mp ‹_›
 rcases(by exact MB g (by exact Int.ofNat_lt.mp ‹_› :i<26):i=20\/i=21\/i=22\/i=23\/i=24\/i=25) with rfl|rfl|rfl|rfl|rfl|rfl<;>decide+kernel
def DZ{d:Int}(c:d=1\/d=2):kf d (my d) 0 (oR (d+1).toNat 0):=by
 rcases c with rfl|rfl
 ·refine⟨by decide+kernel,by decide+kernel,by decide+kernel,by decide+kernel,by decide+kernel,by decide+kernel,by decide,λi b=>?_⟩;rw [W0];have:=b;obtain rfl|rfl:i=0\/i=1:=by exact yM this
  ·decide+kernel
  ·decide+kernel
 ·refine⟨by decide+kernel,by decide+kernel,by decide+kernel,by decide+kernel,by decide+kernel,by decide+kernel,by decide,λi b=>?_⟩;rw [W0];obtain rfl|rfl|rfl:i=0\/i=1\/i=2:=by exact QX b
  ·decide+kernel
  ·decide+kernel
  ·decide+kernel
def pI{k i:Nat}:at0 (oR k (0:Int)) i=0:=by
 unfold at0;rw [U1];split<;>rfl
def Sd.fresh{f:Int->Option (List UInt8)}{c:iS}{t:Int->Option V}(I:Inv g a none)(s:g.d=d)(b:g.d=1\/g.d=2)(u:∀k,cont a k=(f k).getD bM)(m:f 19=some Ar)(j:a.toNd={stage:=14,aplaces:=c,calls:=0,kind:=2,major:=0,minor:=0,links:=1,size:=((0:Nat):Int),places:=oR (g.d+1).toNat 0,tab:=t})(p:a.kept=a.latest)(r:a.unfl= []):Sd g a d (λJ=>0) (λJ=>0) 0:=by
 have v:=I.B26;have hp:=congrArg Nd.places j;refine⟨I,congrArg Nd.stage j,⟨s,?_,λi=>?_,?_,λi=>rfl⟩,congrArg Nd.size j,by exact Gx I.B24,⟨by rw [r,p];rfl,by rw [p];exact I.keyL,by exact r▸λt h=>nM h⟩,⟨r,p⟩,λJ J=>rfl,λh=>absurd (by rw [hp,pI]) h⟩
 ·rw [j];exact⟨rfl,rfl,rfl,rfl,⟨Int.le_refl 0,by show(0:Int)<4294967296;decide⟩,b,by rw [vS];exact RM b,λx w=>by rw [VU w];exact⟨by decide,by decide⟩⟩
 ·unfold tv;rw [hp,pI,pI,eX rfl];split<;>rfl
 ·rw [hp,pI,u 19,m];exact Mp.none λk y z=>Bp y (Int.lt_of_lt_of_le ‹_› ‹_›)
def Sd.again{c:iS}{t:Int->Option V}(S:Sd g a d bn oc s)(hz:a.nums= [])(I:Inv g' u none)(b:g'.d=g.d)(m:g'.B=g.B)(y:∀k,cont u k=(a.kept k).getD bM)(j:u.toNd={stage:=14,aplaces:=c,calls:=0,kind:=2,major:=0,minor:=0,links:=1,size:=(s:Int),places:=a.places,tab:=t})(p:u.kept=u.latest)(r:u.unfl= []):Sd g' u d bn oc s:=by
 have v:∀k,18<=k->k<g.B->cont u k=cont a k:=λk x w=>by
  rw [y,S.uk.2];rcases S.I.cln x w with h|h
  ·rw [hz] at h;exact nM h
  ·exact h.symm
 have hp:u.places=a.places:=by have:=congrArg Nd.places j;exact this
 refine⟨I,congrArg Nd.stage j,S.F.tr b m ?_ hp (λk x w=>v k (by(clear m b;exact Int.le_of_lt ‹_›)) w) S.I.B24,congrArg Nd.size j,by rw [m];exact S.s64,⟨by rw [r,p];rfl,by rw [p];exact I.keyL,by exact r▸λt h=>nM h⟩,⟨r,p⟩,S.z,by exact hp▸S.nb⟩;have L:=S.F.L;rw [j];exact⟨rfl,rfl,rfl,rfl,S.sz▸L.sz,b▸L.d,b▸L.len,L.pos⟩
end
end
section
section
variable{g g' h:Fx}{a b a' b' st st':St}{w u σ0 σ1:H}{N:Nat}{Q:V->H->Prop}{P:Fl->Fs->H->Prop}{n:Int}{m:Fs}{ss:Ss}{e o j l r':E}{i k s d off:Nat}{bn:Nat->Int}{oc:Nat->Nat}{x:Cx}{nn:Nat}{p r:iS}{v:V}{z fl:Int}{ob1 ob2:AO}{bs:List UInt8}{plan:iS}
theorem Nw.put(W:Nw g a σ0 w)(b:w r=none):Nw g a σ0 (w.put r ob1):=⟨λp hp=>(H.put_ne _ _ λe=>hp (by rw [<-W.out p hp,e];exact b)).trans (W.out p hp),W.own⟩
def Nw.fre(W:Nw g a σ0 w)(c:w r=none):σ0 r=none:=BS λb=>b ((W.out r b).symm.trans c)
def Di{B:Int}(G:24<=B/\B<=26)(j:(d:Int)=1\/(d:Int)=2)(hp:w plan=some (km B d))(M:aC m 2=some (.ref plan)){R:V->H->Prop}
  (k:∀u g a t,aW g u a->Nw g a w u->Sd g a d (λJ=>0) (λJ=>0) 0->a.calls=0->a.nums= []->g.plan=plan->g.B=B->u t=some (.tuple [.ref g.nodes,.ref g.node])->¬gh g a t->w t=none->R (.ref t) u):
  xE (tb.cx (N+5)) (N+5) m (.call (.g (.ref 928)) (.cons (.call (.g (.ref 921)) (.cons (.v 2) .nil)) (.cons (.v 2) .nil))) R w:=by
 refine i6 (el (kN (aG (aB M) aI) uN uM (vi (N:=N+2) G j hp λσ1 g a X1 W1 Q1 O Q p x y u1 k1=>GJ (aB M) (callF ja jm ?_))));refine O▸ ?_;have R0:kf g.d (my d) 0 (oR ((d:Int)+1).toNat 0):=by rw [p];exact DZ j
 refine th (N:=N) (s:=0) X1 W1 Q1 (by exact Q▸G) (by exact p▸j) x R0 (by exact p▸Int.natCast_nonneg _) λaa g2 a2 r c U Y I2 z A C b h hl hk hu hn v=>?_
 have D:=C.trans p;refine k _ g2 a2 r (U.new v) (Y.put v) (Sd.fresh I2 D (by rw [D];exact j) b y (by rw [h,D]) (by rw [hl];exact(hk).trans (k1)) (by exact(hu).trans (u1))) (congrArg Nd.calls h) hn (z.trans O) (A.trans Q) (H.put_same ..) (U.fresh v) (Y.fre v)
def CL(S:Sd g a d bn oc s)(j:kP g a)(hz:a.nums= []):∃b,a.kept 18=some b/\kf g.d b s a.places:=by
 refine bp j λk m p=>?_
 have R:=RD (b:=k) S.F.L m;rw [<-p] at R;have R:=S.sz▸R;have c:cont a 18=(a.latest 18).getD bM:=(S.I.cln (by decide) (by exact zX S.I.B24)).resolve_left (by exact hz▸λh=>nM h);refine S.uk.2▸ ?_;generalize h:a.latest 18=r;induction r with
 |none=>
  have:=R.h0;rw [c,h] at this;have e:fh (Option.getD (none:Option (List UInt8)) bM) (bV g.d).toNat=0:=by
   show fh bM _=0;unfold fh;rw [jG,jG]
  rw [e] at this;exact absurd this (by decide)
 |some b=>
  refine⟨b,rfl,?_⟩;rw [c,h] at R
  rwa [Int.toNat_natCast] at R
def vt(X:aW g w a)(S:Sd g a d bn oc s)(Rw:kP g a)(hz:a.nums= [])(gp:g.plan=plan)(m2:aC m 2=some (.ref plan))(M:aC m 11=some (.ref g.nodes)){R:V->H->Prop}
  (k:∀u h A t,aW h u A->Nw h A w u->Sd h A d bn oc s->h.plan=plan->h.B=g.B->u t=some (.tuple [.ref h.nodes,.ref h.node])->¬gh h A t->w t=none->R (.ref t) u):
  xE (tb.cx (N+5)) (N+5) m (.call (.g (.ref 928)) (.cons (.mc (.attr (.attr (.v 11) 22) 30) 149 .nil) (.cons (.v 2) .nil))) R w:=by
 have j:14<=a.stage:=by rw [S.hs];exact oP _
 have B:=S.I.B26;have C:=S.F.L.d;have v:=S.s64;refine bp (CL S Rw hz) λb hb Ri=>?_
 have hk:=S.uk.2;refine i6 (el (b8 (aE (aE (aB M) (X.at .nodes (aM j)) rfl rfl rfl) (X.at .cache (aM j)) rfl rfl rfl) (X.at .disk (aM j)) vl rfl rfl aI (D8 (N:=N+2) X (aM j) S.uk.1 (by refine hk▸ ?_;exact S.I.keyL) (by exact hk▸S.I.lenL) (NH v) λσ1 g1 a1 X1 W1 Q1 D x p O k1 u1=>GJ (aB m2) (callF ja jm ?_))));refine gp▸ ?_;refine D▸ ?_;refine th (N:=N) (b:=b) X1 W1 Q1 (by exact x▸⟨S.I.B24,B⟩) (by refine p▸ ?_;exact C) (by exact O▸hb) (by exact p▸Ri) (by exact p▸Ju v C B) λab h A r c X2 W2 I2 Q G U z Y hl aa hu hn J=>?_
 refine k _ h A r (X2.new J) (W2.put J) (S.again hz I2 (U.trans p) (G.trans x) (λy=>by rw [z,O]) Y (by rw [hl,aa,O,k1]) (by exact(hu).trans (u1))) (Q.trans (D.trans gp)) (G.trans x) (H.put_same ..) (X2.fresh J) (W2.fre J)
end
end
section
section
variable{g g' h:Fx}{a b y b' st st':St}{A c σ0 σ1:H}{N:Nat}{Q:V->H->Prop}{P:Fl->Fs->H->Prop}{n:Int}{m:Fs}{ss:Ss}{e o j l r':E}{i k s d off:Nat}{bn:Nat->Int}{oc:Nat->Nat}{x:Cx}{nn:Nat}{p r:iS}{v:V}{z w:Int}{ob1 ob2:AO}{bs:List UInt8}{plan:iS}
variable{pr G D O t0 Y B:iS}{U:AO}{M:List Int}{oct:List UInt8}{T:List Nat}{C bnB:Nat->Int}
def nB{p:Ss}{PA PA' PB PB':St->Prop}(E:En g h a b A w z pr G D O t0 Y B U M oct T)(C:PA a)(Q:PB b)(m3:aC m 3=some (.ref pr))
  (r:∀A a m (P:Fl->Fs->H->Prop),aW g A a->PA a->aC m 5=some (.ref g.nodes)->(∀c y,aW g c y->bv g A a c y->PA' y->P .next m c)->aZ x nn p P m A)
  (s:∀A a m (P:Fl->Fs->H->Prop),aW h A a->PB a->aC m 5=some (.ref h.nodes)->(∀c y,aW h c y->bv h A a c y->PB' y->P .next m c)->aZ x nn p P m A)
  (k:∀c y b' v,En g h y b' c w z pr G D O t0 Y B U M oct T->PA' y->PB' b'->(∀j,j≠5->j≠6->aC v j=aC m j)->aZ x nn ss P v c):
  aZ x nn (.cons (.forIn [5,6] (.v 3) p) ss) P m A:=
 AN rfl E C Q m3 (λA a m P X h u J J k=>r A a m P X h u k) (λA a m P X h u J J k=>s A a m P X h u k) k
def Cl(g:Fx)(d:Nat)(bn:Nat->Int)(oc:Nat->Nat)(s:Nat)(rw:Prop)(a:St):Prop:=Sd g a d bn oc s/\a.calls=0/\a.nums= []/\(rw->kP g a)
def Cp(g:Fx)(d:Nat)(bn:Nat->Int)(oc:Nat->Nat)(s:Nat)(rw:Prop)(a:St):Prop:=Sd g a d bn oc s/\a.calls=1/\(rw->kP g a)
def gY{rw:Prop}(X:aW g A a)(h:Cl g d bn oc s rw a)(j:aC m 5=some (.ref g.nodes))(k:∀c y,aW g c y->bv g A a c y->Cp g d bn oc s rw y->aZ (tb.cx (N+2)) (N+2) ss P m c):aZ (tb.cx (N+2)) (N+2) (.cons (.ex (.mc (.attr (.v 5) 21) 147 .nil)) ss) P m A:=by
 refine q8 h λS p r u=>?_
 have b:14<=a.stage:=by exact S.hs▸oP _
 exact cH (b8 (aE (aB j) (X.at .nodes (aM b)) rfl rfl rfl) (X.at .jour (aM b)) uF rfl rfl aI (Ds (N:=N) X S.I p r λc v w=>⟨rfl,k c _ v w ⟨S.begin,rfl,λh=>(u h).tr rfl rfl rfl⟩⟩))
def ls{rw:Prop}(X:aW g A a)(h:Cp g d bn oc s rw a)(u:aC m 5=some (.ref g.nodes))(k:∀c y,aW g c y->bv g A a c y->Cl g d bn oc s rw y->aZ (tb.cx (N+7)) (N+7) ss P m c):aZ (tb.cx (N+7)) (N+7) (.cons (.ex (.mc (.attr (.v 5) 21) 148 .nil)) ss) P m A:=by
 refine eK h λS v w=>?_
 have b:14<=a.stage:=by exact S.hs▸oP _
 exact cH (b8 (aE (aB u) (X.at .nodes (aM b)) rfl rfl rfl) (X.at .jour (aM b)) xb rfl rfl aI (Iu (N:=N) X S.I S.D v S.uk.1 S.uk.2 λc y x z B C j p r=>⟨rfl,k c y x z ⟨S.ended B C j p r,congrArg Nd.calls j,r.nums,λh=>(w h).tr (p 18 (by decide)) (by have:=congrArg Nd.size j;exact this) (by have:=congrArg Nd.places j;exact this)⟩⟩))
inductive FlI(g h:Fx)(fl z:Int)(pr own box tl t0 t1 scr:iS)(so:AO)(bx:List Int)(oct:List UInt8)(T:List Nat)(b:St)(d:Nat)(bnA:Nat->Int)(oc:Nat->Nat)(s:Nat)(hl:iS)(hs:List Nat)(m:Fs)(i:Nat)(m':Fs)(σ':H):Prop
 |mk (a':St) (bnA':Nat->Int) (h0:En g h a' b σ' fl z pr own box tl t0 t1 scr so bx oct T) (h1:Sd g a' d bnA' oc s) (h2:a'.calls=1) (h3:(∀j,bnA' j≠0↔bnA j≠0\/j∈hs.take i)) (h4:kP g a') (h5:Ow g h a' b σ' hl (.list (TL hs))) (h6:(∀j,j≠9->aC m' j=aC m j))
set_option tactic.hygienic true in
def Eo{hl:iS}{p:List Nat}(E:En g h a b A w z pr G D O t0 Y B U M oct T)(S:Sd g a d C oc s)(hc:a.calls=1)(hO:Ow g h a b A hl (.list (TL p)))(hn:p.Nodup)(hh:∀i∈p,C i=0/\64*i+64<=s)(m3:aC m 3=some (.ref pr))(ah:p.length<=100)(R:kP g a)
  (q:∀c y x Q,En g h y b c w z pr G D O t0 Y B U M oct T->Sd g y d x oc s->y.calls=1->(∀i,x i≠0↔C i≠0\/i∈p)->kP g y->(∀j,j≠9->aC Q j=aC m j)->P .next Q c):
  qr (.list hl) (λA u m=>c9 A [9] u m) (aZ (tb.cx (N+10)) (N+10) (.cons (.ite (.cmp .NotEq (.mc (.sub (.sub (.v 3) (.k (.int 0))) (.k (.int 1))) 103 (.cons (.bin .Mult (.k (.int 64)) (.v 9)) (.cons (.call (.g (.ty "bytes")) (.cons (.k (.int 64)) .nil)) .nil))) (.k (.int 64))) (.cons (.ret (.k (.bool false))) .nil) .nil) .nil)) P m A:=by
 have aa:=S.s64;have ai:=S.I.B26;refine fU (xs:=TL p) (by exact dR▸gD (by assumption) (by decide)) (λi Q c=>FlI g h w z pr G D O t0 Y B U M oct T b d C oc s hl p m i Q c)
  (λi Q c v=>by obtain⟨_,_,_,_,_,_,_,ak,_⟩:=v;exact ak.1) (λi Q c r v I' kI=>⟨_,rfl,?_⟩) (λQ c v=>?_) ⟨a,C,E,S,hc,λj=>by simp,R,hO,λJ J=>rfl⟩
 ·obtain⟨a1,ab,E1,S1,c1,al,R1,O1,hm⟩:=v;have r:i<p.length:=by rw [dR] at r;exact r
  have af:14<=a1.stage:=by rw [S1.hs];exact oP _
  obtain⟨b0,b1⟩:=hh _ (US r);have ac:p[i]∉p.take i:=λhm=>by
   obtain⟨j,hj,e⟩:=Xq hm;rw [Wa] at e;rw [Ps] at hj;have:=(WO hn).mp e;exact Cw r hj this
  have hz:∀j,gM oc (64*p[i]) 64 (oR 64 0) j=oc j:=λj=>by
   unfold gM;split
   ·rename_i hj;rw [(by rw [S1.F.o j,show j/64=p[i] by exact ME hj r,eX (BS λh=>((al _).mp h).elim (λh=>h b0) ac)]:oc j=0)];unfold Mine.Internal.oct;rw [U1];split<;>rfl
   ·rfl
  have ei:(TL p)[i]'(by refine dR▸ ?_;exact r)=.int (p[i]:Int):=by unfold TL;rw [HD]
  rw [ei];refine DM (b8 (Ew E1 (aP ((hm 3 (by decide)).trans m3))) (E1.W.X.at .node (aM af)) d9 rfl rfl (aG (bj (w:=.int ((64*p[i]:Nat):Int)) (cy aN (aB ct) (.of_left (Ex (by decide) (by decide)))) (congrArg V.int rfl)) (aG (wh (aG aN aI) (Ac (k:=64) rfl (by decide))) aI)) (gU (N:=N) (bs:=oR 64 0) E1.W.X S1 c1 (by simp) (by decide) (by exact Pf aa b1 r) λaj a2 ag X2 E2 S2 ae c2 R2=>aN _ _ _ (fZ (t:=false) rfl _ ?_)));rw [vS] at S2 ae;rw [show max s (64*p[i]+64)=s by exact NV b1 r] at S2;refine kI _ _ ⟨a2,ag,E1.L E2 X2,S2.oeq hz,c2,λj=>?_,R2,O1.L E2,λj hj=>by rw [bN,if_neg (NS hj)];exact hm j hj⟩;rw [ae j,al j,Gd r,Yi,ZE];constructor
  ·rintro ((h|h)|h)
   ·exact .inl h
   ·exact .inr (.inl h)
   ·exact .inr (.inr (Ro h r))
  ·rintro (h|h|h)
   ·exact .inl (.inl h)
   ·exact .inl (.inr h)
   ·exact .inr (KH h r)
 ·obtain⟨a1,ab,E1,S1,c1,al,R1,O1,hm⟩:=v;rw [dR,UV] at al;exact q c a1 ab Q E1 S1 c1 al R1 hm
end
end
section
section
variable{g g' h:Fx}{a b U O st st':St}{A w D σ1:H}{N:Nat}{Q:V->H->Prop}{P:Fl->Fs->H->Prop}{n:Int}{m:Fs}{ss:Ss}{e o j l r':E}{i k s d off:Nat}{bn:Nat->Int}{oc:Nat->Nat}{x:Cx}{nn:Nat}{p r:iS}{v:V}{z fl:Int}{ob1 ob2:AO}{bs:List UInt8}{plan:iS}
variable{pr own box tl t0 M scr:iS}{so:AO}{bx:List Int}{oct:List UInt8}{T:List Nat}{bnA bnB:Nat->Int}
def aW.nw(X:aW g A a)(W:Nw h b A w):aW g w a:=X.other (λr c=>W.out _ (by rw [X.at r c];exact λh=>sN h)) (λt j=>W.out _ (by rw [X.tup t j];exact λh=>sN h))
def Nw.nf(W:Nw h b A w)(hp:A p≠none):¬gh h b p:=λc=>hp (W.own p c)
def Wd.make(X:aW g A a)(Y:aW h w b)(W:Nw h b A w)(hp:g.plan=h.plan):Wd g h a b w:=⟨X.nw W,Y,λp c=>W.nf (X.isOb c),hp⟩
def ea{o:AO}(h:A p=some o):A p≠none:=by exact h▸λh=>sN h
structure Tw(g h:Fx)(a b:St)(σ0 σ:H)(t0 t1:iS):Prop where
 W:Wd g h a b σ
 o0:Ow g h a b σ t0 (.tuple [.ref g.nodes,.ref g.node])
 o1:Ow g h a b σ t1 (.tuple [.ref h.nodes,.ref h.node])
 old:∀p,σ0 p≠none->σ p=σ0 p/\¬gh g a p/\¬gh h b p
theorem Tw.make{t u:iS}(X:aW g σ1 a)(W:Nw g a D σ1)(Y:aW h A b)(W2:Nw h b σ1 A)(hp:g.plan=h.plan)(c:σ1 t=some (.tuple [.ref g.nodes,.ref g.node]))(r:¬gh g a t)(s:A u=some (.tuple [.ref h.nodes,.ref h.node]))(j:¬gh h b u)(v:σ1 u=none):Tw g h a b D A t u:=by
 refine⟨.make X Y W2 hp,⟨(W2.out t (ea c)).trans c,r,W2.nf (ea c)⟩,⟨s,X.fresh v,j⟩,λp hp=>?_⟩;have k:=W.out p hp;have m:σ1 p≠none:=by exact k▸hp
 exact⟨(W2.out p m).trans k,W.nf hp,W2.nf m⟩
inductive Ib(plan:iS)(σ0:H)(B B2:Int)(C1 C2:Fx->St->Prop):Nat->List V->H->Prop
 |z:Ib plan σ0 B B2 C1 C2 0 [] σ0
 |o {σ:H} {g:Fx} {a:St} {t:iS} (X:aW g σ a) (W:Nw g a σ0 σ) (C:C1 g a) (gp:g.plan=plan) (gB:g.B=B) (ht:σ t=some (.tuple [.ref g.nodes,.ref g.node])) (hf:¬gh g a t):Ib plan σ0 B B2 C1 C2 1 [.ref t] σ
 |t {σ:H} {g h:Fx} {a b:St} {t u:iS} (T:Tw g h a b σ0 σ t u) (c1:C1 g a) (c2:C2 h b) (gp:g.plan=plan) (gB:g.B=B) (hB:h.B=B2):Ib plan σ0 B B2 C1 C2 2 [.ref t,.ref u] σ
def Ib.fin{B j:Int}{m p:Fx->St->Prop}{c:List V}{G:List V->Prop}(x:Ib plan D B j m p 2 c A)(k:∀g h a b t u,Tw g h a b D A t u->m g a->p h b->g.plan=plan->g.B=B->h.B=j->G [.ref t,.ref u]):G c:=by
 cases x with
 |t T r s v w y=>exact k _ _ _ _ _ _ T r s v w y
def DC{B:Int}(hB:24<=B/\B<=26)(hd:(d:Int)=1\/(d:Int)=2)(hp:A plan=some (km B d))(m2:aC m 2=some (.ref plan))(Q:aC m 10=none){R:V->H->Prop}
  (k:∀w g h a b t0 M pr,Tw g h a b A w t0 M->Cl g d (λJ=>0) (λJ=>0) 0 False a->Cl h d (λJ=>0) (λJ=>0) 0 False b->g.plan=plan->g.B=B->h.B=B->Ow g h a b w pr (.list [.ref t0,.ref M])->R (.ref pr) w):
  xE (tb.cx (N+5)) (N+5) m (.comp (.call (.g (.ref 928)) (.cons (.call (.g (.ref 921)) (.cons (.v 2) .nil)) (.cons (.v 2) .nil))) [10] (.call (.g (.ty "range")) (.cons (.k (.int 2)) .nil)) (.k (.bool true))) R A:=by
 refine iE (by show((aC m 10).isNone&&true)=true;exact Q▸rfl) (pk (aG aN aI) ⟨by decide,by decide,λy hy=>?_⟩);have r:(A.put y (.rng 0 2)) plan=some (km B d):=(H.put_ne _ _ (dU hp hy)).trans hp;have kp:∀p,A p≠none->(A.put y (.rng 0 2)) p=A p:=λp hp=>H.put_ne _ _ λe=>hp (e▸hy)
 show(match sq (.ref y) _ with|some k=>_|none=>False);refine tY (H.put_same ..)▸ ?_;generalize A.put y (.rng 0 2)=σ2 at r kp;refine dM 2 (λi=>.int (0+(i:Int))) (Ib plan σ2 B B (λg a=>Cl g d (λJ=>0) (λJ=>0) 0 False a) λh b=>Cl h d (λJ=>0) (λJ=>0) 0 False b)
  (λi j w J U=>?_) (λj w J=>rfl) (λi j w hI U I' kI=>⟨_,rfl,tK _ _ _ ?_⟩) (λj w hI c v=>?_) .z
 ·exact congrArg _ (eX (by exact Ll U))
 ·induction hI with
  |z=>exact Di (N:=N) hB hd r (aP m2) λaa g a t X W S c0 n0 x D ht hf J=>⟨by decide,kI _ _ (.o X W ⟨S,c0,n0,λh=>h.elim⟩ x D ht hf)⟩
  |o X W C x D ht hf=>exact Di (N:=N) hB hd ((W.out plan (ea r)).trans r) (aP m2) λaa h b u Y W2 S c0 n0 hp s hu ab ac=>⟨(by decide:1<=1000000),kI _ _ (.t (.make X W Y W2 (x.trans hp.symm) ht hf hu ab ac) C ⟨S,c0,n0,λh=>h.elim⟩ x D s)⟩
  |t=>exact absurd U (abe 2)
 ·refine hI.fin (G:=λj=>R (.ref c) (w.put c (.list j))) λg h a b t u O C1 C2 x D s=>?_
  refine k _ g h a b t u c ⟨O.W.new v,O.o0.keep v,O.o1.keep v,λp hp=>?_⟩ C1 C2 x D s (Ow.new (ob1:=.list [.ref t,.ref u]) O.W v);have h1:=kp p hp;refine eK (O.old p (by exact h1▸hp)) λh2 h3 h4=>?_
  exact⟨(H.put_ne _ _ λe=>by rw [<-e,h2,h1] at v;exact hp v).trans (h2.trans h1),h3,h4⟩
def zW(E:En g h a b A fl z pr own box tl t0 M scr so bx oct T)(CA:Cl g d bnA oc s True a)(CB:Cl h d bnB oc s True b)(gp:g.plan=plan)(m2:aC m 2=some (.ref plan))(m3:aC m 3=some (.ref pr))(aa:aC m 11=none)(ab:aC m 12=none){oc':Nat->Nat}{R:V->H->Prop}
  (k:∀w g' h' U O ac ae B,En g' h' U O w fl z B own box tl ac ae scr so bx oct T->Sd g' U d bnA oc s->Sd h' O d bnB oc s->g'.plan=plan->g'.B=g.B->h'.B=h.B->R (.ref B) w):
  xE (tb.cx (N+5)) (N+5) m (.comp (.call (.g (.ref 928)) (.cons (.mc (.attr (.attr (.v 11) 22) 30) 149 .nil) (.cons (.v 2) .nil))) [11,12] (.v 3) (.k (.bool true))) R A:=by
 refine iE (by show((aC m 11).isNone&&((aC m 12).isNone&&true))=true;rw [aa,ab];rfl) (aB m3 _ _ _ ?_);refine ly E.ePr.1▸ ?_;have hp:=E.W.pl.symm.trans gp;refine lG (xs:= [.ref t0,.ref M]) (by decide:2<=1000000) (λi j w=>w pr=some (.list [.ref t0,.ref M])/\Ib plan A g.B h.B (λg' U=>Sd g' U d bnA oc s) (λh' O=>Sd h' O d bnB oc s) i j w)
  (λi j w h=>h.1) (λi j w hi v I' kI=>?_) (λj w v c D=>?_) ⟨E.ePr.1,.z⟩
 ·obtain⟨p,hI⟩:=v;induction hI with
  |z=>
   refine q8 CA λS c0 n0 Rw=>?_
   exact⟨_,Dy E.eP0.1 rfl (by decide),tK _ _ _ (vt (N:=N) E.W.X S (Rw trivial) n0 gp (aP (aP m2)) (aP ct) λaf g2 a2 t X W S2 ag ah ht hf J=>⟨by decide,kI _ _ ⟨(W.out pr (ea p)).trans p,.o X W S2 ag ah ht hf⟩⟩)⟩
  |o X W C r x ht hf=>
   refine q8 CB λS c0 n0 Rw=>?_
   exact⟨_,Dy ((W.out M (ea E.eP1.1)).trans E.eP1.1) rfl (by decide),tK _ _ _ (vt (N:=N) (E.W.Y.nw W) S (Rw trivial) n0 hp (aP (aP m2)) (aP ct) λaf h2 b2 u Y W2 S2 ai y hu aj ak=>⟨(by decide:1<=1000000),kI _ _ ⟨(W2.out pr (ea p)).trans p,.t (.make X W Y W2 (r.trans ai.symm) ht hf hu aj ak) C S2 r x y⟩⟩)⟩
  |t=>exact absurd (hi) (abe 2)
 ·refine v.2.fin (G:=λj=>R (.ref c) (w.put c (.list j))) λg' h' U O t u Q C1 C2 r x y=>?_
  have kp:∀ {q:iS} {o:AO},A q=some o->Ow g' h' U O (w.put c (.list [.ref t,.ref u])) q o:=λ{q o} hq=>by
   refine eK (Q.old q (ea hq)) λh2 h3 h4=>?_
   exact Ow.keep ⟨h2.trans hq,h3,h4⟩ D
  exact k _ g' h' U O t u c ⟨Q.W.new D,(Ow.new (ob1:=.list [.ref t,.ref u]) Q.W D),Q.o0.keep D,Q.o1.keep D,kp E.eOw.1,kp E.eTl.1,kp E.eBx.1,kp E.eSc.1,E.B,E.ne⟩ C1 C2 r x y
end
end
section
section
variable{g g' h:Fx}{a b a' b' st st':St}{u c σ0 σ1:H}{N:Nat}{Q:V->H->Prop}{P:Fl->Fs->H->Prop}{n:Int}{m:Fs}{ss:Ss}{e o j l r':E}{i k s d off:Nat}{bn:Nat->Int}{oc:Nat->Nat}{x:Cx}{nn:Nat}{p r:iS}{v:V}{z fl:Int}{ob1 ob2:AO}{bs:List UInt8}{plan:iS}
variable{pr own w tl t0 t1 scr:iS}{so:AO}{bx:List Int}{oct:List UInt8}{T:List Nat}{bnA bnB:Nat->Int}
def AD{i:Nat}(c:aC m i=some (.ref w))(g:u w=some (.list (bx.map .int)))(B:Bx z fl bx):Ev m u (.sub (.v i) (.k (.int 3))) (.int fl):=by
 refine DI B.ex λJ J J b J=>?_
 subst b;exact cC (aB c) aN λQ q=>wU (i:=3) g ⟨by decide,by decide⟩ rfl Q q
def N0{c g:Str}{j p:E}{R:V->H->Prop}(h:xE x nn m j (λa u=>xE x nn m p (λb u=>fresh (.sdict λk=>if k=c then some a else if k=g then some b else none) R u) u) u):xE x nn m (.dct2 c g j p) R u:=h
def SJ{l r:E}{R:Bool->H->Prop}(h:xT x nn m l (λb u=>if b then R true u else xT x nn m r R u) u):xT x nn m (.or2 l r) R u:=h
structure Mf(m:Fs)(box plan pr own:iS):Prop where
 n1:aC m 1=some (.ref box)
 n2:aC m 2=some (.ref plan)
 n3:aC m 3=some (.ref pr)
 n4:aC m 4=some (.ref own)
 n11:aC m 11=none
 n12:aC m 12=none
def Mf.of{b:Fs}(M:Mf m w plan pr own)(h:∀j,j≠5->j≠6->j≠7->j≠8->j≠9->aC b j=aC m j):Mf b w plan pr own:=
 ⟨(h 1 (by decide) (by decide) (by decide) (by decide) (by decide)).trans M.n1,(h 2 (by decide) (by decide) (by decide) (by decide) (by decide)).trans M.n2,(h 3 (by decide) (by decide) (by decide) (by decide) (by decide)).trans M.n3,(h 4 (by decide) (by decide) (by decide) (by decide) (by decide)).trans M.n4,(h 11 (by decide) (by decide) (by decide) (by decide) (by decide)).trans M.n11,(h 12 (by decide) (by decide) (by decide) (by decide) (by decide)).trans M.n12⟩
def Ef(E:En g h a b u fl z pr own w tl t0 t1 scr so bx (rd oc 0 s) T)(F:F2 g h a b d bnA bnB oc s T)(ca:a.calls=1)(cb:b.calls=1)(RA:kP g a)(RB:kP h b)(Y:g.plan=plan)(hz:z<=500)(M:Mf m w plan pr own)(q:∀c,c scr=some so->Q (.bool true) c):
  aZ (tb.cx (N+12)) (N+12) (.cons (.ite (.not (.call (.g (.ref 945)) (.cons (.v 1) (.cons (.v 3) (.cons (.v 4) (.cons (.v 2) .nil)))))) (.cons (.ret (.k (.bool false))) .nil) .nil) (.cons (.ite (.cmp .Eq (.sub (.v 1) (.k (.int 3))) (.k (.int 0))) (.cons (.ret (.k (.bool true))) .nil) .nil) (.cons (.forIn [5,6] (.v 3) (.cons (.ex (.mc (.attr (.v 5) 21) 148 .nil)) .nil)) (.cons (.ret (.call (.g (.ref 945)) (.cons (.v 1) (.cons (.comp (.call (.g (.ref 928)) (.cons (.mc (.attr (.attr (.v 11) 22) 30) 149 .nil) (.cons (.v 2) .nil))) [11,12] (.v 3) (.k (.bool true))) (.cons (.v 4) (.cons (.v 2) .nil)))))) .nil)))) (uv Q) m u:=by
 refine t9 (vA (SX (aG (aB M.n1) (aG (aB M.n3) (aG (aB M.n4) (aG (aB M.n2) aI)))) dB dE (lu (N:=N+2) E F Y (PF hz) λσ1 a1 b1 aa r v A1 B1=>?_)));by_cases h0:fl=0
 ·exact dS (jV (AD M.n1 r.eBx.1 r.B) aN) (lO h0) (cY aN (q σ1 r.eSc.1))
 ·refine dH (jV (AD M.n1 r.eBx.1 r.B) aN) (decide_eq_false h0) ?_;refine nB (PA:=Cp g d bnA oc s True) (PA':=Cl g d bnA oc s True) (PB:=Cp h d bnB oc s True) (PB':=Cl h d bnB oc s True) r ⟨v.A,(congrArg Nd.calls A1.sm.nd).trans ca,λJ=>RA.same A1⟩ ⟨v.B,(congrArg Nd.calls B1.sm.nd).trans cb,λJ=>RB.same B1⟩ M.n3 (λu a m P X h y k=>ls (N:=N+5) X h y λc a' C D x=>bE (k c a' C D x)) (λu a m P X h y k=>ls (N:=N+5) X h y λc a' C D x=>bE (k c a' C D x)) λab a2 b2 m2 E2 CA CB hm=>?_
  have p:=M.of λj h5 h6 J J J=>hm j h5 h6
  refine cO (i6 (cn (aB p.n1) (el (zW (N:=N+7) E2 CA CB Y p.n2 p.n3 p.n11 p.n12 (oc':=oc) λac g' x a' b' ae af ag E3 A3 B3 G O U=>cn (aB p.n4) (GJ (aB p.n2) (callF dB dE ?_))))));exact lu (N:=N+2) E3 {v with A:=A3,B:=B3,eB:=by rw [O];exact(U).trans (v.eB)} G (Kl hz) λc J J J E4 J J J=>q c E4.eSc.1
end
end
section
section
variable{g g' h:Fx}{a b u b' st st':St}{σ σ' σ0 σ1:H}{N:Nat}{Q:V->H->Prop}{P:Fl->Fs->H->Prop}{n:Int}{m:Fs}{ss:Ss}{e o j l r':E}{i k s d off:Nat}{bn:Nat->Int}{oc:Nat->Nat}{x:Cx}{nn:Nat}{p r:iS}{v:V}{z fl:Int}{ob1 ob2:AO}{bs:List UInt8}{plan:iS}
variable{pr own box tl t0 t1 scr:iS}{so:AO}{bx:List Int}{oct:List UInt8}{T:List Nat}{bnA bnB:Nat->Int}
def F2.filled(F:F2 g h a b d bnA bnB oc s T)(S:Sd g u d bn oc s)(c:∀i,bn i≠0↔bnA i≠0\/i∈d5 T ((s+63)/64)):F2 g h u b d bn bnB oc s (oS ((s+63)/64)):=
 {F with
  A:=S
  tA:=λi=>by
   rw [c,F.tA,aaI,d5,List.mem_filter,aaI,Zo];exact⟨λh=>h.elim (F.tT i) And.left,λh=>Classical.byCases .inl λj=>.inr ⟨h,j⟩⟩
  tT:=λi k=>List.mem_range.mp k
  nd:=List.nodup_range
  last:=λh=>List.mem_range.mpr (Kc h)}
def zN(E:En g h a b σ fl z pr own box tl t0 t1 scr so bx (rd oc 0 s) T)(F:F2 g h a b d bnA bnB oc s T)(ca:a.calls=1)(RA:kP g a)(M:Mf m box plan pr own)
  (k:∀σ' u w G Y,En g h u b σ' fl z pr own box G t0 t1 scr so bx (rd oc 0 s) (oS ((s+63)/64))->F2 g h u b d w bnB oc s (oS ((s+63)/64))->u.calls=1->kP g u->Mf Y box plan pr own->aZ (tb.cx (N+12)) (N+12) ss P Y σ'):
  aZ (tb.cx (N+12)) (N+12) (.cons (.forIn [9] (.call (.g (.ref 940)) (.cons (.v 4) .nil)) (.cons (.ite (.cmp .NotEq (.mc (.sub (.sub (.v 3) (.k (.int 0))) (.k (.int 1))) 103 (.cons (.bin .Mult (.k (.int 64)) (.v 9)) (.cons (.call (.g (.ty "bytes")) (.cons (.k (.int 64)) .nil)) .nil))) (.k (.int 64))) (.cons (.ret (.k (.bool false))) .nil) .nil) .nil)) (.cons (.asg (.sub (.v 4) (.k (.str (Str.ofString "touched")))) (.call (.g (.ty "list")) (.cons (.call (.g (.ty "range")) (.cons (.call (.g (.ref 935)) (.cons (.v 4) .nil)) .nil)) .nil))) ss)) P m σ:=by
 have p:=F.A.s64;have x:=F.A.I.B26;have C:(s+63)/64<=10:=by exact zr p x
 have aa:T.length<=10:=gD (bZ (L:=oS ((s+63)/64)) F.nd λi y=>List.mem_range.mpr (F.tT i y)) (by exact tS▸zr p x);have hm:∀i,i∈d5 T ((s+63)/64)->i<(s+63)/64/\i∉T:=λi y=>by
  have:=List.mem_filter.mp y;exact⟨List.mem_range.mp this.1,EX this.2⟩
 refine Dz (kN (aG (aB M.n4) aI) f5 f9 (qY (N:=N+10) E.eOw.1 E.eTl.1 (by exact bu▸GK C) (gD (by assumption) (by decide)) λy1 y2 A r=>?_));rw [bu] at r⊢;rw [ly (H.put_same ..)];refine Eo (N:=N+2) ((E.new (ob1:=.rng 0 ((s+63)/64:Nat)) A).new (ob1:=.list (TL (d5 T ((s+63)/64)))) r) F.A ca (Ow.new (ob1:=.list (TL (d5 T ((s+63)/64)))) (E.new (ob1:=.rng 0 ((s+63)/64:Nat)) A).W r) (List.nodup_range.filter _) (λi y=>?_) M.n3 (gD (Ve ..) (by rw [tS];(clear p;exact gD (by assumption) (by decide)))) RA λab a4 O m4 B S4 c4 al R4 Q=>?_
 ·obtain⟨v,h2⟩:=hm i y;refine⟨BS λh=>h2 ((F.tA i).mp h),?_⟩;exact Kn v (λe=>h2 (e▸(F.last (GT v))):i≠(s+63)/64-1)
 have U:=M.of λj J J J J h9=>Q j h9
 refine wv (dA (bJ (dA (bJ (kN (aG (aB U.n4) aI) gR g7 (tI (N:=N+11) B.eOw.1 (by exact bu▸GK C) ⟨by exact Int.natCast_nonneg _,by exact bu▸Mt C,λr1 v=>?_⟩))))));refine bu▸ ?_;refine yf (H.put_same ..) (NN C) λc D=>aB U.n4 (tb.cx (N+12)) (N+12) _ (aN (tb.cx (N+12)) (N+12) _ (vV (k:=kT) ((B.new v).new D).eOw.1 (by rfl) ?_))
 rw [qL];have e:((oS (((s+63)/64:Nat)-0:Int).toNat).map λ(i:Nat)=>V.int (0+(i:Int)))=TL (oS ((s+63)/64)):=by
  exact Ws λi J=>congrArg V.int (Int.zero_add _)
 rw [e];exact k _ a4 O c m4 (En.setTl (B.new v) D ((B.new v).new D) (Ow.new (B.new v).W D)) (F.filled S4 al) c4 R4 U
end
end
section
section
variable{g g' h:Fx}{a b a' b' st st':St}{w σ' σ0 σ1:H}{N:Nat}{Q:V->H->Prop}{P:Fl->Fs->H->Prop}{n:Int}{m:Fs}{ss:Ss}{e o j l r':E}{i k s d off:Nat}{bn:Nat->Int}{oc:Nat->Nat}{x:Cx}{nn:Nat}{p r:iS}{v:V}{z A:Int}{ob1 ob2:AO}{bs:List UInt8}{plan:iS}
variable{pr u c tl t0 y scr:iS}{so:AO}{bx:List Int}{oct:List UInt8}{T:List Nat}{bnA bnB:Nat->Int}
inductive Lp(d:Nat)(fl z:Int)(plan pr own box t0 t1 scr:iS)(so:AO)(g h:Fx)(rw:Prop)(m:Fs)(e7:Int)(σ:H):Prop
 |mk (a b:St) (tl:iS) (bx:List Int) (bnA bnB:Nat->Int) (oc:Nat->Nat) (s:Nat) (T:List Nat) (E:En g h a b σ fl z pr own box tl t0 t1 scr so bx (rd oc 0 s) T) (F:F2 g h a b d bnA bnB oc s T) (ca:a.calls=1) (cb:b.calls=1) (R:rw->kP g a/\kP h b) (M:Mf m box plan pr own) (m7:aC m 7=some (.int e7))
def Lp.re{rw j:Prop}{e7:Int}{p:Fs}(L:Lp d A z plan pr u c t0 y scr so g h rw m e7 w)(k:j->rw)(M:Mf m c plan pr u->Mf p c plan pr u)(r:aC m 7=some (.int e7)->aC p 7=some (.int e7)):Lp d A z plan pr u c t0 y scr so g h j p e7 w:=by
 obtain⟨a,b,tl,bx,bnA,bnB,oc,s,T,E,F,v,x,R,B,C⟩:=L;exact⟨a,b,tl,bx,bnA,bnB,oc,s,T,E,F,v,x,λh=>R (k h),M B,r C⟩
def DT{rw:Prop}{e7:Int}(L:Lp d A z plan pr u c t0 y scr so g h rw m e7 w)(gp:g.plan=plan)(hz:z<=400)(m8:aC m 8=some (.int n))
  (k:∀σ' m',Lp d A (z+12) plan pr u c t0 y scr so g h True m' e7 σ'->P .next m' σ'):
  aZ (tb.cx (N+12)) (N+12) (.cons (.ite (.or2 (.not (.call (.g (.ref 955)) (.cons (.v 1) (.cons (.v 3) (.cons (.v 4) (.cons (.v 2) .nil)))))) (.not (.call (.g (.ref 945)) (.cons (.v 1) (.cons (.v 3) (.cons (.v 4) (.cons (.v 2) .nil))))))) (.cons (.ret (.k (.bool false))) .nil) .nil) (.cons (.ite (.and2 (.cmp .Eq (.sub (.v 1) (.k (.int 3))) (.k (.int 1))) (.cmp .Eq (.v 8) (.v 7))) (.cons (.forIn [5,6] (.v 3) (.cons (.ex (.mc (.attr (.v 5) 21) 148 .nil)) (.cons (.ex (.mc (.attr (.v 5) 21) 147 .nil)) .nil))) .nil) .nil) .nil)) P m w:=by
 obtain⟨a,b,tl,bx,bnA,bnB,oc,s,T,E,F,ca,cb,_,M,m7⟩:=L;refine t9 (SJ (vA (SX (aG (aB M.n1) (aG (aB M.n3) (aG (aB M.n4) (aG (aB M.n2) aI)))) ug tZ (EY (N:=N) E F ca cb gp (Se hz) λσ1 a1 b1 aa am p r x Y T1 E1 F1 ah ai aj ak=>tBT (SV (vA (SX (aG (aB M.n1) (aG (aB M.n3) (aG (aB M.n4) (aG (aB M.n2) aI)))) dB dE (lu (N:=N+2) E1 F1 gp (J7 hz) λD a2 b2 ab E2 C A2 B2=>tBT (SV ?_)))))))));have ac:=aj.same A2;have ae:=ak.same B2;have af:=(congrArg Nd.calls A2.sm.nd).trans ah;have ag:=(congrArg Nd.calls B2.sm.nd).trans ai;have y:=jV (AD M.n1 E2.eBx.1 E2.B) (aN (m:=m) (σ:=D) (v:=.int 1));have t2:=jV (aB (σ:=D) m8) (aB m7);by_cases hc:(decide (A=1)&&decide (n=e7))=true
 ·refine dS (ip y λJ=>t2) hc (nB (PA:=Cp g d p x Y True) (PA':=Cp g d p x Y True) (PB:=Cp h d r x Y True) (PB':=Cp h d r x Y True) E2 ⟨C.A,af,λJ=>ac⟩ ⟨C.B,ag,λJ=>ae⟩ M.n3
   (λw a m P X h m5 k=>ls (N:=N+5) X h m5 λσ' a' X' E' h'=>gY (N:=N+10) X' h' m5 λB G O Q U=>bE (k B G O (E'.trans Q) U))
   (λw a m P X h m5 k=>ls (N:=N+5) X h m5 λσ' a' X' E' h'=>gY (N:=N+10) X' h' m5 λB G O Q U=>bE (k B G O (E'.trans Q) U))
   λal a3 b3 m3 E3 CA CB hm=>bE (k al m3 ⟨a3,b3,aa,ab,p,r,x,Y,T1,E3.ge (Gj),(C.L CA.1).R CB.1,CA.2.1,CB.2.1,λJ=>⟨CA.2.2 trivial,CB.2.2 trivial⟩,M.of λj h5 h6 J J J=>hm j h5 h6,(hm 7 (by decide) (by decide)).trans m7⟩))
 ·exact dH (ip y λJ=>t2) (Bool.eq_false_iff.mpr hc) (bE (k D m ⟨a2,b2,aa,ab,p,r,x,Y,T1,E2.ge (Gj),C,af,ag,λJ=>⟨ac,ae⟩,M,m7⟩))
end
end
section
section
variable{g g' h:Fx}{a b a' b' st st':St}{σ σ' σ0 σ1:H}{N:Nat}{Q:V->H->Prop}{P:Fl->Fs->H->Prop}{n:Int}{m:Fs}{ss:Ss}{e o j l r':E}{i k s d off:Nat}{bn:Nat->Int}{oc:Nat->Nat}{x:Cx}{nn:Nat}{p r:iS}{v:V}{z c:Int}{ob1 ob2:AO}{bs:List UInt8}{plan:iS}
variable{pr own box tl t0 t1 scr:iS}{so:AO}{bx:List Int}{oct:List UInt8}{T:List Nat}{bnA bnB:Nat->Int}
def zO{o:Obj}{xs:List Int}(u:σ scr=some (.fix o (xs.map .int)))(hl:xs.length<=1000)
  (k:∀σ' g h a b c pr own box tl t0 t1 plan bx d m',En g h a b σ' c 1 pr own box tl t0 t1 scr (.fix o (xs.map .int)) bx [] []->Cl g d (λJ=>0) (λJ=>0) 0 False a->Cl h d (λJ=>0) (λJ=>0) 0 False b->g.plan=plan->h.B=g.B->(c=0\/c=1)->Mf m' box plan pr own->aZ (tb.cx (N+12)) (N+12) ss P m' σ'):
  aZ (tb.cx (N+12)) (N+12) (.cons (.asg (.v 1) (.call (.g (.ref 907)) (.cons (.v 0) .nil))) (.cons (.asg (.v 2) (.call (.g (.ref 204)) (.cons (.k (.int 64)) (.cons (.bin .Add (.k (.int 24)) (.bin .Mult (.k (.int 2)) (.sub (.v 1) (.k (.int 3))))) (.cons (.k (.int 2)) (.cons (.k (.int 16)) (.cons (.bin .Add (.k (.int 1)) (.call (.g (.ref 914)) (.cons (.v 1) (.cons (.k (.int 2)) .nil)))) .nil))))))) (.cons (.asgN [3,4] (.tup (.cons (.comp (.call (.g (.ref 928)) (.cons (.call (.g (.ref 921)) (.cons (.v 2) .nil)) (.cons (.v 2) .nil))) [10] (.call (.g (.ty "range")) (.cons (.k (.int 2)) .nil)) (.k (.bool true))) (.cons (.dct2 (Str.ofString "octets") (Str.ofString "touched") (.k (.bytes [])) (.lst .nil)) .nil)))) ss))) P [(0,.ref scr)] σ:=by
 refine bX (kN (aG (aB rfl) aI) vQ wE (Hq (N:=N+11) u hl λσ1 box bx c G M y B0 v=>?_));have sb:=dU u G;have z:=(M scr (ea u)).trans u;refine bX (i6 (cn aN (cn (aY aN (cy aN (AD (i:=1) rfl y B0) (.of_left (Ex (by decide) (by decide))))) (cn aN (cn aN (bJ (lW aN (kN (aG (aB rfl) (aG aN aI)) ef ec (pT (N:=N+11) y B0 (by decide) (by decide) λO dd B1 Q d1=>wJ (IY zC Ba λplan w=>rV (N:=N+10) (GB v) (QP Q d1) (fw.start w) λU A=>⟨rfl,?_⟩))))))))));obtain⟨d,hd⟩:∃d:Nat,1+dd=(d:Int):=⟨(1+dd).toNat,by exact Qb Q⟩
 have A:=hd▸A;have C:=A.keep w (H.put_same ..);refine fL (oW (el (DC (N:=N+7) (plan:=plan) (B:=24+2*c) (d:=d) (GB v) (Sb Q hd d1) A.at' rfl rfl λY g h a b t0 t1 pr Tw CA CB gp gB aa ab=>bJ (N0 (aN (tb.cx (N+12)) (N+12) _ (gj aI rfl λtl r=>λown j=>⟨by simp,λtt s=>za (R:=λm=>aZ _ _ _ _ m _) (H.put_same ..) rfl (by decide) ?_⟩))))));have up:∀ {p:iS} {ob:AO},U p=some ob->Ow g h a b Y p ob:=λ{p ob} hp=>by
  refine eK (Tw.old p (ea hp)) λh1 h2 h3=>?_
  exact⟨h1.trans hp,h2,h3⟩
 have D:=up C;have x:=up (A.keep w ((H.put_ne _ _ sb).trans z));exact k _ g h a b c pr own box tl t0 t1 plan O d _ ⟨((Tw.W.new r).new j).new s,((ab.keep r).keep j).keep s,((Tw.o0.keep r).keep j).keep s,((Tw.o1.keep r).keep j).keep s,(Ow.new (ob1:=pz [] tl) (Tw.W.new (ob1:=.list []) r) j).keep s,((Ow.new (ob1:=.list []) Tw.W r).keep j).keep s,((D.keep r).keep j).keep s,((x.keep r).keep j).keep s,B1,(dU D.1 r).symm,sb,(dU ((x.keep r).1) j),dU x.1 r⟩ CA CB gp (aa.trans gB.symm) v ⟨rfl,rfl,rfl,rfl,rfl,rfl⟩
end
end
section
section
variable{g g' h:Fx}{a b a' b' st st':St}{σ c σ0 σ1:H}{N:Nat}{Q:V->H->Prop}{P:Fl->Fs->H->Prop}{n:Int}{m:Fs}{ss:Ss}{e o j l r':E}{i k s d off:Nat}{bn:Nat->Int}{oc:Nat->Nat}{x:Cx}{nn:Nat}{p r:iS}{v:V}{z C:Int}{ob1 ob2:AO}{bs:List UInt8}{plan:iS}
variable{pr B w tl t0 t1 A:iS}{so:AO}{bx:List Int}{oct:List UInt8}{T:List Nat}{bnA bnB:Nat->Int}
def FA(E:En g h a b σ C 1 pr B w tl t0 t1 A so bx [] [])(CA:Cl g d (λJ=>0) (λJ=>0) 0 False a)(CB:Cl h d (λJ=>0) (λJ=>0) 0 False b)(gp:g.plan=plan)(eB:h.B=g.B)(p:C=0\/C=1)(M:Mf m w plan pr B)
  (k:∀c r e7 z',Lp d C z' plan pr B w t0 t1 A so g h True r e7 c->z'<=100->aZ (tb.cx (N+12)) (N+12) ss P r c):
  aZ (tb.cx (N+12)) (N+12) (.cons (.forIn [5,6] (.v 3) (.cons (.ex (.mc (.attr (.v 5) 21) 147 .nil)) .nil)) (.cons (.asg (.v 7) (.call (.g (.ref 914)) (.cons (.v 1) (.cons (.k (.int 3)) .nil)))) (.cons (.forIn [8] (.call (.g (.ty "range")) (.cons (.bin .Add (.k (.int 1)) (.bin .Mult (.k (.int 2)) (.sub (.v 1) (.k (.int 3))))) .nil)) (.cons (.ite (.or2 (.not (.call (.g (.ref 955)) (.cons (.v 1) (.cons (.v 3) (.cons (.v 4) (.cons (.v 2) .nil)))))) (.not (.call (.g (.ref 945)) (.cons (.v 1) (.cons (.v 3) (.cons (.v 4) (.cons (.v 2) .nil))))))) (.cons (.ret (.k (.bool false))) .nil) .nil) (.cons (.ite (.and2 (.cmp .Eq (.sub (.v 1) (.k (.int 3))) (.k (.int 1))) (.cmp .Eq (.v 8) (.v 7))) (.cons (.forIn [5,6] (.v 3) (.cons (.ex (.mc (.attr (.v 5) 21) 148 .nil)) (.cons (.ex (.mc (.attr (.v 5) 21) 147 .nil)) .nil))) .nil) .nil) .nil))) ss))) P m σ:=by
 refine nB (PA:=Cl g d (λJ=>0) (λJ=>0) 0 False) (PA':=Cp g d (λJ=>0) (λJ=>0) 0 False) (PB:=Cl h d (λJ=>0) (λJ=>0) 0 False) (PB':=Cp h d (λJ=>0) (λJ=>0) 0 False) E CA CB M.n3 (λσ a m P X h z k=>gY (N:=N+10) X h z λc a' D G O=>bE (k c a' D G O)) (λσ a m P X h z k=>gY (N:=N+10) X h z λc a' D G O=>bE (k c a' D G O)) λQ a2 b2 m2 E2 DA DB hm=>?_
 have M2:=M.of λj h5 h6 J J J=>hm j h5 h6
 refine bX (t4 (N:=N+11) E2 (by decide) (by decide) (aG (aB M2.n1) (aG aN aI)) λx u U hu=>?_);have M3:Mf (bB m2 7 (.int (u:Int))) w plan pr B:=M2.of λj J J h7 J J=>by rw [bN,if_neg (NS h7)]
 have h0:Lp d C (1+1) plan pr B w t0 t1 A so g h (¬0=0) (bB m2 7 (.int (u:Int))) u (Q.put w (.list (x.map .int))):=
  ⟨a2,b2,tl,x,λJ=>0,λJ=>0,λJ=>0,0,[],U,F2.zero DA.1 DB.1 eB,DA.2.1,DB.2.1,λh=>absurd rfl h,M3,ct⟩
 refine Dz (pk (aG (aY aN (cy aN (AD M3.n1 U.eBx.1 U.B) (.of_left (Ex (by decide) (by decide))))) aI) ⟨by exact Oa p,by exact Qu p,λy hy=>?_⟩);show(match sq (.ref y) _ with|some k=>_|none=>False);rw [tY (H.put_same ..)];obtain⟨L,hL,v⟩:∃L:Nat,1+2*C=(L:Int)/\0<L/\L<=3:=⟨(1+2*C).toNat,by exact NG p,by exact PQ p⟩
 refine hL▸ ?_;refine ji L (λi=>.int (0+(i:Int))) (λi r c=>Lp d C (2+12*(i:Int)) plan pr B w t0 t1 A so g h (¬i=0) r u c) (λi r c J Y=>?_) (λr c J=>?_) (λi r c hI Y I' kI=>⟨_,rfl,?_⟩) (λr c hI=>?_) ?_
 ·exact congrArg _ (eX (by exact Bh Y))
 ·show some (if _ then _ else _)=_;rw [if_neg (by exact BI)]
 ·refine DT (N:=N) (e7:=(u:Int)) (hI.re id (λM1=>M1.of λj J J J h8 J=>by rw [bN,if_neg (NS h8)]) aP) gp (NI v Y) ct λaa z L5=>kI _ _ ?_
  rw [(by rfl:2+12*(i:Int)+12=2+12*((i+1:Nat):Int))] at L5;exact L5.re (λJ=>trivial) id id
 ·exact k c r u _ (hI.re (λJ=>Sg v) id id) (QH v)
 ·obtain⟨a,b,tl,bx,bnA,bnB,oc,s,T,E,F,ca,cb,R,M,m7⟩:=h0;exact⟨a,b,tl,bx,bnA,bnB,oc,s,T,E.new hy,F,ca,cb,R,M,m7⟩
def law_ok{o:Obj}{xs:List Int}(j:σ A=some (.fix o (xs.map .int)))(v:xs.length<=1000)
  (q:∀c,c A=some (.fix o (xs.map .int))->Q (.bool true) c):tb.cf (N+13) 960 [.ref A] Q σ:=by
 refine D0 (zO j v λσ1 g h a b C pr B w tl t0 t1 plan bx d m1 x y z r D k G=>?_);refine FA (N:=N) x y z r D k G λJ m2 e7 z' m M=>?_
 obtain⟨a2,b2,O,U,bnA,bnB,oc,s,T,Y,p,ca,cb,R,M2,m7⟩:=m;refine zN (N:=N) Y p ca (R trivial).1 M2 λaa a3 u ab m3 E3 F3 c3 R3 M3=>?_
 exact Ef (N:=N) E3 F3 c3 cb R3 (R trivial).2 r (PY M) M3 q
end
end
end L04
section
open PySem.Calls
noncomputable def WI(P:Zd)(h:UT)(v:Value):WData->Prop
 | .int i=>∃t,v=.int i t
 | .list g=>∃(b:iS) (c:List Value),v=.ref b/\IsL h b c.toArray 0/\WellAll P h c g
 |_=>True
def vE{P:Zd}{h:UT}{v:Value}{d:WData}(W:Well P h v d):WI P h v d:=by
 cases W<;>first|exact⟨_,rfl⟩|exact⟨_,_,rfl,by assumption,by assumption⟩|exact trivial
def zF{P:Zd}{h:UT}{b:List Int}:∀ {vs:List Value},WellAll P h vs (b.map .int)->vs.map er=b.map .int:=by
 induction b with
 |nil=>exact λW=>by cases W;rfl
 |cons n b c=>
  intro vs W;obtain⟨v,m,e,g,j⟩:=abB W;obtain⟨t,k⟩:=vE g;subst e;subst k;exact congrArg (_:: ·) (c j)
noncomputable abbrev Nb:OpenRow:=PySem.Challenge.rw_zu0078_04.row
def CS{P:Zd}{h:UT}{c:List WData}{cu:List Value}(j:Nb.toRowW.claim.pre c=true)(W:WellAll P h cu c):
  ∃(b:iS) (vs:List Value) (m:List Int) (xs:List WData),c= [.list xs]/\cu= [.ref b]/\IsL h b vs.toArray 0/\vs.map er=m.map .int/\m.length<=63:=by
 obtain⟨u,w⟩:=pre_splitW j;obtain⟨d,r,e,x,y⟩:=hasAllW_cons u;subst e;obtain rfl:=hasAllW_nil y;obtain⟨xs,e,z⟩:=hasW_list x;subst e;obtain⟨k,e⟩:=items_int z;subst e;obtain⟨v,J,e,A,B⟩:=abB W;obtain⟨b,vs,C,g,G⟩:=vE A;subst e;subst C;refine⟨b,vs,k,_,rfl,by cases B;rfl,g,zF G,?_⟩;have p:WTm.holds [] (.and (.not (.lit (.bool (decide ((63:Int)<((k.map aal).length:Int)))))) (.lit (.bool true))) {args:= [.list (k.map .int)]}=true:=w;by_cases s:(63:Int)<((k.map aal).length:Int)
 ·rw [lO s] at p;exact fT p
 ·exact Int.ofNat_le.mp (eS (f:=aal)▸Int.not_lt.mp s)
def IX{b c:List WData}:Nb.claim.post b (.bool true) c=true:=by kernel_rfl
def Qk:sU 13 callerA:=⟨rfl,by decide+kernel,by decide+kernel,rfl⟩
set_option tactic.hygienic true in
def Hh{K:YY}{h:UT}(k:K.In h)(b:zi K=true){a:iS}(g:h.nsMap UX (Str.ofString "law")=some (.ref a)):a=960:=by
 unfold zi at b;generalize j:K.lookup UX=m;induction m with
 |none=>rw [j] at b;exact fT b
 |some o=>
  rw [j] at b;obtain⟨c,d,p,s⟩:=o;induction p with
  |dict r u=>
   unfold Heap.nsMap at g;rw [k _ _ j] at g;have g:VG r (Str.ofString "law")=some (.ref a):=g;cases g.symm.trans (eq_of_beq b);rfl
  |_=>exact fT b
def IT:GF G9 Nb.toRowW:=by
 intro w M g ⟨K,u,hT,hL⟩ a ha O cu as p L;obtain rfl:=Hh u hL ha;refine A9 (CS p L.well) λb vs Q xs y A B he hl=>?_;subst y;subst A
 have TK:=DE (k:=Br w K) (L:=L04.tab) rfl Fe hT;have G:K.lookup b=none:=by
  generalize q:K.lookup b=zz;induction zz with
  |none=>rfl
  |some o=>
   have h2:b∈as:=by
    have r:=L.reads;cases r with
    |cons r1 r2=>cases r1;exact .head _
   cases(u _ _ q).symm.trans (Laid.new L h2)
 let ob:Obj:={cls:=.type "list",dict:=none,data:=.seq vs.toArray 0,slots:= #[]}
 let U:AO:=.fix ob (Q.map .int)
 let s:PH:=λx=>if x=b then none else g.heap.get? x
 have X:I (Br w K) s (H.put (λJ=>none) b U) g.heap:=by
  refine⟨λx o c=>?_,λx o c=>?_,λJ=>0,λx o c=>?_,λx o c=>?_,λx C fs c=>?_⟩
  ·by_cases e:x=b
   ·rw [show s x=none from eX e] at c;exact nN c
   ·rw [show s x=g.heap.get? x from if_neg e] at c;exact c
  ·have e:x≠b:=λe=>by rw [e,show(Br w K).K.lookup b=none from G] at c;exact nN c
   rw [show s x=g.heap.get? x from if_neg e];exact L.keeps _ _ (u _ _ c)
  ·by_cases e:x=b
   ·subst e;rw [H.put_same] at c;obtain rfl:=eQ c;exact⟨B,_,_,B,he⟩
   ·rw [H.put_ne _ _ e] at c;exact nN c
  ·by_cases e:x=b
   ·exact eX e
   ·rw [H.put_ne _ _ e] at c;exact nN c
  ·by_cases e:x=b
   ·subst e;rw [H.put_same] at c;cases(show some (AO.fix ob (Q.map .int))=some (AO.inst C fs) from c)
   ·rw [H.put_ne _ _ e] at c;exact nN c
 have run:=Db TK 13 aa9 s (.ref 960) [.ref b] Qk (λv m=>v=.bool true/\m b=some U) _ g
  (L04.callF L04.ok_wlaw L04.ni_wlaw (L04.law_ok (N:=0) (H.put_same ..) (by lia) λm h=>⟨rfl,h⟩)) X
 refine aJ run (λv s' z=>?_) λJ J z=>z
 obtain⟨⟨h',t',rfl⟩,m,⟨hv,hs⟩,Y⟩:=z;obtain rfl:=ju hv;have j:∀x o,g.heap.get? x=some o->h'.get? x=some o:=λx o c=>by
  by_cases e:x=b
  ·subst e;obtain⟨δ,Ly⟩:=Y.lay;obtain⟨h1,_⟩:=Ly.enc _ _ hs;rw [show g.heap.get? x=some ob from B] at c;obtain rfl:=eQ c;exact h1
  ·exact Y.fz x o ((if_neg e).trans c)
 refine⟨.inl ⟨_,.bool true,[],rfl,λJ=>rfl,.bool true,IX,λJ=>⟨.nil,λJ h=>nM h⟩⟩,⟨λx o c=>.inl (j x o c),λx o c=>⟨o,j x o c⟩⟩,rfl,.of_eq L.gens⟩
end
section
open PySem.Calls
def isS:(defOf Jq (Str.ofString "law")).isSome=true:=by kernel_rfl
noncomputable def d04:=(defOf Jq (Str.ofString "law")).get isS
def Tq:Nb.toRowW.promised:=⟨[.list []],by decide+kernel,by decide+kernel⟩
end
end Internal
open Internal PySem.Calls
theorem fin:PySem.Challenge.rw_zu0078_04.Holds:=by
 refine holds_law IU λb=>?_
 exact EK (r:=Nb) (q:=Jq) (loose:=pH) (YP:=G9) (d:=d04.1) (kwd:=d04.2) (N:=7000) Hl ((Option.some_get isS).symm) (by kernel_rfl) (by kernel_rfl) (by kernel_rfl) b (by decide+kernel) ⟨rfl,rfl,rfl,rfl,rfl,by decide+kernel⟩ Tq IT
end
end Mine
theorem PySem.Challenge.cw_zu0078_04_holds : PySem.Challenge.rw_zu0078_04.Holds :=
Mine.fin
